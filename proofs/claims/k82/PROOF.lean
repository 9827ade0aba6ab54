import PyProof.Rows.All
import HandS.ForMost
import HandS.Exc
import HandS.ExcOwn
import HandS.ExcField
import HandS.ExcInit
import HandS.ExcIs
import HandS.IsInst
import HandS.TryOnly
import HandS.TryElse
import HandS.WordsExc
import HandS.Wide
import HandS.Conv
import HandS.SortInts
import HandS.Defaults
import HandS.CallSlots
import HandS.HotCalls
import HandS.Style
import HandS.Deep
import HandS.HeadHook3
import HandS.SortOrd
import HandS.HeadHook4
import HandS.DeepEq
import KE.KEqNest
import HandS.ClsMeth
import HandS.Text
import HandS.More
import PyProof.StrOps2
import PyProof.StrCalls6
import HandS.Replace
import HandS.Head2
import HandS.HeadEnd
import HandS.EndBits
import PySem.Challenge.RW_stillheap_k82_pace_refused
import HandS.Iter
import HandS.Walk
import HandS.SetFor
import HandS.Strs
import HandS.WordsDict
import KE.IntTextLaws
import PyProof.Rows.Walk
set_option Elab.async false
set_option linter.all false
set_option maxRecDepth 100000
set_option maxHeartbeats 2000000
namespace SX0
open PySem PySem.Spec PyProof.Rows L2
/-- a def that keeps its promise, however its function object is called -/
def GoodF (P : Program) (w : World) (K : PySem.W.Frag) (mg : Str → Option Value) (base : Heap) (k : Nat) (f : Addr) (fd : FuncData) (ps : List Str) (sp : Sp) : Prop :=
  FnOk P w K mg base (L2.CX P w) k f fd ps sp ∧ Binds K fd ps [] ∧ PySem.W.keepIn K (.ref f) = true
def Good (P : Program) (w : World) (K : PySem.W.Frag) (mg : Str → Option Value) (base : Heap) (k : Nat) (f : Addr) (ps : List Str) (sp : Sp) : Prop :=
  ∃ fd, GoodF P w K mg base k f fd ps sp
theorem Good.mono {P : Program} {w : World} {K : PySem.W.Frag} {mg : Str → Option Value} {base : Heap} {j k : Nat} {f : Addr} {ps : List Str} {sp : Sp} (g : Good P w K mg base j f ps sp) (h : j ≤ k) : Good P w K mg base k f ps sp := by
  obtain ⟨fd, F, b, kp⟩ := g
  exact ⟨fd, F.mono h, b, kp⟩
/-- what leaves a def, at any slots -/
abbrev WD (E : XK) : WX := fun cls d _ H => E cls d H
abbrev W0 : WX := fun _ _ _ _ => False
section
variable {X : Cx} {W : WX} {k : Nat} {f C : Addr} {ps : List Str} {sp : Sp} {x m : Str} {p pos apos : Pos} {e o : Expr} {es : List Expr} {ta : TE} {t : TA}
theorem pe_cU (G : Good X.prog X.w X.K X.mg X.base k f ps sp) (hr : Room k X.A) (tk : Takes X W) (hg : Gl X x) (hm : X.mg x = some (.ref f))
    (ha : PA X (e :: es) t) (hdb : (x == ("__debug__" : Str)) = false := by decide) (he : starEach (e :: es) X.env = (false, eval e X.env) :: starEach es X.env := by rfl) (hpl : (backTo pos (starEach es X.env)).any (·.1) = false := by rfl) :
    PE X (.Call (.Name x p) (e :: es) [] pos) (tCallS sp (WE W) t) := by
  obtain ⟨fd, F, b, kp⟩ := G
  exact pe_callS F hr hg hm kp b (fun σ => passAt tk σ) ha hdb he hpl
theorem pe_cU0 (G : Good X.prog X.w X.K X.mg X.base k f ps sp) (hr : Room k X.A) (tk : Takes X W) (hg : Gl X x) (hm : X.mg x = some (.ref f))
    (hdb : (x == ("__debug__" : Str)) = false := by decide) :
    PE X (.Call (.Name x p) [] [] pos) (tCallS sp (WE W) tNil) := by
  obtain ⟨fd, F, b, kp⟩ := G
  refine ⟨fun pins s σ H Q I h => ?_⟩
  refine wpAny_Call_Name_kw (ld_glob I hg hm ?_ hdb)
  exact PySem.W.callWith_K0 I.kIn kp (run_fnS (us := []) F hr b (passAt tk σ) I .nil h)
/-- a choice of classes for a method's receiver -/
abbrev Alt := Addr × Addr × Sp
def AltOk (X : Cx) (k : Nat) (ps : List Str) (m : Str) (a : Alt) : Prop := Cls X.K a.1 ∧ Meth X.K a.1 m a.2.1 ∧ Good X.prog X.w X.K X.mg X.base k a.2.1 ps a.2.2
theorem altok_nil {X : Cx} {k : Nat} {ps : List Str} {m : Str} : ∀ al ∈ ([] : List Alt), AltOk X k ps m al := fun _ h => nomatch h
theorem altok_cons {X : Cx} {k : Nat} {ps : List Str} {m : Str} {C f : Addr} {sp : Sp} {r : List Alt} (h : Cls X.K C ∧ Meth X.K C m f ∧ Good X.prog X.w X.K X.mg X.base k f ps sp) (hr : ∀ al ∈ r, AltOk X k ps m al) : ∀ al ∈ (C, f, sp) :: r, AltOk X k ps m al := fun al hm => by
  rcases List.mem_cons.mp hm with e | e
  · rw [e]; exact h
  · exact hr al e
/-- o.m(..), o of one of some classes -/
def tMU (alts : List Alt) (m : Str) (W : WX) (ta : TE) (t : TA) : TE := fun σ H Q => ta σ H fun x H1 => ∃ al ∈ alts, ∃ a dx fs, x = .ref a ∧ H1 a = some (.ins al.1 dx fs) ∧ fs.lookup m = none ∧
  t σ H1 fun vs H2 => al.2.2 (x :: vs) H2 Q (WE W σ)
theorem pe_mU {alts : List Alt} {pl : Sem Bool} (he : PE X o ta) (hal : ∀ al ∈ alts, AltOk X k ps m al) (hr : Room k X.A) (tk : Takes X W) (ha : PA X (e :: es) t)
    (hst : starEach (e :: es) X.env = (false, eval e X.env) :: starEach es X.env := by rfl) (hpl : (backTo pos (starEach es X.env)).any (·.1) = false := by rfl)
    (ht : eval (.Call (.Attribute o m apos) (e :: es) [] pos) X.env = (do
      let ov ← eval o X.env
      standAt apos.atName
      let (f, first) ← holding [ov] (getMethod ov m pl)
      callWith pos f first (backTo pos (starEach (e :: es) X.env)) (backToKw pos (keywordEach [] X.env))) := by rfl) :
    PE X (.Call (.Attribute o m apos) (e :: es) [] pos) (tMU alts m W ta t) := by
  refine ⟨fun pins s σ H Q I h => ?_⟩
  refine PySem.W.methodCall_KW (pl := pl) (thn (he.run pins s σ H _ I h) fun u s1 ⟨x, H1, I1, rx, al, hm, a, dx, fs, ex, ea, l, q⟩ => ?_) ht
  obtain ⟨c, hm, fd, F, b, kp⟩ := hal al hm
  subst ex
  obtain rfl : u = Value.ref a := rx
  refine getmeth_ok I1 ea c hm l ?_
  refine PySem.W.callWith_K (first := [.ref a]) (h₀ := X.base) I.ok.mod.kin hm.kp (thn (ha.run pos pins s1 σ H1 _ I1 q) fun us s2 ⟨vs, H2, I2, r, q2⟩ => ⟨I2.kIn, ?_⟩) hst hpl
  exact run_fnS (us := .ref a :: us) (vs := .ref a :: vs) F hr b (passAt tk σ) I2 (.cons rfl r) q2
theorem pe_mU0 {alts : List Alt} {pl : Sem Bool} (he : PE X o ta) (hal : ∀ al ∈ alts, AltOk X k ps m al) (hr : Room k X.A) (tk : Takes X W)
    (ht : eval (.Call (.Attribute o m apos) [] [] pos) X.env = (do
      let ov ← eval o X.env
      standAt apos.atName
      let (f, first) ← holding [ov] (getMethod ov m pl)
      callWith pos f first (backTo pos (starEach [] X.env)) (backToKw pos (keywordEach [] X.env))) := by rfl) :
    PE X (.Call (.Attribute o m apos) [] [] pos) (tMU alts m W ta tNil) := by
  refine ⟨fun pins s σ H Q I h => ?_⟩
  refine PySem.W.methodCall_KW (pl := pl) (thn (he.run pins s σ H _ I h) fun u s1 ⟨x, H1, I1, rx, al, hm, a, dx, fs, ex, ea, l, q⟩ => ?_) ht
  obtain ⟨c, hm, fd, F, b, kp⟩ := hal al hm
  subst ex
  obtain rfl : u = Value.ref a := rx
  refine getmeth_ok I1 ea c hm l ?_
  exact PySem.W.callWith_K0 (first := [.ref a]) I1.kIn hm.kp (run_fnS (us := [.ref a]) (vs := [.ref a]) F hr b (passAt tk σ) I1 (.cons rfl .nil) q)
/-- C(..) -/
def tMkS (C : Addr) (sp : Sp) (W : WX) (t : TA) : TE := fun σ H Q => t σ H fun vs H1 => ∀ x dx, H1 x = none → H1 dx = none → dx ≠ x →
  sp (.ref x :: vs) (upd (upd H1 dx (.own x)) x (.ins C dx [])) (fun v H2 => v = .non ∧ Q (.ref x) H2) (WE W σ)
theorem inv_made_eq {pins : List (Addr × Obj)} {σ : L2.St} {H : Hp} {s : Shared} (I : Inv X pins σ H s) (C : Addr) : True := True.intro
theorem run_mkS {pins : List (Addr × Obj)} {σ : L2.St} {H : Hp} {s : Shared} {Q : VK} {us : List Value} {vs : List V} (M : Mk X.K C f) (G : Good X.prog X.w X.K X.mg X.base k f ps sp) (hr : Room (k + 1) X.A)
    (tk : Takes X W) (I : Inv X pins σ H s) (r : Vals vs us)
    (h : ∀ x dx, H x = none → H dx = none → dx ≠ x → sp (.ref x :: vs) (upd (upd H dx (.own x)) x (.ins C dx [])) (fun v H2 => v = .non ∧ Q (.ref x) H2) (WE W σ)) :
    wpAny (model X.prog X.w) X.A (call (.ref C) us) (EP X pins σ Q) X.xe s := by
  obtain ⟨fd, F, hb, kp⟩ := G
  have hq := h (s.heap.objs.size + 1) s.heap.objs.size (I.hok.fresh (Nat.le_succ _)) (I.hok.fresh (Nat.le_refl _)) (Nat.ne_of_lt (Nat.lt_succ_self _))
  have I2 := Inv.made (C := C) I
  have r2 : Vals (V.ref (s.heap.objs.size + 1) :: vs) (Value.ref (s.heap.objs.size + 1) :: us) := .cons rfl r
  have hl : (Value.ref (s.heap.objs.size + 1) :: us).length = ps.length := by
    have e := r2.length
    rw [F.len _ _ _ _ hq] at e
    exact e.symm
  have b := hb _ (Value.ref (s.heap.objs.size + 1) :: us) I2.kIn (by rw [List.append_nil]; exact hl)
  rw [List.append_nil] at b
  refine wpAny_call (make_map (f := f) I.kIn M.makes M.init (beq_iff_eq.mp M.fn) (codeAny_mono (F.run _ X.stack _ _ ⟨Value.ref (s.heap.objs.size + 1) :: us, []⟩ (Value.ref (s.heap.objs.size + 1) :: us) _ _ (WE W σ) (hr.make C us [])
    (I2.env0.make C us []) b r2 hq) fun r s' hq' => ?_))
  cases r with
  | error e => exact passAt tk σ pins _ _ e s' I2 hq'
  | ok fl =>
    cases fl with
    | ret u =>
      obtain ⟨v, H', I3, rv, ev, q3⟩ := I2.after hq'
      subst ev
      exact ⟨rv, ⟨V.ref (s.heap.objs.size + 1), H', I3, rfl, q3⟩⟩
    | next => exact False.elim hq'
    | brk => exact False.elim hq'
    | cont => exact False.elim hq'
theorem pe_mkU (M : Mk X.K C f) (G : Good X.prog X.w X.K X.mg X.base k f ps sp) (hr : Room (k + 1) X.A) (tk : Takes X W) (hg : Gl X x) (hm : X.mg x = some (.ref C))
    (ha : PA X (e :: es) t) (hdb : (x == ("__debug__" : Str)) = false := by decide) (he : starEach (e :: es) X.env = (false, eval e X.env) :: starEach es X.env := by rfl) (hpl : (backTo pos (starEach es X.env)).any (·.1) = false := by rfl) :
    PE X (.Call (.Name x p) (e :: es) [] pos) (tMkS C sp W t) := by
  refine ⟨fun pins s σ H Q I h => ?_⟩
  refine wpAny_Call_Name_kw (ld_glob I hg hm ?_ hdb)
  refine PySem.W.callWith_K (h₀ := X.base) I.ok.mod.kin M.kp (thn (ha.run pos pins s σ H _ I h) fun us s1 ⟨vs, H1, I1, r, q⟩ => ⟨I1.kIn, ?_⟩) he hpl
  exact run_mkS M G hr tk I1 r q
theorem pe_mkU0 (M : Mk X.K C f) (G : Good X.prog X.w X.K X.mg X.base k f ps sp) (hr : Room (k + 1) X.A) (tk : Takes X W) (hg : Gl X x) (hm : X.mg x = some (.ref C))
    (hdb : (x == ("__debug__" : Str)) = false := by decide) :
    PE X (.Call (.Name x p) [] [] pos) (tMkS C sp W tNil) := by
  refine ⟨fun pins s σ H Q I h => ?_⟩
  refine wpAny_Call_Name_kw (ld_glob I hg hm ?_ hdb)
  exact PySem.W.callWith_K0 I.kIn M.kp (run_mkS (us := []) M G hr tk I .nil h)
end

/-! ### list + list, whatever holds them -/
/-- a list to be read whose object is known to the letter: tracked, locked, or one of the module's -/
def SqX (K : PySem.W.Frag) (H : Hp) (a : Addr) (xs : List V) : Prop :=
  Rd H a (.lst xs) ∨ ∃ its : List Value, K.lookup a = some { cls := .type "list", data := .seq its.toArray } ∧ its.length ≤ sizeLine ∧ Vals xs its
theorem SqX.sql {K : PySem.W.Frag} {H : Hp} {a : Addr} {xs : List V} (h : SqX K H a xs) : SqL K H a xs := by
  rcases h with h | ⟨its, h, z, r⟩
  · exact .inl h
  · exact .inr ⟨_, its.toArray, _, h, rfl, rfl, rfl, by rw [List.size_toArray]; exact z, by simpa using r⟩
theorem SqX.of {K : PySem.W.Frag} {H : Hp} {a : Addr} {xs : List V} (h : H a = some (.lst xs)) : SqX K H a xs := .inl (.inl h)
theorem Same.sqx {K : PySem.W.Frag} {H H' : Hp} {a : Addr} {xs : List V} (s : Same H H') (h : SqX K H a xs) : SqX K H' a xs := by
  rcases h with (h | ⟨o, h⟩) | h
  · exact .inl (.inl (s _ _ h))
  · exact .inl (.inr ⟨o, s _ _ h⟩)
  · exact .inr h
def rCatS (K : PySem.W.Frag) : R2 := fun x y H Q => ∃ l b xs zs, x = .ref l ∧ y = .ref b ∧ SqX K H l xs ∧ SqX K H b zs ∧ xs.length + zs.length ≤ sizeLine ∧ ∀ p, H p = none → Q (.ref p) (upd H p (.lst (xs ++ zs)))
section
variable {X : Cx}
theorem sqx_at {pins : List (Addr × Obj)} {σ : L2.St} {H : Hp} {s : Shared} {a : Addr} {xs : List V} (I : Inv X pins σ H s) (h : SqX X.K H a xs) :
    ∃ (its : List Value) (n : Nat), Vals xs its ∧ s.heap.get? a = some { cls := .type "list", data := .seq its.toArray n } := by
  rcases h with h | ⟨its, h, z, r⟩
  · obtain ⟨_, its, n, r, e⟩ := h.ok I.hok
    exact ⟨its, n, r, e⟩
  · exact ⟨its, 0, r, I.kIn _ _ h⟩
theorem op_catS : OpR X (binaryOp .Add) (rCatS X.K) := by
  intro pins s σ H x y v u Q I rx ry h
  obtain ⟨l, b, xs, zs, rfl, rfl, hH, hB, hz, q⟩ := h
  cases rx
  cases ry
  obtain ⟨its, n, r, e⟩ := sqx_at I hH
  obtain ⟨its2, n2, r2, e2⟩ := sqx_at I hB
  have l1 := r.length
  have l2 := r2.length
  refine PySem.P.add_list e e2 ?_ (by rw [List.size_toArray, List.size_toArray]; omega)
  have ea : its.toArray ++ its2.toArray = (its ++ its2).toArray := by simp
  rw [ea]
  exact ⟨.ref _, _, I.lnew (t' := s.toks) (r.append r2) (by rw [List.length_append]; omega), rfl, q _ I.fresh⟩
end
end SX0

set_option Elab.async false
set_option linter.all false
set_option maxRecDepth 100000
set_option maxHeartbeats 4000000
namespace SX0
open PySem PySem.Spec PyProof.Rows L2
/-- a caught exception that is kept: its class, its own dict -/
def xob (a : Addr) (cls : Value) (d : Option Addr) : HO := .ext fun h => ∃ o vs, h.get? a = some o ∧ o.cls = cls ∧ o.dict = d ∧ o.data = .fields vs
theorem xob_ok {P : Program} {w : World} {H : Hp} {h : Heap} {a : Addr} {cls : Value} {d : Option Addr} {oe : Obj} {vs : Array Value} (e : h.get? a = some oe) (z : Zc cls d oe) (hd : oe.data = .fields vs) : ObjOk P w H h a (xob a cls d) :=
  ⟨⟨oe, vs, e, z.1, z.2, hd⟩, ⟨_, e⟩, fun h1 h2 q k => by
    obtain ⟨o, vs, e, q⟩ := q
    exact ⟨o, vs, k _ e, q⟩⟩
theorem xob_at {P : Program} {w : World} {H : Hp} {h : Heap} {a : Addr} {cls : Value} {d : Option Addr} (hok : HOk P w H h) (e : H a = some (xob a cls d)) : ∃ o vs, h.get? a = some o ∧ o.cls = cls ∧ o.dict = d ∧ o.data = .fields vs := by
  have x : ObjOk P w H h a (.ext fun h => ∃ o vs, h.get? a = some o ∧ o.cls = cls ∧ o.dict = d ∧ o.data = .fields vs) := hok a _ e
  exact x.1
section
variable {X : Cx} {pins : List (Addr × Obj)} {σ : L2.St} {H : Hp} {s : Shared}
theorem Inv.track {a : Addr} {o : HO} (I : Inv X pins σ H s) (hn : X.s_0.heap.get? a = none) (na : H a = none) (nL : a ≠ X.env.locals) (nC : ∀ x c, X.env.cells.lookup x = some c → c ≠ a)
    (np : ∀ p ∈ X.pn ++ pins, p.1 ≠ a) (ok : ObjOk X.prog X.w (upd H a o) s.heap a o) : Inv X pins σ (upd H a o) s := by
  refine ⟨I.ok, I.os, I.bare, ⟨I.base.keep, I.base.slot, fun b o' e n hx => ?_, I.base.there, fun b xs e => ?_, fun b o' u e => ?_, fun b ps e => ?_⟩, I.loc, I.cell, ?_, fun x c e => ?_, fun p hp => ?_, fun b u e => ?_, I.len⟩
  · rw [upd_ne (fun z => by rw [z, hn] at e; cases e)]
    exact I.base.free b o' e n hx
  · have q := I.base.tups b xs e
    rw [upd_ne (ne_of_none q na)]; exact q
  · have q := I.base.frzs b o' u e
    rw [upd_ne (ne_of_none q na)]; exact q
  · obtain ⟨m, q⟩ := I.base.tbls b ps e
    exact ⟨m, by rw [upd_ne (ne_of_none q na)]; exact q⟩
  · rw [upd_ne (Ne.symm nL)]; exact I.free
  · rw [upd_ne (nC x c e)]; exact I.freeC x c e
  · obtain ⟨e, n, r⟩ := I.pin p hp
    exact ⟨e, by rw [upd_ne (np p hp)]; exact n, r⟩
  · by_cases hb : b = a
    · subst hb
      rw [upd_same] at e; cases e; exact ok
    · rw [upd_ne hb] at e
      exact (I.hok b u e).stay (fun _ _ _ q => q) (fun c q => by rw [upd_ne (ne_of_none q na)]; exact q) fun c xs q => by rw [upd_ne (ne_of_none q na)]; exact q
theorem Inv.suite0 (I : Inv X pins σ H s) (a : Addr) : Inv (X.suite a (X.pn ++ pins)) [] σ H s :=
  ⟨I.ok.suite _ _, I.os, I.bare, I.base, I.loc, I.cell, I.free, I.freeC, fun p hp => by
    rw [List.append_nil] at hp
    exact I.pin p hp, I.hok, I.len⟩
theorem Inv.unsuite0 {a : Addr} {pn' : List (Addr × Obj)} (I : Inv (X.suite a (X.pn ++ pins)) pn' σ H s) (ok : X.Ok) : Inv X pins σ H s :=
  ⟨ok, I.os, I.bare, I.base, I.loc, I.cell, I.free, I.freeC, fun p hp => I.pin p (List.mem_append_left _ hp), I.hok, I.len⟩
end
/-- what the clause 'except x as n' wishes, where the caught exception is kept in the heap -/
def wAsT (K : PySem.W.Frag) (c : Value) (i : Nat) (ts : TS) (Wout : WX) (D : Ends) : WX := fun cls d σ H =>
  ∃ b, PySem.W.exmOne K cls c = some b ∧ (b = true → ∀ a, H a = none → ts { nx := fun σ' H' => D.nx (σ'.set i none) H', rt := D.rt, bk := fun σ' H' => D.bk (σ'.set i none) H', ct := fun σ' H' => D.ct (σ'.set i none) H' } (σ.set i (some (.ref a))) (upd H a (xob a cls d))) ∧
    (b = false → Wout cls d σ H)
section
variable {X : Cx} {x n : Str} {c : Value} {i : Nat} {body suite : List Stmt} {b₀ : Stmt} {np pos pos' : Pos} {tb : WX → TS} {ts : TS} {Wout : WX}
theorem ps_try_asT (hs : X.stack = X.env :: X.outer) (hf : X.env.frame = some X.env.locals) (hex : X.ex = []) (hN : X.N.Nodup) (hi : X.N[i]? = some n) (hln : X.env.kindOf n = some .local) (hc : Names X x c) (tk : Takes X Wout)
    (hb : ∀ (W : WX) (pn : List (Addr × Obj)) (xe : Value → Shared → Prop), Takes (X.tr pn xe) W → PassesOwn (model X.prog X.w) X.A X.env xe → PSs (X.tr pn xe) body (tb W))
    (hsu : ∀ (a : Addr) (pn : List (Addr × Obj)), PSs (X.suite a pn) (b₀ :: suite) ts) :
    PS X (.Try body [.ExceptHandler (some (.Name x np)) (some n) (b₀ :: suite) pos'] [] [] pos) (fun D σ H => tb (wAsT X.K c i ts Wout D) D σ H) := by
  refine ⟨fun pins s σ H D I h => ?_⟩
  have ok := I.ok
  have hfr : X.A.frames = some (X.env :: X.outer) := by rw [ok.frames, hs]
  have hloc : Loc X.env.scope n := .inl hln
  refine wpAny_Try_except ?_
  refine wpAny_mono ((hb (wAsT X.K c i ts Wout D) (X.pn ++ pins) (fun e s₁ => wpAny (model X.prog X.w) X.A (noteFrame e X.env) (fun _ s₂ => wpAny (model X.prog X.w) X.A (setFlight e none) (fun _ s₃ =>
    wpAny (model X.prog X.w) X.A (handleBy e X.env [.ExceptHandler (some (.Name x np)) (some n) (b₀ :: suite) pos']) (SP X pins D) X.xe s₃) X.xe s₂) X.xe s₁) (fun u s' xx => ?_) PassesOwn.looking).run [] s σ H D (I.toTry _) h) (fun f s1 hsp => ?_) (fun e s1 he => he)
  · -- the catch
    obtain ⟨a, B, sI, pins', σ', H', cls, d, rfl, J', nb, up, sky, na, os, ag, b, hb1, hyes, hno⟩ := xx
    have J : Inv X pins σ' H' sI := J'.ofTry ok
    have sky' : Sky B (X.env :: X.outer) a (Zc cls d) X.env.locals s'.heap := by rw [← hs]; exact sky
    show wpAny (model X.prog X.w) X.A (noteFrame (.ref a) X.env) _ _ _
    refine Sky.land Zc.steady hfr hf sky' fun h3 fl3 up3 => ?_
    have J3 : Inv X pins σ' H' { s' with heap := h3 } := J.landed nb fl3.1 (up.trans up3) os ag
    obtain ⟨oe3, vs3, he3, hz3, hd3⟩ := fl3.there
    have notFr : ∀ {h : Heap} {o : Obj} {vs : Array Value}, h.FunFrames B (X.env :: X.outer) → h.get? a = some o → o.data = .fields vs → a ∉ frs (X.env :: X.outer) := fun {h o vs} ff e dd hm => by
      obtain ⟨_, o', e', hnf⟩ := ff.mem hm
      rw [e] at e'; cases e'
      exact hnf _ dd
    have nfr := notFr fl3.2.2.1 he3 hd3
    have nL : a ≠ X.env.locals := fun z => nfr (List.mem_filterMap.mpr ⟨X.env, List.mem_cons_self, by rw [hf, z]⟩)
    have nF : a ∉ X.fs := fun hm => by
      obtain ⟨e, he, q⟩ := List.mem_filterMap.mp hm
      exact nfr (List.mem_filterMap.mpr ⟨e, List.mem_cons_of_mem _ he, q⟩)
    have hBa : B.get? a = none := fl3.2.1
    have hIa : sI.heap.get? a = none := by
      cases q : sI.heap.get? a with
      | none => rfl
      | some o =>
        have z := nb a o q (by rw [hs]; exact nfr)
        rw [hBa] at z; cases z
    have h0a : X.s_0.heap.get? a = none := by
      cases q : X.s_0.heap.get? a with
      | none => rfl
      | some o =>
        obtain ⟨o', z⟩ := J.base.there a o q (by rw [hex]; simp)
        rw [hIa] at z; cases z
    have nC : ∀ x c, X.env.cells.lookup x = some c → c ≠ a := fun x c e z => by
      obtain ⟨v, o, ho, hdt⟩ := J.cell x c e
      rw [z, hIa] at ho; cases ho
    have npin : ∀ p ∈ X.pn ++ pins, p.1 ≠ a := fun p hp z => by
      obtain ⟨e, _⟩ := J.pin p hp
      rw [z, hIa] at e; cases e
    have S3 := J3.suite he3 hd3 na nL nF
    refine wpAny_handleBy_cons (codeAny_handlers_test ?_) (by intro q; cases q)
    have LT : PySem.W.Looks (model X.prog X.w) h3 (typeOf (.ref a)) cls := fun A Q E s k q => wpAny_typeOf_ref (k _ _ he3) (by rw [hz3.1]; exact q)
    have LM := PySem.W.exm_one (M := model X.prog X.w) (J3.kIn) LT hb1
    have test : ∀ {Q : Value → Shared → Prop} {E : Value → Shared → Prop}, Q c { s' with heap := h3 } → wpAny (model X.prog X.w) (X.A.mark (some (.ref a))) (eval (.Name x np) X.env) Q E { s' with heap := h3 } := fun {Q E} q => by
      obtain ⟨hg, hdbg, hm | ⟨hm, hv, hnn⟩⟩ := hc
      · exact ld_glob (X := X.suite a ((a, oe3) :: (X.pn ++ pins))) S3 hg hm q hdbg
      · exact ld_blt (X := X.suite a ((a, oe3) :: (X.pn ++ pins))) S3 hg hm hv q hnn hdbg
    refine test (LM.here ?_)
    cases b with
    | true =>
      refine codeAny_handlers_suite_as ?_
      refine HandSPX.lands_againZ fl3 fun h4 fl4 up4 => ?_
      have J4 : Inv X pins σ' H' { s' with heap := h4 } := J.landed nb fl4.1 ((up.trans up3).trans up4) os ag
      obtain ⟨oe4, vs4, he4, hz4, hd4⟩ := fl4.there
      have J5 : Inv X pins σ' (upd H' a (xob a cls d)) { s' with heap := h4 } := Inv.track J4 h0a na nL nC npin (xob_ok he4 hz4 hd4)
      have S4 := Inv.suite0 J5 a
      refine store_ok (X := X.suite a (X.pn ++ pins)) (v := .ref a) S4 hN hi hloc rfl (fun s5 S5 => ?_) (.inr hln)
      refine wpAny_mono ((hsu a (X.pn ++ pins)).run [] s5 _ _ _ S5 (hyes rfl a na)) (fun f s6 hsp => ?_) (fun _ _ z => False.elim z)
      have end_ : ∀ {σ6 : L2.St} {H6 : Hp} {Q : Shared → Prop}, Inv (X.suite a (X.pn ++ pins)) [] σ6 H6 s6 → (∀ s7, Inv X pins (σ6.set i none) H6 s7 → Q s7) →
          wpAny (model X.prog X.w) X.A (do bindName X.env n .none; unbindBehindTheSuite X.env n pos') (fun _ s7 => Q s7) X.xe s6 := fun {σ6 H6 Q} S6 hq => gone_ok (Inv.unsuite0 S6 ok) hN hi hln hq
      cases f with
      | next =>
        obtain ⟨σ6, H6, S6, q6⟩ := hsp
        exact end_ S6 fun s7 J7 => ⟨_, _, J7, q6⟩
      | brk =>
        obtain ⟨σ6, H6, S6, q6⟩ := hsp
        exact end_ S6 fun s7 J7 => ⟨_, _, J7, q6⟩
      | cont =>
        obtain ⟨σ6, H6, S6, q6⟩ := hsp
        exact end_ S6 fun s7 J7 => ⟨_, _, J7, q6⟩
      | ret u =>
        obtain ⟨v6, σ6, H6, S6, r6, q6⟩ := hsp
        exact end_ S6 fun s7 J7 => ⟨_, _, _, J7, r6, q6⟩
    | false =>
      show wpAny _ X.A (handleBy (.ref a) X.env []) _ _ _
      refine wpAny_handleBy_nil ?_
      obtain ⟨k1, k2, k3, oe, vs, T, oT, ts', he, hz, hd, h1, hr⟩ := id fl3
      unfold PySem.passOn
      refine wpAny_bind (wpAny_field he hd h1 ?_)
      rw [if_neg (show ¬ ((Value.ref T == Value.none) = true) from by simp)]
      have fin : wpAny (model X.prog X.w) X.A (setFlight (.ref a) X.env.frame) (fun _ s4 => wpAny (model X.prog X.w) X.A (throw (.ref a) : Sem Flow) (SP X pins D) X.xe s4) X.xe { s' with heap := h3 } := by
        rw [hf]
        refine HandSPX.setFlight_upZ fl3 fun h4 hh4 up4 => wpAny_throw (tk _ _ ?_)
        exact ⟨a, B, sI, pins, σ', H', cls, d, rfl, J, nb, (up.trans up3).trans up4, .inr (.inr (by rw [hs]; exact hh4)), na, os, ag, hno rfl⟩
      first
        | exact wpAny_bind (wpAny_pure (wpAny_bind fin))
        | exact wpAny_bind fin
  · cases f with
    | next =>
      obtain ⟨σ', H', J', q⟩ := hsp
      exact wpAny_execs_nil ⟨σ', H', J'.ofTry ok, q⟩
    | brk =>
      obtain ⟨σ', H', J', q⟩ := hsp
      exact ⟨σ', H', J'.ofTry ok, q⟩
    | cont =>
      obtain ⟨σ', H', J', q⟩ := hsp
      exact ⟨σ', H', J'.ofTry ok, q⟩
    | ret u =>
      obtain ⟨v, σ', H', J', r, q⟩ := hsp
      exact ⟨v, σ', H', J'.ofTry ok, r, q⟩
end
/-! ### a kept exception is asked -/
/-- a value's type, kept exceptions too -/
inductive TyE (K : PySem.W.Frag) (H : Hp) : V → Value → Prop where
  | base {x : V} {t : Value} (h : TyX K H x t) : TyE K H x t
  | exc {a D : Addr} (C : ExcC K D) (e : H a = some (xob a (.ref D) none)) : TyE K H (.ref a) (.ref D)
section
variable {X : Cx} {pins : List (Addr × Obj)} {σ : L2.St} {H : Hp} {s : Shared}
theorem kit_ofE {x : V} {u t : Value} (I : Inv X pins σ H s) (rx : RelV x u) (ty : TyE X.K H x t) : ∃ P : Heap → Prop, PySem.W.KitX X.K u t P ∧ P s.heap ∧ u ≠ .builtin "__main__.__loader__#opaque" := by
  cases ty with
  | base h => exact kit_of I rx h
  | @exc a D C e =>
    cases (show u = Value.ref a from rx)
    obtain ⟨o, vs, e1, e2, e3, e4⟩ := xob_at I.hok e
    obtain ⟨oc, od, ot, os⟩ := o
    simp only at e2 e3 e4
    subst e2 e3 e4
    exact ⟨_, PySem.W.handS_kitx_exc C.hg C.hk C.hs C.hd C.ha C.hn C.ht C.hm, ⟨e1, rfl, rfl, trivial⟩, fun z => nomatch z⟩
end
def rIsiE (K : PySem.W.Frag) : List V → Hp → VK → Prop := fun xs H Q => ∃ (x c : V) (t u : Value) (b : Bool), xs = [x, c] ∧ ClsV c u ∧ TyE K H x t ∧ PySem.W.kitOne K t u = some b ∧ Q (.bl b) H
def rIsiTE (K : PySem.W.Frag) : List V → Hp → VK → Prop := fun xs H Q => ∃ (x : V) (tp : Addr) (cs : List V) (t : Value) (us : List Value) (b : Bool), xs = [x, .ref tp] ∧ H tp = some (.tup cs) ∧ Paired ClsV cs us ∧ TyE K H x t ∧ PySem.W.kitAny K t us = some b ∧ Q (.bl b) H
section
variable {X : Cx}
theorem call_isiE : CallR X (.builtin "isinstance") (rIsiE X.K) := by
  intro pins s σ H xs us Q I r h
  obtain ⟨x, c, t, u, b, rfl, k, ty, e, q⟩ := h
  obtain ⟨u1, u2, rfl, r1, r2⟩ := vals2 r
  have e2 := k.eq r2
  subst e2
  obtain ⟨P, Z, p, hx⟩ := kit_ofE I r1 ty
  exact PySem.W.kia_one Z I.kIn p e hx fun tk => ⟨.bl b, H, I.tok tk, rfl, q⟩
theorem call_isiTE : CallR X (.builtin "isinstance") (rIsiTE X.K) := by
  intro pins s σ H xs us Q I r h
  obtain ⟨x, tp, cs, t, ws, b, rfl, hT, k, ty, e, q⟩ := h
  obtain ⟨u1, u2, rfl, r1, r2⟩ := vals2 r
  cases (show u2 = Value.ref tp from r2)
  obtain ⟨P, Z, p, hx⟩ := kit_ofE I r1 ty
  obtain ⟨_, its, rv, o, h1, h2, n, h3⟩ := (show ObjOk X.prog X.w H s.heap tp (.tup cs) from I.hok tp _ hT)
  have e3 := ClsV.all k rv
  subst e3
  obtain ⟨oc, od, dt, sl⟩ := o
  simp only at h2 h3
  subst h2 h3
  exact PySem.W.kia_tup Z I.kIn p h1 e hx fun tk => ⟨.bl b, H, I.tok tk, rfl, q⟩
end
end SX0

set_option Elab.async false
set_option linter.all false
set_option maxRecDepth 100000
set_option maxHeartbeats 4000000
namespace SX0
open PySem PySem.Spec PyProof.Rows L2
/-! ### short names of readings -/
abbrev oAdd : R2 := rI0 fun i j => .int (i + j)
abbrev oSub : R2 := rI0 fun i j => .int (i - j)
abbrev oMul : R2 := rI CMul fun i j => .int (i * j)
abbrev oFdv : R2 := rI CDivW fun i j => .int (i / j)
abbrev oMod : R2 := rI (fun _ j => 0 < j) fun i j => .int (i % j)
abbrev oPow : R2 := rI CPow fun i j => .int (i ^ j.toNat)
abbrev oNeg : V → Hp → VK → Prop := rU fun i => .int (-i)
abbrev oLt : R2 := rI0 fun i j => .bl (decide (i < j))
abbrev oLe : R2 := rI0 fun i j => .bl (decide (i ≤ j))
abbrev oGt : R2 := rI0 fun i j => .bl (decide (j < i))
abbrev oGe : R2 := rI0 fun i j => .bl (decide (j ≤ i))
abbrev oIsN : R2 := fun x y H Q => y = .non ∧ Q (.bl (decide (x = .non))) H
abbrev oNotN : R2 := fun x y H Q => y = .non ∧ Q (.bl (!decide (x = .non))) H
abbrev oAddStr : R2 := fun x y H Q => ∃ i j, x = .str i ∧ y = .str j ∧ i.length + j.length ≤ sizeLine ∧ Q (.str (i ++ j)) H
abbrev oInSign : R2 := fun x y H Q => ∃ (c : Nat) (z : Str), x = .str ⟨#[c]⟩ ∧ y = .str z ∧ Q (.bl (decide (c ∈ z.cps.toList))) H
abbrev oNotInSign : R2 := fun x y H Q => ∃ (c : Nat) (z : Str), x = .str ⟨#[c]⟩ ∧ y = .str z ∧ Q (.bl (!decide (c ∈ z.cps.toList))) H
abbrev cLenD : List V → Hp → VK → Prop := fun xs H Q => ∃ a kvs, xs = [V.ref a] ∧ H a = some (.dK kvs) ∧ Q (.int kvs.length) H
abbrev cLenStr : List V → Hp → VK → Prop := fun xs H Q => ∃ z, xs = [.str z] ∧ z.length ≤ sizeLine ∧ Q (.int z.length) H
abbrev cLenSeq (K : PySem.W.Frag) : List V → Hp → VK → Prop := fun xs H Q => ∃ p ys, xs = [.ref p] ∧ (SqL K H p ys ∨ SqT K H p ys) ∧ Q (.int ys.length) H
abbrev cAbs : List V → Hp → VK → Prop := fun xs H Q => ∃ i, xs = [.int i] ∧ Q (.int (if i < 0 then -i else i)) H
abbrev cMax2 : List V → Hp → VK → Prop := fun xs H Q => ∃ i j, xs = [.int i, .int j] ∧ Q (.int (if j > i then j else i)) H
abbrev cMin2 : List V → Hp → VK → Prop := fun xs H Q => ∃ i j, xs = [.int i, .int j] ∧ Q (.int (if j < i then j else i)) H
abbrev cListOf (K : PySem.W.Frag) : List V → Hp → VK → Prop := fun xs H Q => ∃ p ys, xs = [.ref p] ∧ (SqL K H p ys ∨ SqT K H p ys) ∧ ∀ l, H l = none → Q (.ref l) (upd H l (.lst ys))
abbrev cTupleOf (K : PySem.W.Frag) : List V → Hp → VK → Prop := fun xs H Q => ∃ p ys, xs = [.ref p] ∧ ((SqL K H p ys ∧ ∀ l, H l = none → Q (.ref l) (upd H l (.tup ys))) ∨ (SqT K H p ys ∧ Q (.ref p) H))
abbrev cListDk : List V → Hp → VK → Prop := fun xs H Q => ∃ (a : Addr) (kvs : List (Key × V)), xs = [.ref a] ∧ Rd H a (.dK kvs) ∧ ∀ p, H p = none → Q (.ref p) (upd H p (.lst (kvs.map fun kv => kV kv.1)))
abbrev cDictD : List V → Hp → VK → Prop := fun xs H Q => ∃ (a : Addr) (kvs : List (Key × V)), xs = [.ref a] ∧ Rd H a (.dK kvs) ∧ ∀ p, H p = none → Q (.ref p) (upd H p (.dK kvs))
abbrev cDictP (K : PySem.W.Frag) : List V → Hp → VK → Prop := fun xs H Q => ∃ (a : Addr) (ps : List Addr) (kvs : List (Key × V)), xs = [.ref a] ∧ SqL K H a (ps.map V.ref) ∧ Paired (fun p kv => SqT K H p [kV kv.1, kv.2]) ps kvs ∧ ∀ p, H p = none → Q (.ref p) (upd H p (.dK (mergeK [] kvs)))
abbrev cInt1 : List V → Hp → VK → Prop := fun xs H Q => (∃ i, xs = [.int i] ∧ Q (.int i) H) ∨ ∃ k, xs = [.bl k] ∧ Q (.int (if k then 1 else 0)) H
abbrev cIntStr : List V → Hp → VK → Prop := fun xs H Q => ∃ a n, xs = [.str a] ∧ PySem.intText? a = some n ∧ a.length ≤ 640 ∧ Q (.int n) H
abbrev cStrInt : List V → Hp → VK → Prop := fun xs H Q => ∃ i, xs = [.int i] ∧ i.natAbs.log2 < 1920 ∧ Q (.str (toString i)) H
abbrev cSplit : V → List V → Hp → VK → Prop := fun x xs H Q => ∃ a b, x = .str a ∧ xs = [.str b] ∧ (b.length == 0) = false ∧ a.length + 2 ≤ sizeLine ∧ rNewStrs (Txt.split a b) H Q
abbrev cJoin (K : PySem.W.Frag) : V → List V → Hp → VK → Prop := fun x xs H Q => ∃ a p, ∃ ys : List Str, x = .str a ∧ xs = [.ref p] ∧ (SqL K H p (ys.map V.str) ∨ SqT K H p (ys.map V.str)) ∧
      (ys.map (·.length)).sum + ys.length * a.length ≤ 16777216 ∧ Q (.str (Txt.join a ys)) H
abbrev cUpper : V → List V → Hp → VK → Prop := fun x xs H Q => ∃ a, x = .str a ∧ xs = [] ∧ a.length ≤ 5592405 ∧ Q (.str (Txt.upper a)) H
def tTru (K : PySem.W.Frag) (ta : TE) : TT := fun σ H Q => ta σ H fun x H' => ∃ k, TruV K x H' k ∧ Q k H'
def tRz (C : Addr) (W : WX) : TS := fun _ σ H => W (.ref C) none σ H
def tTryT (K : PySem.W.Frag) (c : Value) (i : Nat) (tb : WX → TS) (ts : TS) (Wout : WX) : TS := fun D σ H => tb (wAsT K c i ts Wout D) D σ H
/-! ### the module's constants -/
section
variable {X : Cx}
theorem pe_globI {x : Str} {i : Int} {pos : Pos} (hg : Gl X x) (hm : ∃ t, X.mg x = some (.int i t)) (hd : (x == ("__debug__" : Str)) = false := by decide) : PE X (.Name x pos) (tC (.int i)) := by
  obtain ⟨t, e⟩ := hm
  exact pe_glob hg e ⟨_, rfl⟩ hd
theorem pe_globS {x z : Str} {pos : Pos} (hg : Gl X x) (hm : ∃ t, X.mg x = some (.str z t)) (hd : (x == ("__debug__" : Str)) = false := by decide) : PE X (.Name x pos) (tC (.str z)) := by
  obtain ⟨t, e⟩ := hm
  exact pe_glob hg e ⟨_, rfl⟩ hd
/-! ### fields of instances of some classes -/
def FdOk (K : PySem.W.Frag) (Cs : List Addr) (f : Str) : Prop := ∀ C ∈ Cs, Cls K C ∧ NoAttr K C f
theorem fdok_nil {K : PySem.W.Frag} {f : Str} : FdOk K [] f := fun _ h => nomatch h
theorem fdok_cons {K : PySem.W.Frag} {f : Str} {C : Addr} {Cs : List Addr} (h1 : Cls K C) (h2 : NoAttr K C f) (h : FdOk K Cs f) : FdOk K (C :: Cs) f := fun D hD => by
  rcases List.mem_cons.mp hD with e | e
  · rw [e]; exact ⟨h1, h2⟩
  · exact h D e
def tFd (Cs : List Addr) (f : Str) (ta : TE) : TE := fun σ H Q => ta σ H fun x H1 => ∃ a C dx fs v, x = .ref a ∧ H1 a = some (.ins C dx fs) ∧ C ∈ Cs ∧ fs.lookup f = some v ∧ Q v H1
def sFd (Cs : List Addr) (ta tv : TE) (f : Str) : TS := fun D σ H => tv σ H fun y H1 => ta σ H1 fun x H2 => ∃ a C dx fs, x = .ref a ∧ H2 a = some (.ins C dx fs) ∧ C ∈ Cs ∧ fs.length < 1000 ∧
  D.nx σ (upd H2 a (.ins C dx (putF f y fs)))
def sFdAug (Cs : List Addr) (ta tv : TE) (rd : V → V → Hp → VK → Prop) (f : Str) : TS := fun D σ H => ta σ H fun x H1 => ∃ a C dx fs v, x = .ref a ∧ H1 a = some (.ins C dx fs) ∧ C ∈ Cs ∧ fs.lookup f = some v ∧
  tv σ H1 fun y H2 => rd v y H2 fun z H3 => ∃ dx' fs', H3 a = some (.ins C dx' fs') ∧ fs'.length < 1000 ∧ D.nx σ (upd H3 a (.ins C dx' (putF f z fs')))
theorem pe_fd {Cs : List Addr} {f : Str} {e : Expr} {ta : TE} {pos : Pos} (ok : FdOk X.K Cs f) (he : PE X e ta) (hb : attributeBase e f X.env (eval e X.env) = eval e X.env) : PE X (.Attribute e f pos) (tFd Cs f ta) := by
  refine ⟨fun pins s σ H Q I h => ?_⟩
  refine attr_of hb (thn (he.run pins s σ H _ I h) fun u s1 ⟨x, H1, I1, rx, a, C, dx, fs, v, ex, ea, hC, l, q⟩ => ?_)
  subst ex
  obtain rfl : u = Value.ref a := rx
  exact getattr_ok I1 ea (ok C hC).1 (ok C hC).2 l fun u' s2 I2 ru => ⟨v, H1, I2, ru, q⟩
theorem ps_fd {Cs : List Addr} {f : Str} {o value : Expr} {ta tv : TE} {pos pos' : Pos} (ok : FdOk X.K Cs f) (ha : PE X o ta) (hv : PE X value tv) (hs : swapsWith value (some (.Attribute o f pos')) pos.line X.env = pure false) : PS X (.Assign [.Attribute o f pos'] value pos) (sFd Cs ta tv f) := by
  refine ⟨fun pins s σ H D I h => ?_⟩
  refine plainObj_wpAny_Assign_Attribute (thn (hv.run pins s σ H _ I h) fun u s1 ⟨y, H1, I1, ry, q⟩ => thn (ha.run pins s1 σ H1 _ I1 q) fun ov s2 ⟨x, H2, I2, rx, a, C, dx, fs, ex, ea, hC, l, q2⟩ => ?_) hs
  subst ex
  obtain rfl : ov = Value.ref a := rx
  exact setattr_ok I2 ea (ok C hC).1 (ok C hC).2 l ry fun s3 I3 => ⟨σ, _, I3, q2⟩
theorem ps_fdaug {Cs : List Addr} {f : Str} {o value : Expr} {ta tv : TE} {pos tpos : Pos} {op : Operator} {rd : V → V → Hp → VK → Prop} (ok : FdOk X.K Cs f) (ha : PE X o ta) (hv : PE X value tv) (hop : InOp X op rd) : PS X (.AugAssign (.Attribute o f tpos) op value pos) (sFdAug Cs ta tv rd f) := by
  refine ⟨fun pins s σ H D I h => ?_⟩
  refine wpAny_AugAssign_AttributeAny (thn (ha.run pins s σ H _ I h) fun ov s1 ⟨x, H1, I1, rx, a, C, dx, fs, v, ex, ea, hC, l, q⟩ => ?_)
  subst ex
  obtain rfl : ov = Value.ref a := rx
  refine getattr_ok I1 ea (ok C hC).1 (ok C hC).2 l fun u s2 I2 ru => thn (hv.run pins s2 σ H1 _ I2 q) fun w3 s3 ⟨y, H2, I3, ry, q3⟩ => thn (hop pins s3 σ H2 v y u w3 _ I3 ru ry q3) fun w4 s4 ⟨z, H3, I4, rz, dx', fs', ea', l', q4⟩ => ?_
  exact setattr_ok I4 ea' (ok C hC).1 (ok C hC).2 l' rz fun s5 I5 => ⟨σ, _, I5, q4⟩
end
/-! ### a walk over a dict, locked here or locked already -/
def tLock2 (t : TS) : TS := fun D σ H => tLock t D σ H ∨ ∃ d od u, H d = some (.frz od u) ∧ t ⟨fun σ' H' => H' d = some (.frz od u) ∧ D.nx σ' H', fun v H' => H' d = some (.frz od u) ∧ D.rt v H', fun σ' H' => H' d = some (.frz od u) ∧ D.bk σ' H', fun σ' H' => H' d = some (.frz od u) ∧ D.ct σ' H'⟩ σ H
def tLockE2 (t : TE) : TE := fun σ H Q => tLockE t σ H Q ∨ ∃ d od u, H d = some (.frz od u) ∧ t σ H fun v H' => H' d = some (.frz od u) ∧ Q v H'
section
variable {X : Cx}
theorem ps_lock2 {st : Stmt} {t : TS} (h : PS X st t) : PS X st (tLock2 t) := by
  refine ⟨fun pins s σ H D I hw => ?_⟩
  rcases hw with hw | ⟨d, od, u, hd, hw⟩
  · exact (ps_lock h).run pins s σ H D I hw
  · refine thn (h.run pins s σ _ _ I hw) fun f s1 q => ?_
    cases f with
    | next => obtain ⟨σ', H', I2, e, q⟩ := q; exact ⟨σ', _, I2, q⟩
    | brk => obtain ⟨σ', H', I2, e, q⟩ := q; exact ⟨σ', _, I2, q⟩
    | cont => obtain ⟨σ', H', I2, e, q⟩ := q; exact ⟨σ', _, I2, q⟩
    | ret v => obtain ⟨x, σ', H', I2, r, e, q⟩ := q; exact ⟨x, σ', _, I2, r, q⟩
theorem pe_lock2 {e : Expr} {t : TE} (h : PE X e t) : PE X e (tLockE2 t) := by
  refine ⟨fun pins s σ H Q I hw => ?_⟩
  rcases hw with hw | ⟨d, od, u, hd, hw⟩
  · exact (pe_lock h).run pins s σ H Q I hw
  · exact thn (h.run pins s σ _ _ I hw) fun v s1 ⟨x, H1, I2, r, e2, q⟩ => ⟨x, _, I2, r, q⟩
end
section
variable {X : Cx} {x n : Str} {c : Value} {i : Nat} {body suite : List Stmt} {b₀ : Stmt} {np pos pos' : Pos} {tb : WX → TS} {ts : TS} {Wout : WX}
theorem ps_tryT (hs : X.stack = X.env :: X.outer) (hf : X.env.frame = some X.env.locals) (hex : X.ex = []) (hN : X.N.Nodup) (hi : X.N[i]? = some n) (hln : X.env.kindOf n = some .local) (hm : X.mg x = some c) (tk : Takes X Wout)
    (hb : ∀ (W : WX) (pn : List (Addr × Obj)) (xe : Value → Shared → Prop), Takes (X.tr pn xe) W → PassesOwn (model X.prog X.w) X.A X.env xe → PSs (X.tr pn xe) body (tb W))
    (hsu : ∀ (a : Addr) (pn : List (Addr × Obj)), PSs (X.suite a pn) (b₀ :: suite) ts) (hg : Gl X x := by rfl) (hd : (x == ("__debug__" : Str)) = false := by decide) :
    PS X (.Try body [.ExceptHandler (some (.Name x np)) (some n) (b₀ :: suite) pos'] [] [] pos) (tTryT X.K c i tb ts Wout) :=
  ps_try_asT hs hf hex hN hi hln ⟨hg, hd, Or.inl hm⟩ tk hb hsu
end
section
variable {X : Cx} {W : WX}
/-- raise C('m'), C an own class without __init__ -/
theorem ps_rz {x m : Str} {C : Addr} {j : Nat} {p p2 pos pos2 : Pos} (hc : X.calm = true) (tk : Takes X W) (gC : X.mg x = some (.ref C))
    (q : PySem.W.excIn X.K C He.veBase "ValueError.__new__" = true ∧ PySem.W.keepIn X.K (.ref C) = true ∧ PySem.W.subIn X.K (.ref C) (.type "BaseException") = some true ∧ PySem.W.typeIn X.K (.ref C) = some (.type "type"))
    (hg : Gl X x := by rfl) (hdb : (x == ("__debug__" : Str)) = false := by decide) :
    PS X (.Raise (some (.Call (.Name x p) [.Constant (.str m) j p2] [] pos)) none pos2) (tRz C W) :=
  ps_raise hc tk (pmk_own PySem.F.excBase_ValueError q.1 gC q.2.1 (raises_own q.2.2.1 q.2.2.2) hg hdb)
end
/-! ### sorted(d), a dict of ints, any number of them -/
def cSortedDk : List V → Hp → VK → Prop := fun xs H Q => ∃ (a : Addr) (kvs : List (Key × V)) (ks : List Int), xs = [.ref a] ∧ Rd H a (.dK kvs) ∧ kvs.map (·.1) = ks.map Sum.inl ∧
    ∀ (ys : List Int) (p : Addr), ys.Perm ks → ys.Pairwise (· ≤ ·) → H p = none → Q (.ref p) (upd H p (.lst (ys.map V.int)))
section
variable {X : Cx}
theorem cr_sortedDk (hcalm : X.calm = true) : CallR X (.builtin "sorted") cSortedDk := by
  intro pins s σ H xs us Q I r q
  obtain ⟨a, kvs, ks, ex, hd, hks, q⟩ := q
  subst ex
  obtain ⟨u, eu, rx⟩ := vals1 r
  subst eu
  cases rx
  obtain ⟨z, lo, vs, rel, dd⟩ := dk_rd I.hok hd
  obtain ⟨ep, hat⟩ := dd.dictAt
  have hkeys : vs.map (·.1) = ks.map Sum.inl := rel.keys.symm.trans hks
  have hl : vs.length = ks.length := by
    have e := congrArg List.length hkeys
    rw [List.length_map, List.length_map] at e
    exact e
  have h16 : vs.length ≤ sizeLine := by rw [← rel.length]; exact z
  refine Calls.call_function_entry PyProof.Rows.kind_sorted PyProof.Rows.plain_sorted PyProof.Rows.entry_sorted (PyProof.Rows.args_sorted1 _) ?_
  unfold Builtin.«sorted»
  refine wpAny_bind (m := checkCount "sorted" 1 1 _) (wpAny_pure ?_)
  refine wpAny_bind (PySem.W.kdu_collect (A := X.A.in1) (PySem.W.kdl_dict (knd := mixKind X.prog X.w) (kvs := vs) (ep := ep) lo) (I.ok.hd hcalm) hat h16 fun h' tk acc hk hacc => ?_)
  have hal : acc.toList.length = ks.length := by rw [Array.length_toList, hacc.1, hl]
  have hS : IntsAre acc.toList ks := ints_each hal fun j v e => by
    obtain ⟨k, x, e1, e2⟩ := hacc.2 j v (by rw [← Array.getElem?_toList]; exact e)
    have e3 : (vs.map (·.1))[j]? = some k := by rw [List.getElem?_map, e1]; rfl
    rw [hkeys, List.getElem?_map] at e3
    cases e4 : ks[j]? with
    | none => rw [e4] at e3; cases e3
    | some y =>
      rw [e4] at e3
      have e5 : Sum.inl y = k := Option.some.inj e3
      subst e5
      rcases keyIs_shape (show keyIs (Sum.inl y) v = true from e2) with ⟨i, t, ek, ev⟩ | ⟨z, t, ek, ev⟩
      · cases ek
        exact ⟨y, t, rfl, ev⟩
      · cases ek
  have I1 : Inv X pins σ H { s with heap := h', toks := tk } := I.kept hk
  have hz : acc.toList.length ≤ sizeLine := by rw [hal, ← hl]; exact h16
  refine wpAny_bind (wpAny_newList ?_ hz)
  have hoL : (h'.push (seqObj "list" acc.toList.toArray 0)).get? h'.objs.size = some (seqObj "list" acc.toList.toArray 0) := Heap.get?_push_size _ rfl
  show wpAny _ _ _ _ _ { s with heap := h'.push (seqObj "list" acc.toList.toArray 0), toks := tk }
  refine wpAny_bind (wpAny_holding (wpAny_call_entry PyProof.Rows.slot_list_sort ⟨_, hoL, rfl⟩ PyProof.Rows.entry_list_sort
    (SrtO.list_sort_ord (s := { s with heap := h'.push (seqObj "list" acc.toList.toArray 0), toks := tk }) SrtO.swo_int hoL hz (fun h2 => SrtO.ints_sortable hS h2) fun out h1 h2 => ⟨_, rfl, ?_⟩) (PyProof.Rows.args_list_sort _)))
  obtain ⟨g1, g2, g3⟩ := SrtO.ints_out hS h1 h2
  obtain ⟨e', he'⟩ := PyProof.Rows.sortedHeap_at (vs := acc.toList) (out := out.toArray) hoL
  have hlen : ((out.map SrtO.iv).map V.int).length ≤ sizeLine := by
    rw [List.length_map, g2.length_eq]
    rw [hal] at hz
    exact hz
  refine wpAny_pure ⟨_, rfl, .ref h'.objs.size, upd H h'.objs.size (.lst ((out.map SrtO.iv).map V.int)), I1.laid (t' := tk) (fun b u e => ?_) (Nat.le_refl _)
    (show ObjOk X.prog X.w _ _ _ (.lst ((out.map SrtO.iv).map V.int)) from ⟨hlen, out, e', vals_of_ints g1, he'⟩), rfl, q _ _ g2 g3 (I1.hok.fresh (Nat.le_refl _))⟩
  have hb : b < h'.objs.size := Heap.lt_size e
  rw [PyProof.Rows.sortedHeap_old (Nat.ne_of_lt hb) (by rw [size_push']; exact Nat.lt_succ_of_lt hb)]
  exact Heap.get?_push_of_some _ e
end
end SX0

set_option Elab.async false
set_option linter.all false
set_option maxRecDepth 100000
namespace PySem.SeqAt
open AutoSeq1 (wpAny_loadPart')
open MeetsSeq MeetsSeq2 MeetsSeq3 SeqRoads2
variable {prog : Program} {w : World}
/-- != of two tuples of equal items -/
theorem tupNe_run (l b : Addr) (us vs : Array Value) (n m : Nat) (dl db : Option Addr) (sl sb : Array (Option Value)) (hz : us.size = vs.size) :
    MeetsIn prog w (Builtin.«tuple.__ne__» ⟨[.ref l, .ref b], []⟩)
      (fun A R s => (s.heap.get? l = some { cls := .type "tuple", dict := dl, data := .seq us n, slots := sl } ∧ s.heap.get? b = some { cls := .type "tuple", dict := db, data := .seq vs m, slots := sb }) ∧
        (∀ j (h1 : j < us.size) (h2 : j < vs.size), EqIn prog w A.in1 s us[j] vs[j] true) ∧ R (.ok (.ret (.bool false))) s) :=
  .of_wp fun A R s hh => by
    obtain ⟨hp, g, d, tk, os⟩ := s
    obtain ⟨⟨hl, hb⟩, he, hR⟩ := hh
    dsimp only at hl hb
    have ft := AutoSeq1.sub_tuple_tuple
    wp_walk using wpAny_loadPart' hl, wpAny_loadPart' hb, wpAny_forIn_list _ (fun rest c s' => c.1 = none ∧ s' = ⟨hp, g, d, tk, os⟩ ∧ ∃ i, rest = (us.toList.zip vs.toList).drop i) _
    case turn =>
      rintro ⟨p, q⟩ rest c s' ⟨hc, rfl, i, hi⟩
      have e0 : ((us.toList.zip vs.toList).drop i)[0]? = some (p, q) := by rw [← hi]; rfl
      rw [List.getElem?_drop, Nat.add_zero] at e0
      obtain ⟨e1, e2⟩ := List.getElem?_zip_eq_some.mp e0
      rw [Array.getElem?_toList] at e1 e2
      obtain ⟨k1, e1⟩ := Array.getElem?_eq_some_iff.mp e1
      obtain ⟨k2, e2⟩ := Array.getElem?_eq_some_iff.mp e2
      subst e1 e2
      have hr : rest = (us.toList.zip vs.toList).drop (i + 1) := by
        have := congrArg List.tail hi
        simpa using this
      refine wpAny_bind (he i k1 k2 _ _ ?_)
      wp_walk
      exact ⟨rfl, rfl, i + 1, hr⟩
    case fin =>
      rintro ⟨c1, c2⟩ s' ⟨hc, rfl, i, hi⟩
      simp only at hc
      subst hc
      wp_walk
      exact ⟨_, rfl, by simpa [Builtin.Tuple.tupleCompareSizes, hz] using hR⟩
    case h => exact ⟨rfl, rfl, 0, rfl⟩
theorem rcNe_tups {A : Around} {s : Shared} {E : Value → Shared → Prop} {l b : Addr} {us vs : Array Value} {Q : Value → Shared → Prop} (hl : s.heap.IsTuple l us) (hb : s.heap.IsTuple b vs) (hz : us.size = vs.size) (hu : A.units < cLine)
    (he : ∀ j (h1 : j < us.size) (h2 : j < vs.size), EqIn prog w A.in1 s us[j] vs[j] true) (h : Q (.bool false) s) : wpAny (model prog w) A (richCompare .NotEq (.ref l) (.ref b)) Q E s := by
  obtain ⟨⟨c1, d1, x1, s1⟩, o1, k1, n, y1⟩ := id hl
  obtain ⟨⟨c2, d2, x2, s2⟩, o2, k2, m, y2⟩ := id hb
  simp only at k1 y1 k2 y2
  subst k1 y1 k2 y2
  exact wpAny_richCompare_same_room (T := "tuple") (op := .NotEq) ⟨_, o1, rfl⟩ ⟨_, o2, rfl⟩ F.slot_tuple_ne (call_meetsIn F.slot_tuple_ne ⟨_, o1, rfl⟩ F.entry_tuple_ne (F.args_tuple_ne_2 _ _) (tupNe_run l b us vs n m d1 d2 s1 s2 hz)
    ⟨⟨o1, o2⟩, he, show Value.bool false ≠ Value.notImplemented ∧ Q (.bool false) s from ⟨(fun x => nomatch x), h⟩⟩) hu
end PySem.SeqAt
namespace SX0
open PySem PySem.Spec PyProof.Rows L2
section
variable {X : Cx}
/-- a == b and a != b of two tuples whose items are equal, lists and dicts among them -/
def TupSame (K : PySem.W.Frag) (H : Hp) (x y : V) : Prop := ∃ n, n ≤ 60 ∧ ∃ a b xs ys, x = .ref a ∧ y = .ref b ∧ SqT K H a xs ∧ SqT K H b ys ∧ Paired (EqV K H n) xs ys
def rEqU (K : PySem.W.Frag) : R2 := fun x y H Q => rEqD K x y H Q ∨ (TupSame K H x y ∧ Q (.bl true) H)
def rNeU (K : PySem.W.Frag) : R2 := fun x y H Q => rNeD K x y H Q ∨ (TupSame K H x y ∧ Q (.bl false) H)
theorem tup_run {pins : List (Addr × Obj)} {σ : L2.St} {H : Hp} {s : Shared} (I : Inv X pins σ H s) {x y : V} {v u : Value} (h : TupSame X.K H x y) (rx : RelV x v) (ry : RelV y u) :
    ∃ (l b : Addr) (us vs : List Value) (n : Nat), n ≤ 60 ∧ v = .ref l ∧ u = .ref b ∧ s.heap.IsTuple l us.toArray ∧ s.heap.IsTuple b vs.toArray ∧ us.length = vs.length ∧
      ∀ A : Around, A.units + n < cLine → ∀ j (h1 : j < us.toArray.size) (h2 : j < vs.toArray.size), SeqAt.EqIn X.prog X.w A s us.toArray[j] vs.toArray[j] true := by
  obtain ⟨n, hn, a, b, xs, ys, rfl, rfl, ha, hb, hp⟩ := h
  cases (show v = Value.ref a from rx)
  cases (show u = Value.ref b from ry)
  obtain ⟨us, r1, p1, _⟩ := I.tuple ha
  obtain ⟨ws, r2, p2, _⟩ := I.tuple hb
  refine ⟨a, b, us, ws, n, hn, rfl, rfl, p1, p2, by rw [← r1.length, ← r2.length]; exact Paired.length hp, fun A hu j h1 h2 => ?_⟩
  have k := items_run (eqV_run I n A hu) hp r1 r2 j (by simpa using h1) (by simpa using h2)
  simp only [List.getElem_toArray]
  exact fun E Q q => k E Q q
theorem op_eqU (hu : X.A.units + 64 < cLine) : OpR X (compareOp .Eq) (rEqU X.K) := by
  intro pins s σ H x y v u Q I rx ry h
  rcases h with h | ⟨h, q⟩
  · exact op_eqD hu pins s σ H x y v u Q I rx ry h
  · obtain ⟨l, b, us, vs, n, hn, rfl, rfl, p1, p2, hz, he⟩ := tup_run I h rx ry
    refine SeqAt.rcIn_tuples (e := fun _ => true) p1 p2 (by omega) (he X.A.in1 (by show X.A.units + 1 + n < cLine; omega)) ?_
    rw [show ((List.range (min us.toArray.size vs.toArray.size)).all (fun _ => true) && us.toArray.size == vs.toArray.size) = true from by simp [hz]]
    exact ⟨.bl true, H, I, rfl, q⟩
theorem op_neU (hu : X.A.units + 64 < cLine) : OpR X (compareOp .NotEq) (rNeU X.K) := by
  intro pins s σ H x y v u Q I rx ry h
  rcases h with h | ⟨h, q⟩
  · exact op_neD hu pins s σ H x y v u Q I rx ry h
  · obtain ⟨l, b, us, vs, n, hn, rfl, rfl, p1, p2, hz, he⟩ := tup_run I h rx ry
    exact SeqAt.rcNe_tups p1 p2 (by simpa using hz) (by omega) (he X.A.in1 (by show X.A.units + 1 + n < cLine; omega)) ⟨.bl false, H, I, rfl, q⟩
end
/-! ### checks of an exception class that is asked -/
def excCB (K : PySem.W.Frag) (D : Addr) : Bool :=
  He.eqO (PySem.W.findIn K (.ref D) "__getattribute__") (some (some (.builtin "BaseException.__getattribute__"))) && (He.eqO (PySem.W.findIn K (.ref D) "__getattr__") (some none) && (decide (PySem.W.subIn K (.ref D) (.type "BaseException") = some true) &&
  (PySem.W.hasDictIn K D && (He.eqO (PySem.W.findIn K (.ref D) "__class__") (some (some (.builtin "object.__class__"))) && (He.eqO (PySem.W.specialIn K (.builtin "object.__class__") "__get__") (some (some (.builtin "getset_descriptor.__get__"))) &&
  (decide (PySem.W.takesIn K (.builtin "object.__class__") = some true) && decide (PySem.W.mroIn K D (.type "object") = some true)))))))
theorem excCB_ok {K : PySem.W.Frag} {D : Addr} (h : excCB K D = true) : ExcC K D := by
  obtain ⟨c1, h⟩ := He.ba h
  obtain ⟨c2, h⟩ := He.ba h
  obtain ⟨c3, h⟩ := He.ba h
  obtain ⟨c4, h⟩ := He.ba h
  obtain ⟨c5, h⟩ := He.ba h
  obtain ⟨c6, h⟩ := He.ba h
  obtain ⟨c7, c8⟩ := He.ba h
  exact ⟨He.eqO_ok c1, He.eqO_ok c2, of_decide_eq_true c3, c4, He.eqO_ok c5, He.eqO_ok c6, of_decide_eq_true c7, of_decide_eq_true c8⟩
def kitB (K : PySem.W.Frag) (t c : Value) (b : Bool) : Bool := decide (PySem.W.kitOne K t c = some b)
theorem kitB_ok {K : PySem.W.Frag} {t c : Value} {b : Bool} (h : kitB K t c b = true) : PySem.W.kitOne K t c = some b := of_decide_eq_true h
end SX0

set_option Elab.async false
set_option linter.all false
set_option maxRecDepth 100000
set_option maxHeartbeats 4000000
namespace SX0
open PySem PySem.Spec PyProof.Rows L2
open PySem.W (Looks looks_findIn looks_find looks_subIn looks_typeIn InstAt findIn subIn hasDictIn specialIn takesIn mroIn typeIn clsIn findObj)
section
variable {prog : Program} {w : World} {A : Around} {E : Value → Shared → Prop} {s : Shared} {K : PySem.W.Frag} {x D : Addr} {ob : Obj} {od : Option Obj}
theorem dataX {nm : Str} {at_ g : Value} (c : (clsIn K D).isSome = true) (f1 : findIn K (.ref D) nm = some (some at_)) (f2 : specialIn K at_ "__get__" = some (some g)) (f3 : takesIn K at_ = some true) : findObj K D od nm = some (.bind g at_) := by
  cases od with
  | none => exact PySem.W.findObj_dataN c f1 f2 f3
  | some o => exact PySem.W.findObj_data c f1 f2 f3
theorem askX {Q : Option Value → Shared → Prop} (C : ExcC K D) (X : K.In s.heap) (I : InstAt s.heap x ob D od) (q : Q (some (.ref D)) { s with toks := s.toks + 1 }) : wpAny (model prog w) A (getAttr? (.ref x) "__class__") Q E s := by
  have fo : findObj K D od "__class__" = some (.bind (.builtin "getset_descriptor.__get__") (.builtin "object.__class__")) := dataX (by obtain ⟨cd, hc, _⟩ := PySem.W.any_some C.hd; rw [hc]; rfl) C.ha C.hn C.ht
  obtain ⟨hh, gg, dr, tk, os⟩ := s
  have lt := I.type (M := model prog w)
  have lg := looks_findIn (M := model prog w) X C.hg
  have lk := looks_findIn (M := model prog w) X C.hk
  have lf := looks_find (M := model prog w) X I fo
  have si : Looks (model prog w) hh (isInstance (.ref x) (.type "BaseException")) true := lt.andThen (looks_subIn X C.hs)
  have z0 : (false && onTheHeap (Value.builtin "BaseException.__getattribute__")) = false := rfl
  have z2 : (Value.builtin "BaseException.__getattribute__" == Value.builtin "object.__getattribute__") = false := by decide +kernel
  have z1 : (onTheHeap (Value.ref D) && Value.builtin "BaseException.__getattribute__" == Value.builtin "object.__getattribute__") = false := by rw [z2] <;> rfl
  unfold getAttr? getAttrBy? getAttrBy
  refine wpAny_bind (wpAny_mkText (wpAny_bind (wpAny_attempt (wpAny_holding (wpAny_bind (lt.at (wpAny_bind (lg.at ?_))))))))
  show wpAny _ _ (if (onTheHeap (Value.ref D) && Value.builtin "BaseException.__getattribute__" == Value.builtin "object.__getattribute__") = true then _ else _) _ _ _
  rw [z1, if_neg Bool.false_ne_true]
  unfold getAttrByItsOwn hookBefore
  refine wpAny_bind ?_
  rw [if_pos (show onTheHeap (Value.ref D) = true from rfl)]
  refine lk.at ?_
  refine wpAny_bind (wpAny_attempt (wpAny_holding ?_))
  unfold callGetattribute
  rw [z0, if_neg Bool.false_ne_true]
  unfold boundAndCalled
  rw [PySem.F.excAttr_ValueError.ga.bind (.ref x)]
  refine wpAny_bind (wpAny_pure ?_)
  show wpAny _ _ (call (.builtin "BaseException.__getattribute__") [.ref x, .str "__class__" tk]) _ _ _
  refine wpAny_call (codeAny_call_builtin PySem.F.excAttr_ValueError.ga.plain PySem.F.entry_bexc_ga ?_)
  refine @PySem.W.check_slot (model prog w) _ _ ⟨hh, gg, dr, tk + 1, os⟩ "BaseException.__getattribute__" "BaseException" "__getattribute__" (.ref x) [.str "__class__" tk] [] _ (by decide +kernel) (by decide +kernel) si (PySem.F.args_bexc_ga (.ref x) (.str "__class__" tk)) ?_
  unfold Builtin.«object.__getattribute__»
  refine wpAny_bind (wpAny_of_eq (a := ((Value.ref x : Value), [Value.str "__class__" tk])) (by first | rfl | (simp only [slotArgs]; rfl)) ?_)
  refine wpAny_bind (wpAny_pure (wpAny_bind (lt.at (wpAny_bind (lf.at ?_)))))
  show wpAny _ _ (holding [Value.builtin "object.__class__"] (call (.builtin "getset_descriptor.__get__") [.builtin "object.__class__", .ref x, .ref D]) >>= ret) _ _ _
  refine wpAny_bind (wpAny_holding (wpAny_call (PySem.W.class_get (s := ⟨hh, gg, dr, tk + 1, os⟩) (ox := ob) (od := od) X I C.hm ?_)))
  refine wpAny_pure ?_
  show wpAny _ _ (handedOut (.ref D)) _ _ _
  rw [PySem.W.handedOut_of (v := .ref D) rfl]
  first
    | exact wpAny_pure (wpAny_pure q)
    | exact wpAny_pure q
    | exact wpAny_pure (wpAny_bind (wpAny_pure (wpAny_pure q)))
theorem kitX (C : ExcC K D) : PySem.W.KitX K (.ref x) (.ref D) (fun h => InstAt h x ob D od) where
  ty := fun _ _ _ I => I.type
  it := fun M h X I => by
    have cl := C.hd
    obtain ⟨cd, hc, _⟩ := PySem.W.any_some cl
    unfold clsIn at hc
    split at hc
    · rename_i o1 o2 o3 o4 lo
      intro A' Q' E' s' k q
      unfold isType loadHead
      exact wpAny_bind (wpAny_loadPart (k _ _ (X _ _ lo)) (wpAny_pure q))
    · cases hc
  ne := fun h tp dd its n sl X htp => by
    obtain ⟨cd, hc, _⟩ := PySem.W.any_some C.hd
    refine Bool.eq_false_iff.mpr fun q => ?_
    have e : D = tp := Value.ref.inj (beq_iff_eq.mp q)
    subst e
    unfold clsIn at hc
    split at hc
    · rename_i o1 o2 o3 o4 lo
      cases (X _ _ lo).symm.trans htp
    · cases hc
  ca := fun X I k => askX C X I k
/-- e.m : the method as it stands on the class -/
theorem methX {nm : Str} {f : Addr} {pl : Sem Bool} {Q : Value × List Value → Shared → Prop} (X : K.In s.heap) (I : InstAt s.heap x ob D od) (C : ExcC K D) (f1 : findIn K (.ref D) nm = some (some (.ref f))) (f2 : typeIn K (.ref f) = some (.type "function"))
    (f3 : PySem.W.shadowIn od nm = some false) (q : Q (.ref f, [.ref x]) s) : wpAny (model prog w) A (getMethod (.ref x) nm pl) Q E s := by
  have can : Manifest.canonical "BaseException.__getattribute__" = "object.__getattribute__" := by decide +kernel
  unfold getMethod specialOf
  refine wpAny_bind (wpAny_bind (I.type.here ((looks_findIn X C.hg).here ?_)))
  dsimp only
  rw [can, if_neg (by decide)]
  refine wpAny_bind (wpAny_bind (I.type.here ((looks_findIn X C.hk).here ?_)))
  refine wpAny_bind (wpAny_bind (I.type.here ((looks_findIn X f1).here (wpAny_bind ((looks_typeIn X f2).here ?_)))))
  rw [if_neg (by decide +kernel)]
  refine wpAny_bind (wpAny_loadPart I.at_ ?_)
  have idx := I.dict
  cases eo : ob.dict with
  | none => exact wpAny_bind (wpAny_rule (wpAny_pure q))
  | some dx =>
    cases od with
    | none => rw [eo] at idx; exact idx.elim
    | some o =>
      rw [eo] at idx
      obtain ⟨r, e1, e2⟩ := Option.map_eq_some_iff.mp f3
      refine wpAny_bind (wpAny_bind (wpAny_loadPart idx ?_))
      rw [PySem.W.nsLook_of e1]
      refine wpAny_pure ?_
      rw [e2]
      exact wpAny_bind (wpAny_rule (wpAny_pure q))
end
/-! ### kept exceptions in the heap -/
/-- at a: a kept exception of the class at C; fs: its own fields, if it has a dict -/
inductive KeptX (H : Hp) (a C : Addr) : List (Str × V) → Prop where
  | bare (e : H a = some (xob a (.ref C) none)) : KeptX H a C []
  | full {dd : Addr} {fs : List (Str × V)} (e : H a = some (xob a (.ref C) (some dd))) (ed : H dd = some (.xd fs)) : KeptX H a C fs
section
variable {X : Cx} {pins : List (Addr × Obj)} {σ : L2.St} {H : Hp} {s : Shared}
theorem KeptX.inst {a C : Addr} {fs : List (Str × V)} (I : Inv X pins σ H s) (k : KeptX H a C fs) : ∃ ob od, InstAt s.heap a ob C od ∧ ∀ m, (fs.lookup m = none → PySem.W.shadowIn od m = some false) := by
  cases k with
  | bare e =>
    obtain ⟨o, vs, e1, e2, e3, e4⟩ := xob_at I.hok e
    obtain ⟨oc, oD, ot, os⟩ := o
    simp only at e2 e3 e4
    subst e2 e3 e4
    exact ⟨_, none, ⟨e1, rfl, rfl, trivial⟩, fun _ _ => rfl⟩
  | @full dd fs e ed =>
    obtain ⟨o, vs, e1, e2, e3, e4⟩ := xob_at I.hok e
    have hx : ObjOk X.prog X.w H s.heap dd (.xd fs) := I.hok dd _ ed
    obtain ⟨mA, hns, hr⟩ := hx
    obtain ⟨od, ho, hl⟩ := lookIn_ns hns
    refine ⟨o, some od, ⟨e1, e2, by unfold PySem.W.notCls; rw [e4] <;> rfl, by rw [e3]; exact ho⟩, fun m hm => ?_⟩
    show (PySem.W.lookIn m od).map (·.isSome) = some false
    have hn : mA m = none := RelO.none_of (by rw [← hm]; exact hr m)
    rw [hl, hn]; rfl
end
/-- a value's class, all kept exceptions among them -/
inductive TyF (K : PySem.W.Frag) (H : Hp) : V → Value → Prop where
  | base {x : V} {t : Value} (h : TyX K H x t) : TyF K H x t
  | exc {a D : Addr} {fs : List (Str × V)} (C : ExcC K D) (e : KeptX H a D fs) : TyF K H (.ref a) (.ref D)
section
variable {X : Cx} {pins : List (Addr × Obj)} {σ : L2.St} {H : Hp} {s : Shared}
theorem kit_ofF {x : V} {u t : Value} (I : Inv X pins σ H s) (rx : RelV x u) (ty : TyF X.K H x t) : ∃ P : Heap → Prop, PySem.W.KitX X.K u t P ∧ P s.heap ∧ u ≠ .builtin "__main__.__loader__#opaque" := by
  cases ty with
  | base h => exact kit_of I rx h
  | @exc a D fs C e =>
    cases (show u = Value.ref a from rx)
    obtain ⟨ob, od, i, _⟩ := e.inst I
    exact ⟨_, kitX C, i, fun z => nomatch z⟩
end
def rIsiF (K : PySem.W.Frag) : List V → Hp → VK → Prop := fun xs H Q => ∃ (x c : V) (t u : Value) (b : Bool), xs = [x, c] ∧ ClsV c u ∧ TyF K H x t ∧ PySem.W.kitOne K t u = some b ∧ Q (.bl b) H
def rIsiTF (K : PySem.W.Frag) : List V → Hp → VK → Prop := fun xs H Q => ∃ (x : V) (tp : Addr) (cs : List V) (t : Value) (us : List Value) (b : Bool), xs = [x, .ref tp] ∧ H tp = some (.tup cs) ∧ Paired ClsV cs us ∧ TyF K H x t ∧ PySem.W.kitAny K t us = some b ∧ Q (.bl b) H
section
variable {X : Cx}
theorem call_isiF : CallR X (.builtin "isinstance") (rIsiF X.K) := by
  intro pins s σ H xs us Q I r h
  obtain ⟨x, c, t, u, b, rfl, k, ty, e, q⟩ := h
  obtain ⟨u1, u2, rfl, r1, r2⟩ := vals2 r
  have e2 := k.eq r2
  subst e2
  obtain ⟨P, Z, p, hx⟩ := kit_ofF I r1 ty
  exact PySem.W.kia_one Z I.kIn p e hx fun tk => ⟨.bl b, H, I.tok tk, rfl, q⟩
theorem call_isiTF : CallR X (.builtin "isinstance") (rIsiTF X.K) := by
  intro pins s σ H xs us Q I r h
  obtain ⟨x, tp, cs, t, ws, b, rfl, hT, k, ty, e, q⟩ := h
  obtain ⟨u1, u2, rfl, r1, r2⟩ := vals2 r
  cases (show u2 = Value.ref tp from r2)
  obtain ⟨P, Z, p, hx⟩ := kit_ofF I r1 ty
  obtain ⟨_, its, rv, o, h1, h2, n, h3⟩ := (show ObjOk X.prog X.w H s.heap tp (.tup cs) from I.hok tp _ hT)
  have e3 := ClsV.all k rv
  subst e3
  obtain ⟨oc, od, dt, sl⟩ := o
  simp only at h2 h3
  subst h2 h3
  exact PySem.W.kia_tup Z I.kIn p h1 e hx fun tk => ⟨.bl b, H, I.tok tk, rfl, q⟩
/-! ### e.f and e.m() of a kept exception -/
/-- Cs: the classes, each with no such name of its own -/
def XfdOk (K : PySem.W.Frag) (Cs : List Addr) (f : Str) : Prop := ∀ C ∈ Cs, ExcC K C ∧ findIn K (.ref C) f = some none
def tXfd (Cs : List Addr) (f : Str) (ta : TE) : TE := fun σ H Q => ta σ H fun x H1 => ∃ a C fs v, x = .ref a ∧ C ∈ Cs ∧ KeptX H1 a C fs ∧ fs.lookup f = some v ∧ Q v H1
theorem pe_xfd {Cs : List Addr} {f : Str} {e : Expr} {ta : TE} {pos : Pos} (ok : XfdOk X.K Cs f) (he : PE X e ta) (hb : attributeBase e f X.env (eval e X.env) = eval e X.env) : PE X (.Attribute e f pos) (tXfd Cs f ta) := by
  refine ⟨fun pins s σ H Q I h => ?_⟩
  refine attr_of hb (thn (he.run pins s σ H _ I h) fun u s1 ⟨x, H1, I1, rx, a, C, fs, v, ex, hC, k, l, q⟩ => ?_)
  subst ex
  obtain rfl : u = Value.ref a := rx
  obtain ⟨T, hno⟩ := ok C hC
  cases k with
  | bare e => cases l
  | @full dd fs e ed =>
    obtain ⟨o, vs, e1, e2, e3, e4⟩ := xob_at I1.hok e
    have hx : ObjOk X.prog X.w H1 s1.heap dd (.xd fs) := I1.hok dd _ ed
    obtain ⟨mA, hns, hr⟩ := hx
    obtain ⟨od, ho, hl⟩ := lookIn_ns hns
    obtain ⟨u, hu, ru⟩ := RelO.some_of (v := v) (o := mA f) (by rw [← l]; exact hr f)
    have J : InstAt s1.heap a o C (some od) := ⟨e1, e2, by unfold PySem.W.notCls; rw [e4] <;> rfl, by rw [e3]; exact ho⟩
    exact HandSPX.exc_get I1.kIn J T.hg T.hk T.hs (PySem.W.findObj_own T.hd hno rfl (by rw [hl, hu])) (handed_of ru) ⟨v, H1, I1.tok _, ru, q⟩
/-- one class of exceptions with the method at f -/
structure XAlt where
  C : Addr
  f : Addr
  sp : Sp
structure XAltOk (X : Cx) (k : Nat) (ps : List Str) (m : Str) (al : XAlt) : Prop where
  c : ExcC X.K al.C
  at_ : findIn X.K (.ref al.C) m = some (some (.ref al.f))
  ty : typeIn X.K (.ref al.f) = some (.type "function")
  g : Good X.prog X.w X.K X.mg X.base k al.f ps al.sp
def tXmU (alts : List XAlt) (m : Str) (W : WX) (ta : TE) : TE := fun σ H Q => ta σ H fun x H1 => ∃ al ∈ alts, ∃ a fs, x = .ref a ∧ KeptX H1 a al.C fs ∧ fs.lookup m = none ∧ al.sp [x] H1 Q (WE W σ)
theorem pe_xmU0 {o : Expr} {m : Str} {apos pos : Pos} {ta : TE} {k : Nat} {ps : List Str} {W : WX} {alts : List XAlt} {pl : Sem Bool} (he : PE X o ta) (hal : ∀ al ∈ alts, XAltOk X k ps m al) (hr : Room k X.A) (tk : Takes X W)
    (ht : eval (.Call (.Attribute o m apos) [] [] pos) X.env = (do
      let ov ← eval o X.env
      standAt apos.atName
      let (f, first) ← holding [ov] (getMethod ov m pl)
      callWith pos f first (backTo pos (starEach [] X.env)) (backToKw pos (keywordEach [] X.env))) := by rfl) :
    PE X (.Call (.Attribute o m apos) [] [] pos) (tXmU alts m W ta) := by
  refine ⟨fun pins s σ H Q I h => ?_⟩
  refine PySem.W.methodCall_KW (pl := pl) (thn (he.run pins s σ H _ I h) fun u s1 ⟨x, H1, I1, rx, al, hm, a, fs, ex, kx, l, q⟩ => ?_) ht
  obtain ⟨c, f1, f2, fd, F, b, kp⟩ := hal al hm
  subst ex
  obtain rfl : u = Value.ref a := rx
  obtain ⟨ob, od, i, sh⟩ := kx.inst I1
  refine methX I1.kIn i c f1 f2 (sh m l) ?_
  exact PySem.W.callWith_K0 (first := [.ref a]) I1.kIn kp (run_fnS (us := [.ref a]) (vs := [.ref a]) F hr b (passAt tk σ) I1 (.cons rfl .nil) q)
end
end SX0

set_option Elab.async false
set_option linter.all false
set_option maxRecDepth 100000
namespace SX0
open PySem PySem.Spec PyProof.Rows L2
/-! ### isinstance of own objects: what is asked of their class -/
structure InsC (K : PySem.W.Frag) (D : Addr) : Prop where
  cl : Cls K D
  ha : PySem.W.findIn K (.ref D) "__class__" = some (some (.builtin "object.__class__"))
  hn : PySem.W.specialIn K (.builtin "object.__class__") "__get__" = some (some (.builtin "getset_descriptor.__get__"))
  ht : PySem.W.takesIn K (.builtin "object.__class__") = some true
  hm : PySem.W.mroIn K D (.type "object") = some true
def insCB (K : PySem.W.Frag) (D : Addr) : Bool :=
  (PySem.W.plainGet K D Str.empty && (PySem.W.hasDictIn K D && (PySem.W.plainOver K D && He.eqO (PySem.W.findIn K (.ref D) "__setattr__") (some (some (.builtin "object.__setattr__")))))) &&
  (He.eqO (PySem.W.findIn K (.ref D) "__class__") (some (some (.builtin "object.__class__"))) && (He.eqO (PySem.W.specialIn K (.builtin "object.__class__") "__get__") (some (some (.builtin "getset_descriptor.__get__"))) &&
  (decide (PySem.W.takesIn K (.builtin "object.__class__") = some true) && decide (PySem.W.mroIn K D (.type "object") = some true))))
theorem insCB_ok {K : PySem.W.Frag} {D : Addr} (h : insCB K D = true) : InsC K D := by
  obtain ⟨c, h⟩ := He.ba h
  obtain ⟨c1, c⟩ := He.ba c
  obtain ⟨c2, c⟩ := He.ba c
  obtain ⟨c3, c4⟩ := He.ba c
  obtain ⟨c5, h⟩ := He.ba h
  obtain ⟨c6, h⟩ := He.ba h
  obtain ⟨c7, c8⟩ := He.ba h
  exact ⟨⟨c1, c2, c3, He.eqO_ok c4⟩, He.eqO_ok c5, He.eqO_ok c6, of_decide_eq_true c7, of_decide_eq_true c8⟩
theorem InsC.ty {K : PySem.W.Frag} {C a dx : Addr} {fs : List (Str × V)} {H : Hp} (c : InsC K C) (e : H a = some (.ins C dx fs)) : TyF K H (.ref a) (.ref C) := .base (.base (.ins e c.cl c.ha c.hn c.ht c.hm))
end SX0

set_option Elab.async false
set_option linter.all false
set_option maxRecDepth 100000
set_option maxHeartbeats 4000000
namespace SX0
open PySem PySem.Spec PyProof.Rows L2
/-! ### exception classes with an own __init__ -/
def oexB (K : PySem.W.Frag) (C : Addr) : Bool := (match K.lookup C with
  | some ⟨.type "type", _, .cls cd, sl⟩ => (match cd.mro, sl.toList with
    | .ref C' :: bm, [_, _, _, _, some (.builtin n), _] => decide (C' = C) && (decide (n = "ValueError.__new__") && (!cd.hasDel && (cd.hasDict && PySem.HandSPX.refsVE bm)))
    | _, _ => false)
  | _ => false) && (He.eqO (PySem.W.findIn K (.ref C) "__setattr__") (some (some (.builtin "object.__setattr__"))) && (decide (PySem.W.subIn K (.ref C) (.type "BaseException") = some true) &&
  (decide (PySem.W.typeIn K (.ref C) = some (.type "type")) && PySem.W.keepIn K (.ref C))))
theorem oexB_ok {K : PySem.W.Frag} {C : Addr} (h : oexB K C = true) : OexC K C := by
  unfold oexB at h
  obtain ⟨c0, h⟩ := He.ba h
  obtain ⟨c1, h⟩ := He.ba h
  obtain ⟨c2, h⟩ := He.ba h
  obtain ⟨c3, c4⟩ := He.ba h
  refine ⟨?_, He.eqO_ok c1, of_decide_eq_true c2, of_decide_eq_true c3, c4⟩
  split at c0
  · rename_i dd cd sl lo
    split at c0
    · rename_i C' bm k0 k1 k2 k3 n k5 hm hs
      obtain ⟨d1, c0⟩ := He.ba c0
      obtain ⟨d2, c0⟩ := He.ba c0
      obtain ⟨d3, c0⟩ := He.ba c0
      obtain ⟨d4, d5⟩ := He.ba c0
      have e1 := of_decide_eq_true d1
      have e2 := of_decide_eq_true d2
      subst e1 e2
      obtain ⟨nm, bs, mro, ns, qn, hd, sn, sb, ab, col, del⟩ := cd
      simp only at hm d3 d4
      subst hm d4
      have e3 : del = false := by simpa using d3
      subst e3
      have e4 : sl = #[k0, k1, k2, k3, some (.builtin "ValueError.__new__"), k5] := by
        apply Array.ext'
        exact hs
      subst e4
      exact ⟨nm, qn, ns, bs, bm, sn, sb, ab, col, dd, k0, k1, k2, k3, k5, lo, d5⟩
    · cases c0
  · cases c0
/-- C.__init__ read off an own exception class is ValueError's -/
structure BaseInit (K : PySem.W.Frag) (C : Addr) : Prop where
  rd : PySem.W.readsIn K C (.type "type") = true
  ga : PySem.W.specialIn K (.ref C) "__getattribute__" = some (some (.builtin "type.__getattribute__"))
  at_ : PySem.W.findCls K (.ref C) (.type "type") "__init__" = some (.val (.builtin "ValueError.__init__"))
def isValB (x : Option PySem.W.CFound) (y : Value) : Bool := match x with
  | some (.val v) => decide (v = y)
  | _ => false
theorem isValB_ok {x : Option PySem.W.CFound} {y : Value} (h : isValB x y = true) : x = some (.val y) := by
  unfold isValB at h
  split at h
  · rw [of_decide_eq_true h]
  · cases h
def baseInitB (K : PySem.W.Frag) (C : Addr) : Bool := PySem.W.readsIn K C (.type "type") && (He.eqO (PySem.W.specialIn K (.ref C) "__getattribute__") (some (some (.builtin "type.__getattribute__"))) && isValB (PySem.W.findCls K (.ref C) (.type "type") "__init__") (.builtin "ValueError.__init__"))
theorem baseInitB_ok {K : PySem.W.Frag} {C : Addr} (h : baseInitB K C = true) : BaseInit K C := by
  obtain ⟨c0, h⟩ := He.ba h
  obtain ⟨c1, c2⟩ := He.ba h
  exact ⟨c0, He.eqO_ok c1, isValB_ok c2⟩
section
variable {X : Cx} {o e : Expr} {es : List Expr} {to te : TE} {ta : TA} {f x : Str} {p p' p1 p2 pos pos2 : Pos} {C C0 : Addr} {W : WX}
theorem pe_binit {pl : Sem Bool} (B : BaseInit X.K C0) (hg : Gl X x) (hm : X.mg x = some (.ref C0)) (ha : PA X (e :: es) ta)
    (hdb : (x == ("__debug__" : Str)) = false := by decide)
    (hc : eval (.Call (.Attribute (.Name x p1) "__init__" p2) (e :: es) [] pos) X.env = (do
      let ov ← eval (.Name x p1) X.env
      standAt p2.atName
      let (f, first) ← holding [ov] (getMethod ov "__init__" pl)
      callWith pos f first (backTo pos (starEach (e :: es) X.env)) (backToKw pos (keywordEach [] X.env))) := by rfl)
    (he : starEach (e :: es) X.env = (false, eval e X.env) :: starEach es X.env := by rfl) (hpl : (backTo pos (starEach es X.env)).any (·.1) = false := by rfl) :
    PE X (.Call (.Attribute (.Name x p1) "__init__" p2) (e :: es) [] pos) (tVeI X.K ta) := by
  refine ⟨fun pins s σ H Q I h => ?_⟩
  refine PySem.W.methodCall_KW (ld_glob I hg hm ?_ hdb) hc
  refine PySem.W.method_cls I.kIn B.ga (PySem.W.cls_value I.kIn B.rd B.at_ (by rfl) ?_)
  show wpAny _ _ (callWith pos (Value.builtin "ValueError.__init__") [] (backTo pos (starEach (e :: es) X.env)) []) _ _ _
  refine PyProof.Rows.callWith_method1 (thn (ha.run pos pins _ σ H _ (I.tok _) h) fun us s1 ⟨vs, H1, I1, r1, a, C, ws, ev, hl, T, ea, q⟩ => ?_) he hpl
  subst ev
  cases r1 with
  | @cons _ u0 _ ur ra rw' =>
    obtain rfl : u0 = Value.ref a := ra
    have lz : ur.length ≤ sizeLine := by
      rw [← Paired.length rw', sizeLine_eq]
      omega
    exact oinit_ok T I1 ea lz fun s' J => ⟨.non, H1, J, rfl, q⟩
def tRzO (C : Addr) (sp : Sp) (t : TA) (W : WX) : TS := fun _ σ H => tMkO C sp [] t σ H fun cls d H' => W cls d σ H'
/-- raise C(..), C an own class over ValueError with an own __init__ -/
theorem ps_rzo {fI : Addr} {k : Nat} {ps : List Str} {sp : Sp} (hc : X.calm = true) (tk : Takes X W) (T : OexC X.K C) (i1 : PySem.W.findIn X.K (.ref C) "__init__" = some (some (.ref fI))) (i2 : PySem.W.typeIn X.K (.ref fI) = some (.type "function"))
    (G : Good X.prog X.w X.K X.mg X.base k fI ps sp) (hr : Room (k + 1) X.A) (hg : Gl X x) (hm : X.mg x = some (.ref C)) (ha : PA X (e :: es) ta)
    (hdb : (x == ("__debug__" : Str)) = false := by decide) (he : starEach (e :: es) X.env = (false, eval e X.env) :: starEach es X.env := by rfl) (hpl : (backTo pos (starEach es X.env)).any (·.1) = false := by rfl) :
    PS X (.Raise (some (.Call (.Name x p) (e :: es) [] pos)) none pos2) (tRzO C sp ta W) := by
  obtain ⟨fd, F, b, kp⟩ := G
  exact ps_raise hc tk (pmk_oex T i1 i2 F hr b .nil passL hg hm ha hdb he hpl)
end
end SX0

set_option Elab.async false
set_option linter.all false
set_option maxRecDepth 100000
set_option maxHeartbeats 4000000
namespace SX0
open PySem PySem.Spec PyProof.Rows L2
/-! ### a written dict from texts to ints -/
def kdE (e : DictEntry) : Option (Str × Int) := match e.key, e.val with
  | .str k _, .int n _ => some (k, n)
  | _, _ => none
def kdB (K : PySem.W.Frag) (d : Addr) (l : List (Str × Int)) : Bool := match K.lookup d with
  | some ⟨_, _, .dict es _, _⟩ => decide (es.toList.map kdE = l.map some)
  | _ => false
theorem kdE_some {e : DictEntry} {k : Str} {n : Int} (h : kdE e = some (k, n)) : ∃ t u, e.key = .str k t ∧ e.val = .int n u := by
  unfold kdE at h
  split at h
  · rename_i k' t n' u e1 e2
    cases h
    exact ⟨t, u, e1, e2⟩
  · cases h
theorem kd_list : ∀ (L : List DictEntry) (l : List (Str × Int)), L.map kdE = l.map some → ∀ z : Str,
    (∀ n, l.lookup z = some n → ∃ e u, L.find? (fun e => e.key.isStr z) = some e ∧ e.val = .int n u) ∧ (l.lookup z = none → L.find? (fun e => e.key.isStr z) = none ∧ L.any (·.refKey) = false)
  | [], [], _, z => ⟨fun n h => (by cases h), fun _ => ⟨rfl, rfl⟩⟩
  | [], _ :: _, h, _ => by cases h
  | _ :: _, [], h, _ => by cases h
  | e :: L, (k, n) :: l, h, z => by
    have h1 : kdE e = some (k, n) ∧ L.map kdE = l.map some := by simpa using h
    obtain ⟨t, u, e1, e2⟩ := kdE_some h1.1
    obtain ⟨i1, i2⟩ := kd_list L l h1.2 z
    rw [List.find?_cons, e1]
    have es : (Value.str k t).isStr z = (k == z) := rfl
    rw [es]
    by_cases hk : k = z
    · subst hk
      refine ⟨fun m hm => ?_, fun hm => ?_⟩
      · rw [List.lookup_cons, beq_self_eq_true] at hm
        cases hm
        exact ⟨e, u, by simp, e2⟩
      · rw [List.lookup_cons, beq_self_eq_true] at hm
        cases hm
    · have k1 : (k == z) = false := beq_eq_false_iff_ne.mpr hk
      have k2 : (z == k) = false := beq_eq_false_iff_ne.mpr (Ne.symm hk)
      rw [k1]
      refine ⟨fun m hm => ?_, fun hm => ?_⟩
      · rw [List.lookup_cons, k2] at hm
        exact i1 m hm
      · rw [List.lookup_cons, k2] at hm
        obtain ⟨a, b⟩ := i2 hm
        refine ⟨a, ?_⟩
        rw [List.any_cons, b, Bool.or_false]
        unfold DictEntry.refKey
        rw [e1]
theorem kd_ns {K : PySem.W.Frag} {d : Addr} {l : List (Str × Int)} (h : kdB K d l = true) (z : Str) : (∀ n, l.lookup z = some n → ∃ u, PySem.W.nsIn K d z = some (some u) ∧ RelV (.int n) u) ∧ (l.lookup z = none → PySem.W.nsIn K d z = some none) := by
  unfold kdB at h
  unfold PySem.W.nsIn
  split at h
  · rename_i c dd es ep sl lo
    obtain ⟨a, b⟩ := kd_list _ _ (of_decide_eq_true h) z
    refine ⟨fun n hn => ?_, fun hn => ?_⟩
    · obtain ⟨e, u, e1, e2⟩ := a n hn
      refine ⟨e.val, ?_, u, e2⟩
      rw [lo]
      simp only [e1]
    · obtain ⟨e1, e2⟩ := b hn
      rw [lo]
      simp only [e1, e2]
      rfl
  · cases h
def rInKd (K : PySem.W.Frag) (x0 : Str) : R2 := fun x y H Q => ∃ (z : Str) (r : Option Value), x = .str z ∧ y = .ref (He.ga K x0) ∧ PySem.W.nsIn K (He.ga K x0) z = some r ∧ Q (.bl r.isSome) H
def rNotInKd (K : PySem.W.Frag) (x0 : Str) : R2 := fun x y H Q => ∃ (z : Str) (r : Option Value), x = .str z ∧ y = .ref (He.ga K x0) ∧ PySem.W.nsIn K (He.ga K x0) z = some r ∧ Q (.bl (!r.isSome)) H
def rItemKd (K : PySem.W.Frag) (x0 : Str) : R2 := fun x y H Q => ∃ (z : Str) (u0 : Value) (v0 : V), x = .ref (He.ga K x0) ∧ y = .str z ∧ PySem.W.nsIn K (He.ga K x0) z = some (some u0) ∧ RelV v0 u0 ∧ Q v0 H
section
variable {X : Cx} {x0 : Str}
theorem op_inKd (D : ∃ es n, KDict X.K X.w (He.ga X.K x0) es n) : OpR X (compareOp .In) (rInKd X.K x0) := by
  obtain ⟨es, n, D⟩ := D
  exact op_in_kd D
theorem op_notInKd (D : ∃ es n, KDict X.K X.w (He.ga X.K x0) es n) : OpR X (compareOp .NotIn) (rNotInKd X.K x0) := by
  obtain ⟨es, n, D⟩ := D
  exact op_notIn_kd D
theorem ix_kd (D : ∃ es n, KDict X.K X.w (He.ga X.K x0) es n) : IxR X (rItemKd X.K x0) := by
  obtain ⟨es, n, D⟩ := D
  intro value slice pins s σ H x y v u Q I rx ry h hs
  obtain ⟨z, u0, v0, rfl, rfl, e, r, q⟩ := h
  cases rx
  obtain ⟨t, rfl⟩ := ry
  refine tail_any (kd_type D I) PySem.F.slot_dict_getitem.lookup ?_ hs
  exact wpAny_getItem_of (PySem.strKind_is X.prog X.w z t) (PySem.W.mapOf_K (prog := X.prog) I.kIn D.at_ D.lit) (PySem.W.find_K D.at_ e) ⟨v0, H, I.tok _, r, q⟩
/-! ### text * int -/
def repS (z : Str) (n : Nat) : Str := ⟨(List.replicate n z.cps).foldl (· ++ ·) #[]⟩
def oRepS : R2 := fun x y H Q => ∃ z i, x = .str z ∧ y = .int i ∧ 1 < i ∧ i ≤ 1000 ∧ 0 < z.length ∧ z.length ≤ 1000 ∧ Q (.str (repS z i.toNat)) H
theorem foldl_app_size (z : Array Nat) : ∀ (n : Nat) (a : Array Nat), ((List.replicate n z).foldl (· ++ ·) a).size = a.size + n * z.size
  | 0, a => by simp
  | n + 1, a => by
    rw [List.replicate_succ, List.foldl_cons, foldl_app_size z n, Array.size_append, Nat.succ_mul]
    omega
theorem op_repS : OpR X (binaryOp .Mult) oRepS := by
  intro pins s σ H x y v u Q I rx ry h
  obtain ⟨z, i, rfl, rfl, h1, h2, h3, h4, q⟩ := h
  obtain ⟨t, rfl⟩ := rx
  obtain ⟨t', rfl⟩ := ry
  have b1 : i.toNat ≤ 1000 := by omega
  have b2 : z.length * i.toNat ≤ 1000 * 1000 := Nat.mul_le_mul h4 b1
  have c1 : (decide (i < -(2 ^ 63 : Int)) || decide (i ≥ 2 ^ 63)) = false := by simp; omega
  have c2 : (i == 1 || z.length == 0) = false := by
    rw [Bool.or_eq_false_iff]
    exact ⟨beq_eq_false_iff_ne.mpr (by omega), beq_eq_false_iff_ne.mpr (by omega)⟩
  refine PySem.P.mul_str c1 (fun _ _ => ?_) (fun _ _ => ?_) ?_
  · have : (2 ^ 63 - 1) / i ≥ 1000 := by
      refine (Int.le_ediv_iff_mul_le (by omega)).mpr ?_
      omega
    omega
  · show decide (sizeLine < z.length * i.toNat) = false
    rw [sizeLine_eq]
    exact decide_eq_false (by omega)
  · rw [if_neg (by omega), c2, if_neg Bool.false_ne_true]
    refine ⟨?_, ⟨.str (repS z i.toNat), H, I.tok _, ⟨_, rfl⟩, q⟩⟩
    show ((List.replicate i.toNat z.cps).foldl (· ++ ·) #[]).size ≤ sizeLine
    rw [foldl_app_size, sizeLine_eq, Array.size_empty, Nat.mul_comm]
    have e9 : z.cps.size = z.length := rfl
    rw [e9]
    omega
end
end SX0

set_option Elab.async false
set_option linter.all false
set_option maxRecDepth 100000
set_option maxHeartbeats 4000000
namespace SX0
open PySem PySem.Spec PyProof.Rows L2
section
variable {X : Cx}
/-- if a == n: return x.replace(c1, c2) + e -/
def tIfRep (ta : TE) (n : Int) (i : Nat) (c1 c2 : Str) (te : TE) : TS := fun D σ H => ta σ H fun x H1 => ∃ k, x = .int k ∧
  if decide (k = n) = true then ∃ z, σ[i]? = some (some (.str z)) ∧ z.length + (z.length + 1) * c2.length ≤ 16777216 ∧ te σ H1 fun y H2 => oAddStr (.str (Txt.replace z c1 c2)) y H2 D.rt
  else D.nx σ H1
theorem ps_ifRep {a e : Expr} {ta te : TE} {n : Int} {i : Nat} {kx c1 c2 : Str} {j0 j1 j2 : Nat} {p0 p1 cp1 cp2 apos cpos bpos rpos pos tpos : Pos} (ha : PE X a ta) (he : PE X e te) (hN : X.N[i]? = some kx) (hv : Vis X.env.scope kx)
    (hcc : (c1 == c2) = false := by decide +kernel) (hdk : (kx == ("__debug__" : Str)) = false := by decide) (hck : (kx == ("__classdict__" : Str)) = false := by decide)
    (hst : starEach [.Constant (.str c1) j1 cp1, .Constant (.str c2) j2 cp2] X.env = [(false, eval (.Constant (.str c1) j1 cp1) X.env), (false, eval (.Constant (.str c2) j2 cp2) X.env)] := by rfl)
    (hbase : attributeBase (.Name kx p1) "replace" X.env (eval (.Name kx p1) X.env) = eval (.Name kx p1) X.env := by rfl) (hline : (apos.endLine == cpos.line) = true := by rfl)
    (hm : behindInMarks .Eq (.Constant (.int n) j0 p0) = false := by rfl) :
    PS X (.If (.Compare a [.Eq] [.Constant (.int n) j0 p0] tpos) [.Return (some (.BinOp (.Call (.Attribute (.Name kx p1) "replace" apos) [.Constant (.str c1) j1 cp1, .Constant (.str c2) j2 cp2] [] cpos) .Add e bpos)) rpos] [] pos) (tIfRep ta n i c1 c2 te) := by
  refine ⟨fun pins s σ H D I h => ?_⟩
  refine wpAny_If (wpAny_isTrue_Compare1 (thn (ha.run pins s σ H _ I h) fun v s1 ⟨x, H1, I1, r1, k, ex, q1⟩ => ?_) hm)
  subst ex
  obtain ⟨t1, rfl⟩ := r1
  refine wpAny_Constant_int ?_
  refine PySem.P.eq_int ?_
  refine wpAny_truthy_bool ?_
  have I2 : Inv X pins σ H1 { s1 with toks := s1.toks + 1 } := I1.tok _
  by_cases hk : k = n
  · subst hk
    rw [decide_eq_true rfl, if_pos rfl] at q1
    obtain ⟨z, hz, hl, q⟩ := q1
    rw [beq_self_eq_true]
    show wpAny _ _ (execs [.Return (some (.BinOp (.Call (.Attribute (.Name kx p1) "replace" apos) [.Constant (.str c1) j1 cp1, .Constant (.str c2) j2 cp2] [] cpos) .Add e bpos)) rpos] X.env) _ _ _
    refine wpAny_execs_cons (wpAny_Return_some (wpAny_BinOp ?_))
    refine PySem.Call_method2 hbase hst hline (raw_name hN hv I2 hz (fun u r => ?_) hdk hck)
    obtain ⟨tz, rfl⟩ := r
    refine ⟨"str", _, F.plainAttrs_str, F.slot_str_replace, F.type_str_replace, typeIs_str _ _ _, (fun _ e => nomatch e), Calls.callWith_builtin rfl (Calls.evalArgs_plain (Calls.spliced_cons ?_))⟩
    refine Calls.Constant_str (Calls.spliced_cons (Calls.Constant_str (Calls.spliced_nil ?_)))
    refine PySem.SC.replace (by simp) (by simp) (by simp) hcc hl fun t' k => ?_
    have I3 : Inv X pins σ H1 { s1 with toks := k } := I1.tok _
    refine thn (he.run pins _ σ H1 _ I3 q) fun u s2 ⟨y, H2, I4, r2, q2⟩ => ?_
    refine thn (op_add_str pins s2 σ H2 (.str (Txt.replace z c1 c2)) y (.str (Txt.replace z c1 c2) t') u _ I4 ⟨t', rfl⟩ r2 q2) fun w s3 ⟨v', H3, I5, r3, q3⟩ => ?_
    exact ⟨v', σ, H3, I5, r3, q3⟩
  · rw [decide_eq_false hk, if_neg Bool.false_ne_true] at q1
    have e1 : (k == n) = false := beq_eq_false_iff_ne.mpr hk
    rw [e1]
    exact wpAny_execs_nil ⟨σ, H1, I2, q1⟩
end
theorem xfdok_nil {K : PySem.W.Frag} {f : Str} : XfdOk K [] f := fun _ h => nomatch h
theorem xfdok_cons {K : PySem.W.Frag} {f : Str} {C : Addr} {Cs : List Addr} (h1 : ExcC K C) (h2 : NoAttr K C f) (h : XfdOk K Cs f) : XfdOk K (C :: Cs) f := fun D hD => by
  rcases List.mem_cons.mp hD with e | e
  · rw [e]; exact ⟨h1, h2⟩
  · exact h D e
theorem xaltok_nil {X : Cx} {k : Nat} {ps : List Str} {m : Str} : ∀ al ∈ ([] : List XAlt), XAltOk X k ps m al := fun _ h => nomatch h
theorem xaltok_cons {X : Cx} {k : Nat} {ps : List Str} {m : Str} {a : XAlt} {r : List XAlt} (h : XAltOk X k ps m a) (hr : ∀ al ∈ r, XAltOk X k ps m al) : ∀ al ∈ a :: r, XAltOk X k ps m al := fun al hm => by
  rcases List.mem_cons.mp hm with e | e
  · rw [e]; exact h
  · exact hr al e
end SX0

set_option Elab.async false
set_option linter.all false
set_option maxRecDepth 100000
set_option maxHeartbeats 4000000
namespace SX0
open PySem PySem.Spec PyProof.Rows L2
/-! ### C.m(self, ..): a def read off a class -/
structure ClsFn (K : PySem.W.Frag) (C : Addr) (m : Str) (f : Addr) : Prop where
  rd : PySem.W.readsIn K C (.type "type") = true
  ga : PySem.W.specialIn K (.ref C) "__getattribute__" = some (some (.builtin "type.__getattribute__"))
  at_ : PySem.W.findCls K (.ref C) (.type "type") m = some (.val (.ref f))
def clsFnB (K : PySem.W.Frag) (C : Addr) (m : Str) (f : Addr) : Bool := PySem.W.readsIn K C (.type "type") && (He.eqO (PySem.W.specialIn K (.ref C) "__getattribute__") (some (some (.builtin "type.__getattribute__"))) && isValB (PySem.W.findCls K (.ref C) (.type "type") m) (.ref f))
theorem clsFnB_ok {K : PySem.W.Frag} {C f : Addr} {m : Str} (h : clsFnB K C m f = true) : ClsFn K C m f := by
  obtain ⟨c0, h⟩ := He.ba h
  obtain ⟨c1, c2⟩ := He.ba h
  exact ⟨c0, He.eqO_ok c1, isValB_ok c2⟩
section
variable {X : Cx} {W : WX} {k : Nat} {f C : Addr} {ps : List Str} {sp : Sp} {x m : Str} {p1 p2 pos : Pos} {e : Expr} {es : List Expr} {t : TA}
theorem pe_clsU {pl : Sem Bool} (B : ClsFn X.K C m f) (G : Good X.prog X.w X.K X.mg X.base k f ps sp) (hr : Room k X.A) (tk : Takes X W) (hg : Gl X x) (hm : X.mg x = some (.ref C)) (ha : PA X (e :: es) t)
    (hdb : (x == ("__debug__" : Str)) = false := by decide)
    (hc : eval (.Call (.Attribute (.Name x p1) m p2) (e :: es) [] pos) X.env = (do
      let ov ← eval (.Name x p1) X.env
      standAt p2.atName
      let (f, first) ← holding [ov] (getMethod ov m pl)
      callWith pos f first (backTo pos (starEach (e :: es) X.env)) (backToKw pos (keywordEach [] X.env))) := by rfl)
    (he : starEach (e :: es) X.env = (false, eval e X.env) :: starEach es X.env := by rfl) (hpl : (backTo pos (starEach es X.env)).any (·.1) = false := by rfl) :
    PE X (.Call (.Attribute (.Name x p1) m p2) (e :: es) [] pos) (tCallS sp (WE W) t) := by
  obtain ⟨fd, F, b, kp⟩ := G
  refine ⟨fun pins s σ H Q I h => ?_⟩
  refine PySem.W.methodCall_KW (ld_glob I hg hm ?_ hdb) hc
  refine PySem.W.method_cls I.kIn B.ga (PySem.W.cls_value I.kIn B.rd B.at_ (handed_of (v := .ref f) rfl) ?_)
  refine PySem.W.callWith_K (first := []) (h₀ := X.base) I.ok.mod.kin kp (thn (ha.run pos pins _ σ H _ (I.tok _) h) fun us s2 ⟨vs, H2, I2, r, q2⟩ => ⟨I2.kIn, ?_⟩) he hpl
  exact run_fnS (us := us) (vs := vs) F hr b (passAt tk σ) I2 r q2
end
theorem glo_al {mg : Str → Option Value} {x : Str} {a b : Addr} (h : mg x = some (.ref a)) (e : a = b) : mg x = some (.ref b) := e ▸ h
end SX0

set_option Elab.async false
set_option linter.all false
set_option maxRecDepth 100000
set_option maxHeartbeats 4000000
namespace SX0
open PySem PySem.Spec PyProof.Rows L2
/-! ### a def whose body is `return 'text'`, called anywhere (an except suite, too) -/
/-- one class of exceptions whose method m tells c -/
structure CAlt where
  C : Addr
  f : Addr
  c : Str
/-- at f: def m(self): return c -/
def ConstFn (K : PySem.W.Frag) (f : Addr) (c : Str) : Prop := ∃ (x qual : Str) (params : Arguments) (scope : Scope) (fd : FuncData) (j : Nat) (p1 p2 : Pos) (N : List Str), FunD K x qual params [.Return (some (.Constant (.str c) j p1)) p2] scope [] [] f fd ∧ FnScope N ["self"] scope ∧ Binds K fd ["self"] []
open PySem.W (findIn typeIn)
structure CAltOk (K : PySem.W.Frag) (m : Str) (al : CAlt) : Prop where
  c : ExcC K al.C
  at_ : findIn K (.ref al.C) m = some (some (.ref al.f))
  ty : typeIn K (.ref al.f) = some (.type "function")
  g : ConstFn K al.f al.c
theorem calt_nil {K : PySem.W.Frag} {m : Str} : ∀ al ∈ ([] : List CAlt), CAltOk K m al := fun _ h => nomatch h
theorem calt_cons {K : PySem.W.Frag} {m : Str} {a : CAlt} {r : List CAlt} (h : CAltOk K m a) (hr : ∀ al ∈ r, CAltOk K m al) : ∀ al ∈ a :: r, CAltOk K m al := fun al hm => by
  rcases List.mem_cons.mp hm with e | e
  · rw [e]; exact h
  · exact hr al e
section
variable {X : Cx} {pins : List (Addr × Obj)} {σ : L2.St} {H : Hp} {s : Shared}
theorem run_const {f : Addr} {c : Str} {u : Value} {Q : VK} (g : ConstFn X.K f c) (hd : X.A.depth < recursionLimit) (I : Inv X pins σ H s) (q : Q (.str c) H) : wpAny (model X.prog X.w) X.A (call (.ref f) [u]) (EP X pins σ Q) X.xe s := by
  obtain ⟨x, qual, params, scope, fd, j, p1, p2, N, F, S, b⟩ := g
  have hb := b s [u] I.kIn rfl
  rw [List.append_nil] at hb
  obtain ⟨oc, od, dV, kV, doc, pm, an, cdv, ct, osl, rfl, lk, hcd, _, _⟩ := F.ex
  have hkind : ∀ y ∈ (["self"] : List Str).zip [u], scope.names.lookup y.1 = some .local ∨ (scope.names.lookup y.1 = some .cell ∧ ((cellsFrom (s.heap.objs.size + 1) scope.names []).lookup y.1).isSome = true) := fun ⟨n, v⟩ hy => by
    rcases S.par n (List.of_mem_zip hy).1 with z | z
    · exact .inl z
    · exact .inr ⟨z, PySem.W.cellsFrom_some _ _ _ (.inl z)⟩
  have lim : s.heap.NoLimit := I.nolimit
  refine wpAny_call (codeAny_call_function hd (I.kIn _ _ lk) rfl S.co S.gen rfl (PySem.W.codeRec_of I.kIn hcd) (hb _ _ _ _ ?_))
  refine wpAny_newFunctionEnv_cells S.kind hkind fun env he s1 y => ?_
  subst he
  refine ⟨lim.keeps y.toInCall.keep, codeAny_func ?_⟩
  obtain ⟨h1, tk, rfl, hk⟩ := y.done
  refine wpAny_execs_cons (wpAny_Return_some (Calls.Constant_str ?_))
  exact ⟨.str c, H, I.kept (t' := tk + 1) hk, ⟨_, rfl⟩, q⟩
def tXmC (alts : List CAlt) (m : Str) (ta : TE) : TE := fun σ H Q => ta σ H fun x H1 => ∃ al ∈ alts, ∃ a fs, x = .ref a ∧ KeptX H1 a al.C fs ∧ fs.lookup m = none ∧ Q (.str al.c) H1
theorem pe_xmC {o : Expr} {m : Str} {apos pos : Pos} {ta : TE} {alts : List CAlt} {pl : Sem Bool} (he : PE X o ta) (hal : ∀ al ∈ alts, CAltOk X.K m al) (kp : ∀ al ∈ alts, PySem.W.keepIn X.K (.ref al.f) = true) (hd : X.A.depth < recursionLimit)
    (ht : eval (.Call (.Attribute o m apos) [] [] pos) X.env = (do
      let ov ← eval o X.env
      standAt apos.atName
      let (f, first) ← holding [ov] (getMethod ov m pl)
      callWith pos f first (backTo pos (starEach [] X.env)) (backToKw pos (keywordEach [] X.env))) := by rfl) :
    PE X (.Call (.Attribute o m apos) [] [] pos) (tXmC alts m ta) := by
  refine ⟨fun pins s σ H Q I h => ?_⟩
  refine PySem.W.methodCall_KW (pl := pl) (thn (he.run pins s σ H _ I h) fun u s1 ⟨x, H1, I1, rx, al, hm, a, fs, ex, kx, l, q⟩ => ?_) ht
  have A := hal al hm
  subst ex
  obtain rfl : u = Value.ref a := rx
  obtain ⟨ob, od, i, sh⟩ := kx.inst I1
  refine methX I1.kIn i A.c A.at_ A.ty (sh m l) ?_
  exact PySem.W.callWith_K0 (first := [.ref a]) I1.kIn (kp al hm) (run_const A.g hd I1 q)
end
theorem room_depth {k : Nat} {A : Around} (hr : Room k A) : A.depth < recursionLimit := by have := hr.dp; omega
theorem ckeep_nil {K : PySem.W.Frag} : ∀ al ∈ ([] : List CAlt), PySem.W.keepIn K (.ref al.f) = true := fun _ h => nomatch h
theorem ckeep_cons {K : PySem.W.Frag} {a : CAlt} {r : List CAlt} (h : PySem.W.keepIn K (.ref a.f) = true) (hr : ∀ al ∈ r, PySem.W.keepIn K (.ref al.f) = true) : ∀ al ∈ a :: r, PySem.W.keepIn K (.ref al.f) = true := fun al hm => by
  rcases List.mem_cons.mp hm with e | e
  · rw [e]; exact h
  · exact hr al e
end SX0

set_option Elab.async false
set_option linter.all false
set_option maxRecDepth 100000
namespace SX0
open PySem PySem.Spec PyProof.Rows L2
/-! ### facts, tables and a Bool, read of what the names reach and of the interpreter's own statics -/
abbrev AlY : Type := He.AlT × Bool
def asY (g : Addr → Option Obj) (n : Nat) : List Addr := He.asD g n ++ [cStatics]
def obsY (n : Nat) (fa : List He.Fa) (fn : List He.DefD) (ts : List He.Tab) (ex : PySem.W.Frag → Bool) (g : Addr → Option Obj) : AlY := (He.obsT fa fn ts (He.frT g (asY g n)), ex (He.frT g (asY g n)))
structure SaysY (fa : List He.Fa) (fn : List He.DefD) (ts : List He.Tab) (ex : PySem.W.Frag → Bool) (w : World) (K : PySem.W.Frag) : Prop where
  t : He.SaysT fa fn ts w K
  more : ex K = true
def hookY (n : Nat) (fa : List He.Fa) (fn : List He.DefD) (ts : List He.Tab) (ex : PySem.W.Frag → Bool) : PySem.W.Hook where
  α := AlY
  obs := fun s => obsY n fa fn ts ex s.heap.get?
  val := fun w => (He.valT fn ts w, true)
  says := fun w h => ∃ K : PySem.W.Frag, K.In h ∧ SaysY fa fn ts ex w K
  of := fun w s e => ⟨He.frT s.heap.get? (asY s.heap.get? n), He.frT_in, congrArg (fun z : AlY => z.1) e, congrArg (fun z : AlY => z.2) e⟩
  keeps := fun w h h' ⟨K, hK, c⟩ k => ⟨K, PySem.W.Frag.In.keeps hK k, c⟩
theorem obsY_eq {n : Nat} {fa : List He.Fa} {fn : List He.DefD} {ts : List He.Tab} {ex : PySem.W.Frag → Bool} {g : Addr → Option Obj} {s : Shared} (h : ∀ a, g a = s.heap.get? a) : obsY n fa fn ts ex g = (hookY n fa fn ts ex).obs s := by
  have e : g = s.heap.get? := funext h
  rw [e]
  rfl
end SX0

set_option Elab.async false
set_option linter.all false
set_option maxRecDepth 100000
namespace SX0
open PySem PySem.Spec PyProof.Rows L2
/-! ### addresses that names reach, by a mask of bits (no list is searched) -/
def mB (m a : Nat) : Bool := Nat.beq (Nat.land (Nat.shiftRight m a) 1) 1
def addsM : List Nat → Nat → List Nat → Nat × List Nat
  | [], m, acc => (m, acc)
  | a :: r, m, acc => match mB m a with
    | true => addsM r m acc
    | false => addsM r (Nat.lor m (Nat.shiftLeft 1 a)) (a :: acc)
def lvlM (g : Addr → Option Obj) : Nat → Nat × List Nat → List Nat → List Nat
  | 0, _, all => all
  | n + 1, (m, fr), all =>
    match addsM (fr.flatMap fun a => match g a with
      | some o => He.refsD o
      | none => []) m [] with
    | (m', nx) => lvlM g n (m', nx) (nx ++ all)
def asM (g : Addr → Option Obj) (n : Nat) : List Addr := lvlM g n (Nat.shiftLeft 1 mainGlobals, [mainGlobals]) [mainGlobals] ++ [cStatics]
def obsM (n : Nat) (fa : List He.Fa) (fn : List He.DefD) (ts : List He.Tab) (ex : PySem.W.Frag → Bool) (g : Addr → Option Obj) : AlY := (He.obsT fa fn ts (He.frT g (asM g n)), ex (He.frT g (asM g n)))
def hookM (n : Nat) (fa : List He.Fa) (fn : List He.DefD) (ts : List He.Tab) (ex : PySem.W.Frag → Bool) : PySem.W.Hook where
  α := AlY
  obs := fun s => obsM n fa fn ts ex s.heap.get?
  val := fun w => (He.valT fn ts w, true)
  says := fun w h => ∃ K : PySem.W.Frag, K.In h ∧ SaysY fa fn ts ex w K
  of := fun w s e => ⟨He.frT s.heap.get? (asM s.heap.get? n), He.frT_in, congrArg (fun z : AlY => z.1) e, congrArg (fun z : AlY => z.2) e⟩
  keeps := fun w h h' ⟨K, hK, c⟩ k => ⟨K, PySem.W.Frag.In.keeps hK k, c⟩
theorem obsM_eq {n : Nat} {fa : List He.Fa} {fn : List He.DefD} {ts : List He.Tab} {ex : PySem.W.Frag → Bool} {g : Addr → Option Obj} {s : Shared} (h : ∀ a, g a = s.heap.get? a) : obsM n fa fn ts ex g = (hookM n fa fn ts ex).obs s := by
  have e : g = s.heap.get? := funext h
  rw [e]
  rfl
end SX0

set_option Elab.async false
set_option linter.all false
set_option maxRecDepth 100000
namespace SX0
open PySem PySem.Spec PyProof.Rows L2
/-! ### addresses that names reach, the near ones first (a look-up walks the list from its head) -/
def lvlN (g : Addr → Option Obj) : Nat → Nat × List Nat → List Nat → List Nat
  | 0, _, all => all
  | n + 1, (m, fr), all =>
    match addsM (fr.flatMap fun a => match g a with
      | some o => He.refsD o
      | none => []) m [] with
    | (m', nx) => lvlN g n (m', nx) (all ++ nx)
def asN (g : Addr → Option Obj) (n : Nat) : List Addr := cStatics :: lvlN g n (Nat.shiftLeft 1 mainGlobals, [mainGlobals]) [mainGlobals]
def obsN (n : Nat) (fa : List He.Fa) (fn : List He.DefD) (ts : List He.Tab) (ex : PySem.W.Frag → Bool) (g : Addr → Option Obj) : AlY := (He.obsT fa fn ts (He.frT g (asN g n)), ex (He.frT g (asN g n)))
def hookN (n : Nat) (fa : List He.Fa) (fn : List He.DefD) (ts : List He.Tab) (ex : PySem.W.Frag → Bool) : PySem.W.Hook where
  α := AlY
  obs := fun s => obsN n fa fn ts ex s.heap.get?
  val := fun w => (He.valT fn ts w, true)
  says := fun w h => ∃ K : PySem.W.Frag, K.In h ∧ SaysY fa fn ts ex w K
  of := fun w s e => ⟨He.frT s.heap.get? (asN s.heap.get? n), He.frT_in, congrArg (fun z : AlY => z.1) e, congrArg (fun z : AlY => z.2) e⟩
  keeps := fun w h h' ⟨K, hK, c⟩ k => ⟨K, PySem.W.Frag.In.keeps hK k, c⟩
theorem obsN_eq {n : Nat} {fa : List He.Fa} {fn : List He.DefD} {ts : List He.Tab} {ex : PySem.W.Frag → Bool} {g : Addr → Option Obj} {s : Shared} (h : ∀ a, g a = s.heap.get? a) : obsN n fa fn ts ex g = (hookN n fa fn ts ex).obs s := by
  have e : g = s.heap.get? := funext h
  rw [e]
  rfl
end SX0

set_option Elab.async false
set_option linter.all false
set_option maxRecDepth 100000
namespace SX0
open PySem PySem.Spec PyProof.Rows L2
/-! ### the top's run, looked at in parts -/
theorem run_join {α : Type} {x : Option α} {g : α → Addr → Option Obj} {w : World} {n : Nat} {fa1 fa2 : List He.Fa} {fn1 fn2 : List He.DefD} {ts : List He.Tab} {ex1 ex2 ex : PySem.W.Frag → Bool} (he : ∀ K, ex K = (ex1 K && ex2 K))
    (h1 : x.map (fun s => obsN n fa1 fn1 ts ex1 (g s)) = some (He.valT fn1 ts w, true)) (h2 : x.map (fun s => obsN n fa2 fn2 [] ex2 (g s)) = some (He.valT fn2 [] w, true)) :
    x.map (fun s => obsN n (fa1 ++ fa2) (fn1 ++ fn2) ts ex (g s)) = some (He.valT (fn1 ++ fn2) ts w, true) := by
  cases x with
  | none => cases h1
  | some s =>
    have e1 := Option.some.inj h1
    have e2 := Option.some.inj h2
    unfold obsN He.obsT He.obsD He.valT He.valD at e1 e2
    simp only [Prod.mk.injEq, Bool.and_eq_true] at e1 e2
    obtain ⟨⟨⟨⟨a1, b1⟩, c1⟩, d1⟩, f1⟩ := e1
    obtain ⟨⟨⟨⟨a2, b2⟩, c2⟩, _⟩, f2⟩ := e2
    refine congrArg some ?_
    unfold obsN He.obsT He.obsD He.valT He.valD
    simp only [Prod.mk.injEq, Bool.and_eq_true, List.all_append, List.map_append, he]
    exact ⟨⟨⟨⟨⟨a1, a2⟩, b1, b2⟩, by rw [c1, c2]⟩, d1⟩, f1, f2⟩
theorem run_pair {α β γ δ : Type} {x : Option α} {f : α → β} {g : α → γ} {h : α → δ} {b : β} {c : γ} {d : δ} (h1 : x.map (fun s => (f s, g s)) = some (b, c)) (h2 : x.map h = some d) : x.map (fun s => (f s, g s, h s)) = some (b, c, d) := by
  cases x with
  | none => cases h1
  | some s =>
    have e1 := Option.some.inj h1
    have e2 := Option.some.inj h2
    simp only [Prod.mk.injEq] at e1
    show some (f s, g s, h s) = _
    rw [e1.1, e1.2, e2]
end SX0

set_option Elab.async false
set_option linter.all false
set_option maxRecDepth 100000
set_option maxHeartbeats 0
namespace D_k82
open PySem PySem.Spec PyProof.Rows L2 SX0
def top (i : Nat) : Stmt := PySem.Challenge.pw_stillheap_k82_pace_refused.main.body.getD i (.Pass ⟨0, 0, 0, 0⟩)
abbrev s__law_number : Stmt := top 104
abbrev s_parts_due : Stmt := top 55
abbrev s_are_all_in : Stmt := top 56
abbrev s_is_mark : Stmt := top 58
abbrev s_is_plain : Stmt := top 57
abbrev s_part_in : Stmt := top 59
abbrev s_row_in : Stmt := top 60
abbrev s_marks_in : Stmt := top 62
abbrev s_BadText___init__ : Stmt := inClass (top 8) 0
abbrev s_mark_of : Stmt := top 61
abbrev s_read_program : Stmt := top 63
abbrev s_look_at_pace : Stmt := top 75
abbrev s_room_needed : Stmt := top 76
abbrev s_look_at_limits : Stmt := top 30
abbrev s_IdealHeap___init__ : Stmt := inClass (top 40) 0
abbrev s_Running___init__ : Stmt := inClass (top 69) 0
abbrev s_Running_at : Stmt := inClass (top 69) 1
abbrev s_Running_steps : Stmt := inClass (top 69) 6
abbrev s_kind_of : Stmt := top 25
abbrev s_thing_of : Stmt := top 34
abbrev s_things_of : Stmt := top 35
abbrev s_led_within : Stmt := top 36
abbrev s_young_things : Stmt := top 37
abbrev s_young_kept : Stmt := top 39
abbrev s_IdealHeap_settle : Stmt := inClass (top 40) 19
abbrev s_IdealHeap_small : Stmt := inClass (top 40) 20
abbrev s_IdealHeap_begin : Stmt := inClass (top 40) 21
abbrev s_IdealHeap_end : Stmt := inClass (top 40) 22
abbrev s_look_at_hand : Stmt := top 27
abbrev s_IdealHeap_kind : Stmt := inClass (top 40) 14
abbrev s_IdealHeap_value : Stmt := inClass (top 40) 15
abbrev s_IdealHeap_thing_in : Stmt := inClass (top 40) 1
abbrev s_IdealHeap_fields : Stmt := inClass (top 40) 16
abbrev s_said_of : Stmt := top 68
abbrev s_IdealHeap_same : Stmt := inClass (top 40) 17
abbrev s_goes_on : Stmt := top 67
abbrev s_words_of : Stmt := top 26
abbrev s_words_in : Stmt := top 38
abbrev s_IdealHeap_held : Stmt := inClass (top 40) 18
abbrev s_IdealThing___init__ : Stmt := inClass (top 33) 0
abbrev s_thing_value : Stmt := top 24
abbrev s_IdealHeap_make : Stmt := inClass (top 40) 3
abbrev s_IdealHeap_field_due : Stmt := inClass (top 40) 2
abbrev s_IdealHeap_load : Stmt := inClass (top 40) 4
abbrev s_IdealHeap_store : Stmt := inClass (top 40) 5
abbrev s_IdealHeap_copy : Stmt := inClass (top 40) 6
abbrev s_IdealHeap_drop : Stmt := inClass (top 40) 7
abbrev s_number_value : Stmt := top 23
abbrev s_IdealHeap_number : Stmt := inClass (top 40) 8
abbrev s_look_at_name : Stmt := top 28
abbrev s_IdealHeap_name : Stmt := inClass (top 40) 9
abbrev s_IdealHeap_give_back : Stmt := inClass (top 40) 11
abbrev s_IdealHeap_read : Stmt := inClass (top 40) 10
abbrev s_IdealHeap_word : Stmt := inClass (top 40) 12
abbrev s_IdealHeap_take : Stmt := inClass (top 40) 13
abbrev s_do_value : Stmt := top 65
abbrev s_do_plain : Stmt := top 66
abbrev s_Running_do_row : Stmt := inClass (top 69) 2
abbrev s_TooManyWords_called : Stmt := inClass (top 13) 0
abbrev s_RoundOn_called : Stmt := inClass (top 12) 0
abbrev s_NoRound_called : Stmt := inClass (top 11) 0
abbrev s_NoRoom_called : Stmt := inClass (top 10) 0
abbrev s_HeapError_called : Stmt := inClass (top 2) 0
abbrev s_BadView_called : Stmt := inClass (top 9) 0
abbrev s_BadText_called : Stmt := inClass (top 8) 1
abbrev s_BadName_called : Stmt := inClass (top 7) 0
abbrev s_BadHand_called : Stmt := inClass (top 6) 0
abbrev s_BadField_called : Stmt := inClass (top 5) 0
abbrev s_BadCount_called : Stmt := inClass (top 4) 0
abbrev s_BadAddress_called : Stmt := inClass (top 3) 0
abbrev s_Running_step : Stmt := inClass (top 69) 3
abbrev s_IdealHeap_things : Stmt := inClass (top 40) 26
abbrev s_IdealHeap_thing_due : Stmt := inClass (top 40) 27
abbrev s_IdealHeap_fields_of : Stmt := inClass (top 40) 28
abbrev s_thing_in : Stmt := top 44
abbrev s_IdealHeap_hands : Stmt := inClass (top 40) 24
abbrev s_view_of : Stmt := top 45
abbrev s_look_at_told : Stmt := top 42
abbrev s_look_at_view : Stmt := top 43
abbrev s_grown_from : Stmt := top 46
abbrev s_root_things : Stmt := top 47
abbrev s_reached : Stmt := top 48
abbrev s_words_reached : Stmt := top 77
abbrev s_most_reached : Stmt := top 78
abbrev s_Paced___init__ : Stmt := inClass (top 79) 0
abbrev s_Memory___init__ : Stmt := inClass (top 94) 0
abbrev s_NameTable___init__ : Stmt := inClass (top 97) 0
abbrev s_WordTable___init__ : Stmt := inClass (top 82) 0
abbrev s_Halves___init__ : Stmt := inClass (top 100) 0
abbrev s_OldMover___init__ : Stmt := inClass (top 102) 0
abbrev s__law_word : Stmt := top 105
abbrev s_Running_told : Stmt := inClass (top 69) 4
abbrev s_Paced_told : Stmt := inClass (top 79) 3
abbrev s_Running_fault : Stmt := inClass (top 69) 5
abbrev s_Paced_fault : Stmt := inClass (top 79) 4
abbrev s_Paced_dearest : Stmt := inClass (top 79) 7
abbrev s_Paced_most_held : Stmt := inClass (top 79) 5
abbrev s_Paced_rounds : Stmt := inClass (top 79) 6
abbrev s__law_fresh : Stmt := top 106
abbrev s__law_right : Stmt := top 107
abbrev s_law : Stmt := top 108
def d__law_number : He.DefD := ⟨("_law_number", none), "_law_number", "_law_number", defArgs s__law_number, defBody s__law_number, defScope s__law_number, [], []⟩
def d_parts_due : He.DefD := ⟨("parts_due", none), "parts_due", "parts_due", defArgs s_parts_due, defBody s_parts_due, defScope s_parts_due, [], []⟩
def d_are_all_in : He.DefD := ⟨("are_all_in", none), "are_all_in", "are_all_in", defArgs s_are_all_in, defBody s_are_all_in, defScope s_are_all_in, [], []⟩
def d_is_mark : He.DefD := ⟨("is_mark", none), "is_mark", "is_mark", defArgs s_is_mark, defBody s_is_mark, defScope s_is_mark, [], []⟩
def d_is_plain : He.DefD := ⟨("is_plain", none), "is_plain", "is_plain", defArgs s_is_plain, defBody s_is_plain, defScope s_is_plain, [], []⟩
def d_part_in : He.DefD := ⟨("part_in", none), "part_in", "part_in", defArgs s_part_in, defBody s_part_in, defScope s_part_in, [], []⟩
def d_row_in : He.DefD := ⟨("row_in", none), "row_in", "row_in", defArgs s_row_in, defBody s_row_in, defScope s_row_in, [], []⟩
def d_marks_in : He.DefD := ⟨("marks_in", none), "marks_in", "marks_in", defArgs s_marks_in, defBody s_marks_in, defScope s_marks_in, [], []⟩
def d_BadText___init__ : He.DefD := ⟨("BadText", some "__init__"), "__init__", "BadText.__init__", defArgs s_BadText___init__, defBody s_BadText___init__, defScope s_BadText___init__, [], []⟩
def d_mark_of : He.DefD := ⟨("mark_of", none), "mark_of", "mark_of", defArgs s_mark_of, defBody s_mark_of, defScope s_mark_of, [], []⟩
def d_read_program : He.DefD := ⟨("read_program", none), "read_program", "read_program", defArgs s_read_program, defBody s_read_program, defScope s_read_program, [], []⟩
def d_look_at_pace : He.DefD := ⟨("look_at_pace", none), "look_at_pace", "look_at_pace", defArgs s_look_at_pace, defBody s_look_at_pace, defScope s_look_at_pace, [], []⟩
def d_room_needed : He.DefD := ⟨("room_needed", none), "room_needed", "room_needed", defArgs s_room_needed, defBody s_room_needed, defScope s_room_needed, [], []⟩
def d_look_at_limits : He.DefD := ⟨("look_at_limits", none), "look_at_limits", "look_at_limits", defArgs s_look_at_limits, defBody s_look_at_limits, defScope s_look_at_limits, [], []⟩
def d_IdealHeap___init__ : He.DefD := ⟨("IdealHeap", some "__init__"), "__init__", "IdealHeap.__init__", defArgs s_IdealHeap___init__, defBody s_IdealHeap___init__, defScope s_IdealHeap___init__, [], []⟩
def d_Running___init__ : He.DefD := ⟨("Running", some "__init__"), "__init__", "Running.__init__", defArgs s_Running___init__, defBody s_Running___init__, defScope s_Running___init__, [], []⟩
def d_Running_at : He.DefD := ⟨("Running", some "at"), "at", "Running.at", defArgs s_Running_at, defBody s_Running_at, defScope s_Running_at, [], []⟩
def d_Running_steps : He.DefD := ⟨("Running", some "steps"), "steps", "Running.steps", defArgs s_Running_steps, defBody s_Running_steps, defScope s_Running_steps, [], []⟩
def d_kind_of : He.DefD := ⟨("kind_of", none), "kind_of", "kind_of", defArgs s_kind_of, defBody s_kind_of, defScope s_kind_of, [], []⟩
def d_thing_of : He.DefD := ⟨("thing_of", none), "thing_of", "thing_of", defArgs s_thing_of, defBody s_thing_of, defScope s_thing_of, [], []⟩
def d_things_of : He.DefD := ⟨("things_of", none), "things_of", "things_of", defArgs s_things_of, defBody s_things_of, defScope s_things_of, [], []⟩
def d_young_things : He.DefD := ⟨("young_things", none), "young_things", "young_things", defArgs s_young_things, defBody s_young_things, defScope s_young_things, [], []⟩
def d_led_within : He.DefD := ⟨("led_within", none), "led_within", "led_within", defArgs s_led_within, defBody s_led_within, defScope s_led_within, [], []⟩
def d_young_kept : He.DefD := ⟨("young_kept", none), "young_kept", "young_kept", defArgs s_young_kept, defBody s_young_kept, defScope s_young_kept, [], []⟩
def d_IdealHeap_settle : He.DefD := ⟨("IdealHeap", some "settle"), "settle", "IdealHeap.settle", defArgs s_IdealHeap_settle, defBody s_IdealHeap_settle, defScope s_IdealHeap_settle, [], []⟩
def d_IdealHeap_small : He.DefD := ⟨("IdealHeap", some "small"), "small", "IdealHeap.small", defArgs s_IdealHeap_small, defBody s_IdealHeap_small, defScope s_IdealHeap_small, [], []⟩
def d_IdealHeap_begin : He.DefD := ⟨("IdealHeap", some "begin"), "begin", "IdealHeap.begin", defArgs s_IdealHeap_begin, defBody s_IdealHeap_begin, defScope s_IdealHeap_begin, [], []⟩
def d_IdealHeap_end : He.DefD := ⟨("IdealHeap", some "end"), "end", "IdealHeap.end", defArgs s_IdealHeap_end, defBody s_IdealHeap_end, defScope s_IdealHeap_end, [], []⟩
def d_look_at_hand : He.DefD := ⟨("look_at_hand", none), "look_at_hand", "look_at_hand", defArgs s_look_at_hand, defBody s_look_at_hand, defScope s_look_at_hand, [], []⟩
def d_IdealHeap_kind : He.DefD := ⟨("IdealHeap", some "kind"), "kind", "IdealHeap.kind", defArgs s_IdealHeap_kind, defBody s_IdealHeap_kind, defScope s_IdealHeap_kind, [], []⟩
def d_IdealHeap_value : He.DefD := ⟨("IdealHeap", some "value"), "value", "IdealHeap.value", defArgs s_IdealHeap_value, defBody s_IdealHeap_value, defScope s_IdealHeap_value, [], []⟩
def d_IdealHeap_thing_in : He.DefD := ⟨("IdealHeap", some "thing_in"), "thing_in", "IdealHeap.thing_in", defArgs s_IdealHeap_thing_in, defBody s_IdealHeap_thing_in, defScope s_IdealHeap_thing_in, [], []⟩
def d_IdealHeap_fields : He.DefD := ⟨("IdealHeap", some "fields"), "fields", "IdealHeap.fields", defArgs s_IdealHeap_fields, defBody s_IdealHeap_fields, defScope s_IdealHeap_fields, [], []⟩
def d_said_of : He.DefD := ⟨("said_of", none), "said_of", "said_of", defArgs s_said_of, defBody s_said_of, defScope s_said_of, [], []⟩
def d_IdealHeap_same : He.DefD := ⟨("IdealHeap", some "same"), "same", "IdealHeap.same", defArgs s_IdealHeap_same, defBody s_IdealHeap_same, defScope s_IdealHeap_same, [], []⟩
def d_goes_on : He.DefD := ⟨("goes_on", none), "goes_on", "goes_on", defArgs s_goes_on, defBody s_goes_on, defScope s_goes_on, [], []⟩
def d_words_of : He.DefD := ⟨("words_of", none), "words_of", "words_of", defArgs s_words_of, defBody s_words_of, defScope s_words_of, [], []⟩
def d_words_in : He.DefD := ⟨("words_in", none), "words_in", "words_in", defArgs s_words_in, defBody s_words_in, defScope s_words_in, [], []⟩
def d_IdealHeap_held : He.DefD := ⟨("IdealHeap", some "held"), "held", "IdealHeap.held", defArgs s_IdealHeap_held, defBody s_IdealHeap_held, defScope s_IdealHeap_held, [], []⟩
def d_IdealThing___init__ : He.DefD := ⟨("IdealThing", some "__init__"), "__init__", "IdealThing.__init__", defArgs s_IdealThing___init__, defBody s_IdealThing___init__, defScope s_IdealThing___init__, [], []⟩
def d_thing_value : He.DefD := ⟨("thing_value", none), "thing_value", "thing_value", defArgs s_thing_value, defBody s_thing_value, defScope s_thing_value, [], []⟩
def d_IdealHeap_make : He.DefD := ⟨("IdealHeap", some "make"), "make", "IdealHeap.make", defArgs s_IdealHeap_make, defBody s_IdealHeap_make, defScope s_IdealHeap_make, [], []⟩
def d_IdealHeap_field_due : He.DefD := ⟨("IdealHeap", some "field_due"), "field_due", "IdealHeap.field_due", defArgs s_IdealHeap_field_due, defBody s_IdealHeap_field_due, defScope s_IdealHeap_field_due, [], []⟩
def d_IdealHeap_load : He.DefD := ⟨("IdealHeap", some "load"), "load", "IdealHeap.load", defArgs s_IdealHeap_load, defBody s_IdealHeap_load, defScope s_IdealHeap_load, [], []⟩
def d_IdealHeap_store : He.DefD := ⟨("IdealHeap", some "store"), "store", "IdealHeap.store", defArgs s_IdealHeap_store, defBody s_IdealHeap_store, defScope s_IdealHeap_store, [], []⟩
def d_IdealHeap_copy : He.DefD := ⟨("IdealHeap", some "copy"), "copy", "IdealHeap.copy", defArgs s_IdealHeap_copy, defBody s_IdealHeap_copy, defScope s_IdealHeap_copy, [], []⟩
def d_IdealHeap_drop : He.DefD := ⟨("IdealHeap", some "drop"), "drop", "IdealHeap.drop", defArgs s_IdealHeap_drop, defBody s_IdealHeap_drop, defScope s_IdealHeap_drop, [], []⟩
def d_number_value : He.DefD := ⟨("number_value", none), "number_value", "number_value", defArgs s_number_value, defBody s_number_value, defScope s_number_value, [], []⟩
def d_IdealHeap_number : He.DefD := ⟨("IdealHeap", some "number"), "number", "IdealHeap.number", defArgs s_IdealHeap_number, defBody s_IdealHeap_number, defScope s_IdealHeap_number, [], []⟩
def d_look_at_name : He.DefD := ⟨("look_at_name", none), "look_at_name", "look_at_name", defArgs s_look_at_name, defBody s_look_at_name, defScope s_look_at_name, [], []⟩
def d_IdealHeap_name : He.DefD := ⟨("IdealHeap", some "name"), "name", "IdealHeap.name", defArgs s_IdealHeap_name, defBody s_IdealHeap_name, defScope s_IdealHeap_name, [], []⟩
def d_IdealHeap_give_back : He.DefD := ⟨("IdealHeap", some "give_back"), "give_back", "IdealHeap.give_back", defArgs s_IdealHeap_give_back, defBody s_IdealHeap_give_back, defScope s_IdealHeap_give_back, [], []⟩
def d_IdealHeap_read : He.DefD := ⟨("IdealHeap", some "read"), "read", "IdealHeap.read", defArgs s_IdealHeap_read, defBody s_IdealHeap_read, defScope s_IdealHeap_read, [], []⟩
def d_IdealHeap_word : He.DefD := ⟨("IdealHeap", some "word"), "word", "IdealHeap.word", defArgs s_IdealHeap_word, defBody s_IdealHeap_word, defScope s_IdealHeap_word, [], []⟩
def d_IdealHeap_take : He.DefD := ⟨("IdealHeap", some "take"), "take", "IdealHeap.take", defArgs s_IdealHeap_take, defBody s_IdealHeap_take, defScope s_IdealHeap_take, [], []⟩
def d_do_value : He.DefD := ⟨("do_value", none), "do_value", "do_value", defArgs s_do_value, defBody s_do_value, defScope s_do_value, [], []⟩
def d_do_plain : He.DefD := ⟨("do_plain", none), "do_plain", "do_plain", defArgs s_do_plain, defBody s_do_plain, defScope s_do_plain, [], []⟩
def d_Running_do_row : He.DefD := ⟨("Running", some "do_row"), "do_row", "Running.do_row", defArgs s_Running_do_row, defBody s_Running_do_row, defScope s_Running_do_row, [], []⟩
def d_TooManyWords_called : He.DefD := ⟨("TooManyWords", some "called"), "called", "TooManyWords.called", defArgs s_TooManyWords_called, defBody s_TooManyWords_called, defScope s_TooManyWords_called, [], []⟩
def d_RoundOn_called : He.DefD := ⟨("RoundOn", some "called"), "called", "RoundOn.called", defArgs s_RoundOn_called, defBody s_RoundOn_called, defScope s_RoundOn_called, [], []⟩
def d_NoRound_called : He.DefD := ⟨("NoRound", some "called"), "called", "NoRound.called", defArgs s_NoRound_called, defBody s_NoRound_called, defScope s_NoRound_called, [], []⟩
def d_NoRoom_called : He.DefD := ⟨("NoRoom", some "called"), "called", "NoRoom.called", defArgs s_NoRoom_called, defBody s_NoRoom_called, defScope s_NoRoom_called, [], []⟩
def d_HeapError_called : He.DefD := ⟨("HeapError", some "called"), "called", "HeapError.called", defArgs s_HeapError_called, defBody s_HeapError_called, defScope s_HeapError_called, [], []⟩
def d_BadView_called : He.DefD := ⟨("BadView", some "called"), "called", "BadView.called", defArgs s_BadView_called, defBody s_BadView_called, defScope s_BadView_called, [], []⟩
def d_BadText_called : He.DefD := ⟨("BadText", some "called"), "called", "BadText.called", defArgs s_BadText_called, defBody s_BadText_called, defScope s_BadText_called, [], []⟩
def d_BadName_called : He.DefD := ⟨("BadName", some "called"), "called", "BadName.called", defArgs s_BadName_called, defBody s_BadName_called, defScope s_BadName_called, [], []⟩
def d_BadHand_called : He.DefD := ⟨("BadHand", some "called"), "called", "BadHand.called", defArgs s_BadHand_called, defBody s_BadHand_called, defScope s_BadHand_called, [], []⟩
def d_BadField_called : He.DefD := ⟨("BadField", some "called"), "called", "BadField.called", defArgs s_BadField_called, defBody s_BadField_called, defScope s_BadField_called, [], []⟩
def d_BadCount_called : He.DefD := ⟨("BadCount", some "called"), "called", "BadCount.called", defArgs s_BadCount_called, defBody s_BadCount_called, defScope s_BadCount_called, [], []⟩
def d_BadAddress_called : He.DefD := ⟨("BadAddress", some "called"), "called", "BadAddress.called", defArgs s_BadAddress_called, defBody s_BadAddress_called, defScope s_BadAddress_called, [], []⟩
def d_Running_step : He.DefD := ⟨("Running", some "step"), "step", "Running.step", defArgs s_Running_step, defBody s_Running_step, defScope s_Running_step, [], []⟩
def d_IdealHeap_things : He.DefD := ⟨("IdealHeap", some "things"), "things", "IdealHeap.things", defArgs s_IdealHeap_things, defBody s_IdealHeap_things, defScope s_IdealHeap_things, [], []⟩
def d_IdealHeap_thing_due : He.DefD := ⟨("IdealHeap", some "thing_due"), "thing_due", "IdealHeap.thing_due", defArgs s_IdealHeap_thing_due, defBody s_IdealHeap_thing_due, defScope s_IdealHeap_thing_due, [], []⟩
def d_IdealHeap_fields_of : He.DefD := ⟨("IdealHeap", some "fields_of"), "fields_of", "IdealHeap.fields_of", defArgs s_IdealHeap_fields_of, defBody s_IdealHeap_fields_of, defScope s_IdealHeap_fields_of, [], []⟩
def d_thing_in : He.DefD := ⟨("thing_in", none), "thing_in", "thing_in", defArgs s_thing_in, defBody s_thing_in, defScope s_thing_in, [], []⟩
def d_IdealHeap_hands : He.DefD := ⟨("IdealHeap", some "hands"), "hands", "IdealHeap.hands", defArgs s_IdealHeap_hands, defBody s_IdealHeap_hands, defScope s_IdealHeap_hands, [], []⟩
def d_view_of : He.DefD := ⟨("view_of", none), "view_of", "view_of", defArgs s_view_of, defBody s_view_of, defScope s_view_of, [], []⟩
def d_look_at_told : He.DefD := ⟨("look_at_told", none), "look_at_told", "look_at_told", defArgs s_look_at_told, defBody s_look_at_told, defScope s_look_at_told, [], []⟩
def d_look_at_view : He.DefD := ⟨("look_at_view", none), "look_at_view", "look_at_view", defArgs s_look_at_view, defBody s_look_at_view, defScope s_look_at_view, [], []⟩
def d_root_things : He.DefD := ⟨("root_things", none), "root_things", "root_things", defArgs s_root_things, defBody s_root_things, defScope s_root_things, [], []⟩
def d_grown_from : He.DefD := ⟨("grown_from", none), "grown_from", "grown_from", defArgs s_grown_from, defBody s_grown_from, defScope s_grown_from, [], []⟩
def d_reached : He.DefD := ⟨("reached", none), "reached", "reached", defArgs s_reached, defBody s_reached, defScope s_reached, [], []⟩
def d_words_reached : He.DefD := ⟨("words_reached", none), "words_reached", "words_reached", defArgs s_words_reached, defBody s_words_reached, defScope s_words_reached, [], []⟩
def d_most_reached : He.DefD := ⟨("most_reached", none), "most_reached", "most_reached", defArgs s_most_reached, defBody s_most_reached, defScope s_most_reached, [], []⟩
def d_Memory___init__ : He.DefD := ⟨("Memory", some "__init__"), "__init__", "Memory.__init__", defArgs s_Memory___init__, defBody s_Memory___init__, defScope s_Memory___init__, [], []⟩
def d_NameTable___init__ : He.DefD := ⟨("NameTable", some "__init__"), "__init__", "NameTable.__init__", defArgs s_NameTable___init__, defBody s_NameTable___init__, defScope s_NameTable___init__, [], []⟩
def d_WordTable___init__ : He.DefD := ⟨("WordTable", some "__init__"), "__init__", "WordTable.__init__", defArgs s_WordTable___init__, defBody s_WordTable___init__, defScope s_WordTable___init__, [], []⟩
def d_Halves___init__ : He.DefD := ⟨("Halves", some "__init__"), "__init__", "Halves.__init__", defArgs s_Halves___init__, defBody s_Halves___init__, defScope s_Halves___init__, [], []⟩
def d_OldMover___init__ : He.DefD := ⟨("OldMover", some "__init__"), "__init__", "OldMover.__init__", defArgs s_OldMover___init__, defBody s_OldMover___init__, defScope s_OldMover___init__, [], []⟩
def d_Paced___init__ : He.DefD := ⟨("Paced", some "__init__"), "__init__", "Paced.__init__", defArgs s_Paced___init__, defBody s_Paced___init__, defScope s_Paced___init__, [], []⟩
def d__law_word : He.DefD := ⟨("_law_word", none), "_law_word", "_law_word", defArgs s__law_word, defBody s__law_word, defScope s__law_word, [], []⟩
def d_Running_told : He.DefD := ⟨("Running", some "told"), "told", "Running.told", defArgs s_Running_told, defBody s_Running_told, defScope s_Running_told, [], []⟩
def d_Paced_told : He.DefD := ⟨("Paced", some "told"), "told", "Paced.told", defArgs s_Paced_told, defBody s_Paced_told, defScope s_Paced_told, [], []⟩
def d_Running_fault : He.DefD := ⟨("Running", some "fault"), "fault", "Running.fault", defArgs s_Running_fault, defBody s_Running_fault, defScope s_Running_fault, [], []⟩
def d_Paced_fault : He.DefD := ⟨("Paced", some "fault"), "fault", "Paced.fault", defArgs s_Paced_fault, defBody s_Paced_fault, defScope s_Paced_fault, [], []⟩
def d_Paced_dearest : He.DefD := ⟨("Paced", some "dearest"), "dearest", "Paced.dearest", defArgs s_Paced_dearest, defBody s_Paced_dearest, defScope s_Paced_dearest, [], []⟩
def d_Paced_most_held : He.DefD := ⟨("Paced", some "most_held"), "most_held", "Paced.most_held", defArgs s_Paced_most_held, defBody s_Paced_most_held, defScope s_Paced_most_held, [], []⟩
def d_Paced_rounds : He.DefD := ⟨("Paced", some "rounds"), "rounds", "Paced.rounds", defArgs s_Paced_rounds, defBody s_Paced_rounds, defScope s_Paced_rounds, [], []⟩
def d__law_fresh : He.DefD := ⟨("_law_fresh", none), "_law_fresh", "_law_fresh", defArgs s__law_fresh, defBody s__law_fresh, defScope s__law_fresh, [], []⟩
def d__law_right : He.DefD := ⟨("_law_right", none), "_law_right", "_law_right", defArgs s__law_right, defBody s__law_right, defScope s__law_right, [], []⟩
def d_law : He.DefD := ⟨("law", none), "law", "law", defArgs s_law, defBody s_law, defScope s_law, [], []⟩
def tabs : List He.Tab := []
def exl (K : PySem.W.Frag) : List Bool := [baseInitB K (He.ga K "HeapError"), oexB K (He.ga K "BadText"), excCB K (He.ga K "TooManyWords"), excCB K (He.ga K "RoundOn"), excCB K (He.ga K "NoRound"), excCB K (He.ga K "NoRoom"), excCB K (He.ga K "HeapError"), excCB K (He.ga K "BadView"), excCB K (He.ga K "BadText"), excCB K (He.ga K "BadName"), excCB K (He.ga K "BadHand"), excCB K (He.ga K "BadField"), excCB K (He.ga K "BadCount"), excCB K (He.ga K "BadAddress"), clsFnB K (He.ga K "Halves") "__init__" (He.ma K (He.ga K "Halves") "__init__"), kitB K (.ref (He.ga K "BadCount")) (.ref (He.ga K "BadCount")) true, kitB K (.ref (He.ga K "BadCount")) (.type "ValueError") true, kitB K (.ref (He.ga K "BadCount")) (.ref (He.ga K "BadText")) false, kitB K (.ref (He.ga K "BadCount")) (.ref (He.ga K "BadHand")) false, kitB K (.ref (He.ga K "Paced")) (.ref (He.ga K "Paced")) true, insCB K (He.ga K "Paced")]
def ex (K : PySem.W.Frag) : Bool := (exl K).all id
def loose0 : List Str := ["BadAddress", "BadCount", "BadField", "BadHand", "BadName", "BadText", "BadView", "FAR", "FIGURES", "HANDS", "Halves", "HeapError", "IdealHeap", "IdealThing", "LEAST_ROOM", "LETTERS", "MANY_NAMES", "MOST_BEARERS", "MOST_FIELDS", "MOST_FIGURES"]
def loose1 : List Str := ["MOST_LETTERS", "MOST_LIMIT_pace", "MOST_LIMIT_values", "MOST_PACE", "MOST_ROWS", "MOST_STEP", "MOST_STEPS", "MOST_WORDS", "MOST_YOUNG", "Memory", "NAMES", "NameTable", "NoRoom", "NoRound", "OldMover", "Paced", "RoundOn", "Running", "SPARE", "TooManyWords"]
def loose2 : List Str := ["WordTable", "__name__", "_law_fresh", "_law_number", "_law_right", "_law_word", "_wall", "are_all_in", "do_plain", "do_value", "field_at", "goes_on", "grown_from", "head_at", "is_address", "is_mark", "is_plain", "is_word", "kind_of", "lay"]
def loose3 : List Str := ["led_within", "look_at_field", "look_at_hand", "look_at_limits", "look_at_name", "look_at_pace", "look_at_step", "look_at_told", "look_at_view", "mark_of", "marks_in", "most_reached", "move", "number_value", "part_in", "parts_due", "put_field", "reached", "read_program", "resolved"]
def loose4 : List Str := ["room_needed", "root_things", "row_in", "said_of", "thing_at", "thing_in", "thing_of", "thing_value", "things_of", "view_of", "words_in", "words_of", "words_reached", "young_kept", "young_things"]
def loose : List Str := loose0 ++ loose1 ++ loose2 ++ loose3 ++ loose4
abbrev R : PySem.W.OpenRow := PySem.W.OpenLaw.row PySem.Challenge.rw_stillheap_k82_pace_refused
def fn0 : List He.DefD := [d__law_number, d_parts_due, d_are_all_in, d_is_mark, d_is_plain, d_part_in, d_row_in, d_marks_in, d_BadText___init__, d_mark_of, d_read_program, d_look_at_pace, d_room_needed, d_look_at_limits, d_IdealHeap___init__, d_Running___init__, d_Running_at, d_Running_steps, d_kind_of, d_thing_of, d_things_of, d_young_things, d_led_within, d_young_kept, d_IdealHeap_settle]
def fa0 : List He.Fa := [.free "range", .free "list", .glo "_law_number", .glo "parts_due", .free "len", .free "enumerate", .int "MOST_LETTERS" 8, .str "LETTERS" "abcdefghijklmnopqrstuvwxyz", .glo "are_all_in", .glo "is_mark", .int "MOST_FIGURES" 61, .str "FIGURES" "0123456789", .glo "is_plain", .free "int", .glo "part_in", .free "tuple", .glo "row_in", .glo "marks_in", .int "MOST_ROWS" 200, .glo "HeapError", .noat "BadText" "row", .meth "BadText" "__init__", .glo "BadText", .glo "mark_of", .glo "read_program", .int "MOST_LIMIT_pace" 400, .glo "BadCount", .exc "BadCount", .int "MOST_PACE" 100, .glo "look_at_pace", .int "SPARE" 16, .glo "room_needed", .int "MOST_STEPS" 2000, .int "LEAST_ROOM" 7, .int "MOST_YOUNG" 64, .int "MOST_LIMIT_values" 400, .glo "look_at_limits", .cls "IdealHeap", .noat "IdealHeap" "room", .noat "IdealHeap" "limit", .int "HANDS" 8, .noat "IdealHeap" "in_hands", .int "NAMES" 8, .noat "IdealHeap" "naming", .noat "IdealHeap" "kept", .noat "IdealHeap" "count", .noat "IdealHeap" "going", .noat "IdealHeap" "spoken", .mkr "IdealHeap", .glo "IdealHeap", .cls "Running", .noat "Running" "program", .noat "Running" "hall", .noat "Running" "places", .noat "Running" "spot", .noat "Running" "rows_done"]
def fn1 : List He.DefD := [d_IdealHeap_small, d_IdealHeap_begin, d_IdealHeap_end, d_look_at_hand, d_IdealHeap_kind, d_IdealHeap_value, d_IdealHeap_thing_in, d_IdealHeap_fields, d_said_of, d_IdealHeap_same, d_goes_on, d_words_of, d_words_in, d_IdealHeap_held, d_IdealThing___init__, d_thing_value, d_IdealHeap_make, d_IdealHeap_field_due, d_IdealHeap_load, d_IdealHeap_store, d_IdealHeap_copy, d_IdealHeap_drop, d_number_value, d_IdealHeap_number, d_look_at_name]
def fa1 : List He.Fa := [.noat "Running" "lines", .noat "Running" "broken", .mkr "Running", .glo "Running", .meth "Running" "at", .meth "Running" "steps", .glo "RoundOn", .exc "RoundOn", .glo "kind_of", .glo "thing_of", .glo "things_of", .cls "IdealThing", .noat "IdealThing" "aged", .noat "IdealThing" "inside", .glo "young_things", .glo "led_within", .glo "young_kept", .free "sorted", .noat "IdealThing" "last_word", .meth "IdealHeap" "settle", .meth "IdealHeap" "small", .meth "IdealHeap" "begin", .glo "NoRound", .exc "NoRound", .meth "IdealHeap" "end", .glo "BadHand", .exc "BadHand", .glo "look_at_hand", .meth "IdealHeap" "kind", .meth "IdealHeap" "value", .meth "IdealHeap" "thing_in", .meth "IdealHeap" "fields", .glo "said_of", .meth "IdealHeap" "same", .glo "goes_on", .int "MOST_FIELDS" 6, .glo "words_of", .free "sum", .glo "words_in", .meth "IdealHeap" "held", .glo "NoRoom", .exc "NoRoom", .mkr "IdealThing", .glo "IdealThing", .glo "thing_value", .meth "IdealHeap" "make", .glo "BadField", .exc "BadField", .meth "IdealHeap" "field_due", .meth "IdealHeap" "load", .meth "IdealHeap" "store", .meth "IdealHeap" "copy", .meth "IdealHeap" "drop", .int "FAR" 1000000000000000000000000000000000000000000000000000000000000, .glo "number_value", .meth "IdealHeap" "number", .glo "BadName"]
def fn2 : List He.DefD := [d_IdealHeap_name, d_IdealHeap_give_back, d_IdealHeap_read, d_IdealHeap_word, d_IdealHeap_take, d_do_value, d_do_plain, d_Running_do_row, d_TooManyWords_called, d_RoundOn_called, d_NoRound_called, d_NoRoom_called, d_HeapError_called, d_BadView_called, d_BadText_called, d_BadName_called, d_BadHand_called, d_BadField_called, d_BadCount_called, d_BadAddress_called, d_Running_step, d_IdealHeap_things, d_IdealHeap_thing_due, d_IdealHeap_fields_of, d_thing_in]
def fa2 : List He.Fa := [.exc "BadName", .glo "look_at_name", .meth "IdealHeap" "name", .meth "IdealHeap" "give_back", .meth "IdealHeap" "read", .int "MOST_WORDS" 12, .glo "TooManyWords", .exc "TooManyWords", .meth "IdealHeap" "word", .meth "IdealHeap" "take", .glo "do_value", .glo "do_plain", .meth "Running" "do_row", .meth "TooManyWords" "called", .meth "RoundOn" "called", .meth "NoRound" "called", .meth "NoRoom" "called", .meth "HeapError" "called", .meth "BadView" "called", .meth "BadText" "called", .meth "BadName" "called", .meth "BadHand" "called", .meth "BadField" "called", .meth "BadCount" "called", .meth "BadAddress" "called", .exm "HeapError" "HeapError" true, .exm "BadAddress" "HeapError" true, .exm "BadCount" "HeapError" true, .exm "BadField" "HeapError" true, .exm "BadHand" "HeapError" true, .exm "BadName" "HeapError" true, .exm "BadText" "HeapError" true, .exm "BadView" "HeapError" true, .exm "NoRoom" "HeapError" true, .exm "NoRound" "HeapError" true, .exm "RoundOn" "HeapError" true, .exm "TooManyWords" "HeapError" true, .meth "Running" "step", .meth "IdealHeap" "things", .glo "BadView", .exc "BadView", .meth "IdealHeap" "thing_due", .meth "IdealHeap" "fields_of", .glo "thing_in", .meth "IdealHeap" "hands", .glo "view_of", .glo "look_at_told", .glo "look_at_view", .glo "root_things", .glo "grown_from", .glo "reached", .glo "words_reached", .glo "most_reached", .cls "Paced", .noat "Paced" "own_program", .noat "Paced" "run_hall"]
def fn3 : List He.DefD := [d_IdealHeap_hands, d_view_of, d_look_at_told, d_look_at_view, d_root_things, d_grown_from, d_reached, d_words_reached, d_most_reached, d_Memory___init__, d_NameTable___init__, d_WordTable___init__, d_Halves___init__, d_OldMover___init__, d_Paced___init__, d__law_word, d_Running_told, d_Paced_told, d_Running_fault, d_Paced_fault, d_Paced_dearest, d_Paced_most_held, d_Paced_rounds, d__law_fresh, d__law_right, d_law]
def fa3 : List He.Fa := [.noat "Paced" "pace_by", .noat "Paced" "run_on", .noat "Paced" "held_top", .noat "Paced" "rounds_ended", .noat "Paced" "dear_pair", .cls "OldMover", .noat "OldMover" "limit", .cls "Memory", .noat "Memory" "words", .mkr "Memory", .glo "Memory", .noat "OldMover" "words", .noat "OldMover" "hold", .int "MANY_NAMES" 8, .cls "NameTable", .noat "NameTable" "name_row", .mkr "NameTable", .glo "NameTable", .noat "OldMover" "weak", .cls "WordTable", .noat "WordTable" "word_by", .noat "WordTable" "word_line", .mkr "WordTable", .glo "WordTable", .noat "OldMover" "last", .noat "OldMover" "stands", .noat "OldMover" "made_many", .noat "OldMover" "held_words", .noat "OldMover" "now", .noat "OldMover" "up", .noat "OldMover" "down", .noat "OldMover" "going", .noat "OldMover" "found", .noat "OldMover" "place_next", .noat "OldMover" "field_next", .noat "OldMover" "looks", .noat "OldMover" "lays", .noat "OldMover" "rows", .glo "Halves", .mkr "OldMover", .glo "OldMover", .mkr "Paced", .glo "Paced", .free "isinstance", .free "ValueError", .glo "_law_word", .free "bool", .meth "Running" "told", .meth "Paced" "told", .meth "Running" "fault", .meth "Paced" "fault", .meth "Paced" "dearest", .meth "Paced" "most_held", .meth "Paced" "rounds", .glo "_law_fresh", .glo "_law_right", .glo "law"]
def fn : List He.DefD := (((fn0 ++ fn1) ++ fn2) ++ fn3)
def fa : List He.Fa := (((fa0 ++ fa1) ++ fa2) ++ fa3)
abbrev hk : PySem.W.Hook := hookN 4 fa fn tabs ex
def ob (s : PySem.W.SharedT) : AlY := obsN 4 fa fn tabs ex (HandSHeadRun.getT s)
theorem ob_eq (s : PySem.W.SharedT) : ob s = hk.obs s.abs := obsN_eq (HandSHeadRun.getT_eq s)
abbrev qv : Program := PySem.W.view R.prog [108]
open PySem.W PySem.Calls HandSHeadRun in
noncomputable abbrev RX (w : World) (os : OsState) : Option PySem.W.SharedT := endF (stepQ (denQ tabQ) R.prog w) 100000 R.prog w os
open PySem.W PySem.Calls HandSHeadRun in
theorem rl (w : World) : (fun w => ∀ os : OsState, (RX w os).map (fun s => (looksF R.prog (boot_heap w.params) s.abs, seenQ qv loose (importedModules R.prog.main.body) (fun s => xlAt qv [] s && recOk R.toRowW.records s) s.abs)) = some (true, openGood qv loose)) w := by
  intro os
  kernel_rfl
open PySem.W PySem.Calls HandSHeadRun in
theorem ra0 (w : World) : (fun w => ∀ os : OsState, (RX w os).map (fun s => obsN 4 fa0 fn0 tabs ex (getT s)) = some (He.valT fn0 tabs w, true)) w := by
  intro os
  kernel_rfl
open PySem.W PySem.Calls HandSHeadRun in
theorem ra1 (w : World) : (fun w => ∀ os : OsState, (RX w os).map (fun s => obsN 4 fa1 fn1 [] (fun _ => true) (getT s)) = some (He.valT fn1 [] w, true)) w := by
  intro os
  kernel_rfl
open PySem.W PySem.Calls HandSHeadRun in
theorem ra2 (w : World) : (fun w => ∀ os : OsState, (RX w os).map (fun s => obsN 4 fa2 fn2 [] (fun _ => true) (getT s)) = some (He.valT fn2 [] w, true)) w := by
  intro os
  kernel_rfl
open PySem.W PySem.Calls HandSHeadRun in
theorem ra3 (w : World) : (fun w => ∀ os : OsState, (RX w os).map (fun s => obsN 4 fa3 fn3 [] (fun _ => true) (getT s)) = some (He.valT fn3 [] w, true)) w := by
  intro os
  kernel_rfl
theorem run (w : World) : HandSHeadRun.RunEq R qv hk ob 100000 loose w := fun os => run_pair (rl w os) (run_join (ex := ex) (fun K => (Bool.and_true _).symm) (run_join (ex := ex) (fun K => (Bool.and_true _).symm) (run_join (ex := ex) (fun K => (Bool.and_true _).symm) (ra0 w os) (ra1 w os)) (ra2 w os)) (ra3 w os))
end D_k82

set_option Elab.async false
set_option linter.all false
set_option maxRecDepth 100000
set_option maxHeartbeats 4000000
namespace SX0
open PySem PySem.Spec PyProof.Rows L2
open PySem.Sem (wp)
open PySem.Builtin
/-! ### enumerate of a tuple, of a text -/
section
variable {prog : Program} {w : World} {A : Around} {E : Value → Shared → Prop} {s : Shared}
theorem nextOf_tuple_item {it l : Addr} {i : Nat} {items : Array Value} {x : Value} {Q : Value → Shared → Prop} (hit : s.heap.IsTupleIter it l i)
    (hl : s.heap.IsTuple l items) (hx : items[i]? = some x)
    (hQ : ∀ h', h'.IsTupleIter it l (i + 1) → Heap.SameBut it s.heap h' → Q x { s with heap := h' }) :
    wpAny (model prog w) A (Builtin.SmallTypes.nextOf (.ref it)) Q E s := by
  obtain ⟨o, ho, hc, hd⟩ := id hit
  obtain ⟨ol, hol, _, nl, hdl⟩ := hl
  unfold Builtin.SmallTypes.nextOf
  refine wpAny_bind (wpAny_callSpecial?_slot (name := Str.ofString "__next__") hit.typeIs F.slot_tuple_iterator_next
    (wpAny_call_entry F.slot_tuple_iterator_next hit.typeIs F.entry_tuple_iterator_next ?_ (F.args_tuple_iterator_next_1 _)))
  show wpAny _ _ (field (.ref it) 0 >>= _) _ _ s
  refine wpAny_bind (wpAny_field ho hd (x := .ref l) rfl ?_)
  show wpAny _ _ (if (Value.ref l == Value.none) = true then _ else _) _ _ s
  rw [if_neg (show ¬ ((Value.ref l == Value.none) = true) from Bool.false_ne_true)]
  show wpAny _ _ (field (.ref it) 1 >>= _) _ _ s
  refine wpAny_bind (wpAny_field ho hd (x := .int i 0) rfl ?_)
  show wpAny _ _ (seqItems? (.ref l) >>= _) _ _ s
  refine wpAny_bind (wpAny_seqItems hol hdl ?_)
  simp only [Int.toNat_natCast, hx]
  refine wpAny_bind (wpAny_setField ho hd (by simp) (wpAny_pure ⟨x, rfl, wpAny_pure (hQ _ ?_ (Heap.SameBut.update ..))⟩))
  exact ⟨_, Heap.get?_update_self _ ho (Obj.isFreed_of_fields (Obj.data_mapFields hd _)), (Obj.cls_mapFields ..).trans hc, by
    rw [Obj.data_mapFields hd]; simp [rawInt]⟩
theorem nextOf_tuple_end {it l : Addr} {i : Nat} {items : Array Value} {Q : Value → Shared → Prop} (hh : A.handled = none)
    (hit : s.heap.IsTupleIter it l i) (hl : s.heap.IsTuple l items) (hx : items[i]? = none)
    (hE : ∀ h' e, Heap.ExtBut it s.heap h' → (∃ o, h'.get? e = some o ∧ o.cls = .type "StopIteration") → E (.ref e) { s with heap := h' }) :
    wpAny (model prog w) A (Builtin.SmallTypes.nextOf (.ref it)) Q E s := by
  obtain ⟨o, ho, hc, hd⟩ := id hit
  obtain ⟨ol, hol, _, nl, hdl⟩ := hl
  unfold Builtin.SmallTypes.nextOf
  refine wpAny_bind (wpAny_callSpecial?_slot (name := Str.ofString "__next__") hit.typeIs F.slot_tuple_iterator_next
    (wpAny_call_entry F.slot_tuple_iterator_next hit.typeIs F.entry_tuple_iterator_next ?_ (F.args_tuple_iterator_next_1 _)))
  show wpAny _ _ (field (.ref it) 0 >>= _) _ _ s
  refine wpAny_bind (wpAny_field ho hd (x := .ref l) rfl ?_)
  show wpAny _ _ (if (Value.ref l == Value.none) = true then _ else _) _ _ s
  rw [if_neg (show ¬ ((Value.ref l == Value.none) = true) from Bool.false_ne_true)]
  show wpAny _ _ (field (.ref it) 1 >>= _) _ _ s
  refine wpAny_bind (wpAny_field ho hd (x := .int i 0) rfl ?_)
  show wpAny _ _ (seqItems? (.ref l) >>= _) _ _ s
  refine wpAny_bind (wpAny_seqItems hol hdl ?_)
  simp only [Int.toNat_natCast, hx]
  refine wpAny_bind (wpAny_rule (wpAny_bind (wpAny_setField ho hd (by simp) ?_)))
  show wpAny _ _ (newExc (.type "StopIteration") [] >>= _) _ _ _
  refine wpAny_bind ?_
  simp only [newExc, newTuple]
  refine wpAny_bind (wpAny_newObj_type ?_ (by size_fits))
  refine wpAny_bind (m := firstArgMember _ _) (wpAny_of_eq (a := Value.none) (by first | rfl | (simp only [firstArgMember]; rfl)) ?_)
  refine wpAny_newObj_type ?_ (by size_fits)
  simp only [raiseNew]
  refine wpAny_bind (wpAny_handled ?_)
  first | rw [show A.in1.handled = none from hh] | rw [hh]
  refine wpAny_bind (wpAny_pure (wpAny_throw ?_))
  exact hE _ _ (((Heap.SameBut.update ..).extBut.push _).push _) ⟨_, Heap.get?_push_size _ rfl, rfl⟩
end
theorem drawsTuple {prog : Program} {w : World} {A : Around} (hh : A.handled = none) (it l : Addr) (hne : l ≠ it) (items : Array Value) :
    Draws prog w A it [it, l] items.size (fun i v => items[i]? = some v) (fun i h => h.IsTupleIter it l i ∧ h.IsTuple l items) where
  live := fun _ _ st => let ⟨o, ho, _⟩ := st.1; ⟨o, ho⟩
  frame := fun _ _ _ st hk => ⟨let ⟨o, ho, r⟩ := st.1; ⟨o, hk it (by simp) o ho, r⟩, let ⟨o, ho, r⟩ := st.2; ⟨o, hk l (by simp) o ho, r⟩⟩
  item := fun i s Q E hi st hQ => by
    refine nextOf_tuple_item st.1 st.2 (x := items[i]) (by simp [hi]) fun h' hit' hs' => ?_
    exact hQ _ h' s.toks (by simp [hi]) ⟨hit', st.2.extBut hs'.extBut hne⟩ hs'
  done := fun s Q E st hE => nextOf_tuple_end hh st.1 st.2 (by simp) hE
open AutoSeq1 (wpAny_loadPart') in
theorem meets_enumerate_newT (l : Addr) (items : Array Value) (n : Nat) (cl : Value) (dct : Option Addr) (sl : Array (Option Value)) (hcl : cl = .type "tuple") :
    Meets (Builtin.«enumerate.__new__» ⟨[.type "enumerate", .ref l], []⟩) (fun _ R s => s.heap.get? l = some { cls := cl, dict := dct, data := .seq items n, slots := sl } ∧
      R (.ok (.ret (.ref (s.heap.push { cls := .type "tuple_iterator", data := .fields #[.ref l, .int 0 0] }).objs.size)))
        { s with heap := (s.heap.push { cls := .type "tuple_iterator", data := .fields #[.ref l, .int 0 0] }).push { cls := .type "enumerate", data := .fields #[.none, .bool false, .ref s.heap.objs.size, rawInt 0, .none, .none] } }) :=
  .of_wp fun prog w A R s h => by
    obtain ⟨hp, g, d, tk, os⟩ := s; obtain ⟨hl, h⟩ := h
    have hsub := sub_enumerate
    subst hcl
    have hL : Heap.IsTuple (Shared.heap ⟨hp, g, d, tk, os⟩) l items := ⟨_, hl, rfl, n, rfl⟩
    wp_walk using wpAny_loadPart' hl
    refine wpAny_stack_any fun st => wpAny_pure ?_
    split
    · rename_i c _ _ _ _ _
      cases (c == Value.type "enumerate")
      · wp_walk using wpAny_loadPart' hl, wpAny_pyIter_tuple hL
        exact ⟨_, rfl, h⟩
      · wp_walk using wpAny_loadPart' hl, wpAny_pyIter_tuple hL
        exact ⟨_, rfl, h⟩
    · wp_walk using wpAny_loadPart' hl, wpAny_pyIter_tuple hL
      exact ⟨_, rfl, h⟩
section
variable {prog : Program} {w : World} {A : Around} {E : Value → Shared → Prop} {s : Shared}
theorem call_enumerate_tuple {l : Addr} {items : Array Value} {Q : Value → Shared → Prop} (hL : s.heap.IsTuple l items)
    (h : ∀ h', IsEnum h' (s.heap.objs.size + 1) s.heap.objs.size 0 .none → h'.IsTupleIter s.heap.objs.size l 0 → h'.objs.size = s.heap.objs.size + 2 →
      (∀ b o, s.heap.get? b = some o → h'.get? b = some o) → Q (.ref (s.heap.objs.size + 1)) { s with heap := h' }) :
    wpAny (model prog w) A (call (.type "enumerate") [.ref l]) Q E s := by
  obtain ⟨⟨c, dct, dt, sl⟩, hl, hc, n, hd⟩ := hL
  replace hc : c = .type "tuple" := hc
  replace hd : dt = .seq items n := hd
  subst hd
  refine callType_new F.called_enumerate (by decide) (F.typeCall_enumerate_1 _) (F.newCall_enumerate_1 _) (fun obj => F.args_object_init_2 obj _) F.entry_enumerate_new
    (meets_enumerate_newT l items n c dct sl hc) ⟨hl, ?_⟩
  have hz : (s.heap.push { cls := .type "tuple_iterator", data := .fields #[.ref l, .int 0 0] }).objs.size = s.heap.objs.size + 1 := Heap.size_push ..
  show _ ∧ _
  rw [hz]
  have he : IsEnum ((s.heap.push { cls := .type "tuple_iterator", data := .fields #[.ref l, .int 0 0] }).push
      { cls := .type "enumerate", data := .fields #[.none, .bool false, .ref s.heap.objs.size, rawInt 0, .none, .none] }) (s.heap.objs.size + 1) s.heap.objs.size 0 .none := by
    have := Heap.get?_push_size (s.heap.push { cls := .type "tuple_iterator", data := .fields #[.ref l, .int 0 0] })
      (o := { cls := .type "enumerate", data := .fields #[.none, .bool false, .ref s.heap.objs.size, rawInt 0, .none, .none] }) rfl
    rw [hz] at this; exact this
  refine ⟨⟨_, he, rfl⟩, h _ he ⟨_, Heap.get?_push_of_some _ (Heap.get?_push_size _ rfl), rfl, rfl⟩ (by rw [Heap.size_push, hz]) fun b o x => Heap.get?_push_of_some _ (Heap.get?_push_of_some _ x)⟩
end
/-! the walks -/
def IteT (K : PySem.W.Frag) (a : Addr) : It :=
  ⟨fun i H => ∃ (xs : List V) (x : V), SqT K H a xs ∧ xs[i]? = some x, fun i H v H' => ∃ T x, v = .ref T ∧ H T = none ∧ H' = upd H T (.tup [.int (i : Nat), x]) ∧ ∀ xs, SqT K H a xs → xs[i]? = some x, fun i H => ∃ xs : List V, SqT K H a xs ∧ xs.length ≤ i⟩
def IteS (z : Str) : It :=
  ⟨fun i _ => i < z.cps.size, fun i H v H' => ∃ T c, v = .ref T ∧ H T = none ∧ H' = upd H T (.tup [.int (i : Nat), .str ⟨#[c]⟩]) ∧ z.cps[i]? = some c, fun i _ => z.cps.size ≤ i⟩
theorem turn_enumT {P : Program} {w : World} {K : PySem.W.Frag} {elts : List Expr} {kk : Nat} {tpos : Pos} (a e it : Addr) (hae : e ≠ a) (hai : a ≠ it) :
    Turn P w K (.Tuple elts kk tpos) (IteT K a) [e, it] e (fun i h => (∃ old, IsEnum h e it ((i : Nat) : Int) old) ∧ h.IsTupleIter it a i ∧ e ≠ it) where
  mem := by simp
  obj := fun i h st b hb => by
    obtain ⟨⟨old, he⟩, ⟨o, ho, hc, hd⟩, _⟩ := st
    have e' : b = e ∨ b = it := by simpa using hb
    rcases e' with z | z
    · rw [z]; exact ⟨_, he, fun v q => nomatch q⟩
    · rw [z]; exact ⟨o, ho, fun v q => by rw [hd] at q; cases q⟩
  keep := fun i h h' st k => let ⟨⟨old, he⟩, ⟨o, ho, r⟩, hne⟩ := st; ⟨⟨old, k e (by simp) _ he⟩, ⟨o, k it (by simp) o ho, r⟩, hne⟩
  item := by
    intro X hP hw hK hc i pins s σ H E I hf st hg
    subst hP hw hK
    obtain ⟨⟨old, he⟩, hit, hne⟩ := st
    obtain ⟨xs, x, hq, hx⟩ := hg
    obtain ⟨its, rv, p, hz⟩ := I.tuple hq
    obtain ⟨u, hu, ru⟩ := rv.get hx
    have hel : e < s.heap.objs.size := Heap.lt_size he
    have hil : it < s.heap.objs.size := by obtain ⟨_, q, _⟩ := hit; exact Heap.lt_size q
    refine wpAny_pyNext_enum_itemD (drawsTuple (A := X.A.in1) (I.ok.hd hc) it a hai its.toArray) he ⟨hit, p⟩ (by
      have := (List.getElem?_eq_some_iff.mp hu).1
      simpa using this) hne (by simp [hne, hae]) fun x0 h' tk hx0 ho hit' hT hsz hk => ?_
    have ex : x0 = u := by
      have : its[i]? = some x0 := by simpa using hx0
      rw [hu] at this
      exact (Option.some.inj this).symm
    subst ex
    refine ⟨_, rfl, wpAny_letOwnedTupleGo_enum (s := { s with heap := h', toks := tk + 1 }) ho fun h'' he' sb => ?_⟩
    have hT2 : h''.get? s.heap.objs.size = some { cls := .type "tuple", data := .seq #[.int i tk, x0] } := (sb.2 _ (Nat.ne_of_gt hel)).trans hT
    have new : ObjOk X.prog X.w (upd H s.heap.objs.size (.tup [.int (i : Nat), x])) h'' s.heap.objs.size (.tup [.int (i : Nat), x]) :=
      ⟨by show 2 ≤ sizeLine; decide, [.int i tk, x0], .cons ⟨_, rfl⟩ (.cons ru .nil), ⟨_, hT2, rfl, _, rfl⟩⟩
    have I1 : Inv X pins σ (upd H s.heap.objs.size (.tup [.int (i : Nat), x])) { s with heap := h'', toks := tk + 1 } :=
      I.turnedNew (ch := [e, it]) (fun b ob hb q => (sb.2 b (fun z => hb (by simp [z]))).trans (hk b ob (fun z => hb (by simp [z])) (fun z => hb (by simp [z])) q)) hf (Nat.le_refl _) new
    refine ⟨.ref s.heap.objs.size, _, I1, rfl, ⟨_, x, rfl, I.hok.fresh (Nat.le_refl _), rfl, fun ys hy => by rw [I.tuple_inj hy hq]; exact hx⟩, ⟨⟨x0, ?_⟩, (let ⟨o, ho, r⟩ := hit'.1; ⟨o, (sb.2 it (Ne.symm hne)).trans ho, r⟩), hne⟩, fun b hb => ?_⟩
    · have e1 : ((i + 1 : Nat) : Int) = (i : Int) + 1 := by omega
      rw [e1]; exact he'
    · have hb' : b < s.heap.objs.size := by
        have e' : b = e ∨ b = it := by simpa using hb
        rcases e' with z | z
        · rw [z]; exact hel
        · rw [z]; exact hil
      rw [upd_ne (Nat.ne_of_lt hb')]
      exact (hf b hb).1
  done := by
    intro X hP hw hK hc i pins s σ H E I hf st hg
    subst hP hw hK
    obtain ⟨⟨old, he⟩, hit, hne⟩ := st
    obtain ⟨xs, hq, hx⟩ := hg
    obtain ⟨its, rv, p, hz⟩ := I.tuple hq
    obtain ⟨f0, f1, f2, f3, f4, f5⟩ := hf it (by simp)
    have hl := rv.length
    have hT : s.TypeIs (.ref e) "enumerate" := ⟨_, he, rfl⟩
    unfold pyNext
    refine wpAny_bind (wpAny_attempt (wpAny_callSpecial?_slot (name := Str.ofString "__next__") hT F.slot_enumerate_next
      (wpAny_call_entry F.slot_enumerate_next hT F.entry_enumerate_next ?_ (F.args_enumerate_next_1 _))))
    show wpAny _ _ (field (.ref e) 2 >>= _) _ _ _
    refine wpAny_bind (wpAny_field he rfl (x := .ref it) rfl ?_)
    refine wpAny_bind (nextOf_tuple_end (I.ok.hd hc) hit p (by simp; omega) fun h' x he' hx' => ?_)
    obtain ⟨o, ho, hc⟩ := hx'
    refine wpAny_bind (wpAny_isInstance (T := "StopIteration") (b := true) ⟨o, ho, hc⟩ isSubtype_stop ?_)
    exact wpAny_pure ⟨rfl, I.turned (t' := s.toks) (fun b o hb q => he' b o hb q) f0 f1 f3 f4 f5⟩
  self := fun A i s Q E st h => let ⟨⟨_, he⟩, _⟩ := st; wpAny_pyIter_enum he h
theorem drawsStr {prog : Program} {w : World} {A : Around} (hh : A.handled = none) (it : Addr) (x : Str) (t : Tok) :
    Draws prog w A it [it] x.cps.size (fun i v => ∃ c u, x.cps[i]? = some c ∧ v = .str ⟨#[c]⟩ u) (fun i h => h.IsStrIter it (strIterType x) x t i) := by
  cases ha : x.cps.all (· < 128)
  · have e : strIterType x = "str_iterator" := by simp [strIterType, ha]
    rw [e]; exact Draws.strWide hh it x t
  · have e : strIterType x = "str_ascii_iterator" := by simp [strIterType, ha]
    rw [e]; exact Draws.strAscii hh it x t
theorem turn_enumS {P : Program} {w : World} {K : PySem.W.Frag} {elts : List Expr} {kk : Nat} {tpos : Pos} (z : Str) (t : Tok) (e it : Addr) :
    Turn P w K (.Tuple elts kk tpos) (IteS z) [e, it] e (fun i h => (∃ old, IsEnum h e it ((i : Nat) : Int) old) ∧ h.IsStrIter it (strIterType z) z t i ∧ e ≠ it) where
  mem := by simp
  obj := fun i h st b hb => by
    obtain ⟨⟨old, he⟩, ⟨o, ho, hc, hd⟩, _⟩ := st
    have e' : b = e ∨ b = it := by simpa using hb
    rcases e' with z | z
    · rw [z]; exact ⟨_, he, fun v q => nomatch q⟩
    · rw [z]; exact ⟨o, ho, fun v q => by rw [hd] at q; cases q⟩
  keep := fun i h h' st k => let ⟨⟨old, he⟩, ⟨o, ho, r⟩, hne⟩ := st; ⟨⟨old, k e (by simp) _ he⟩, ⟨o, k it (by simp) o ho, r⟩, hne⟩
  item := by
    intro X hP hw hK hc i pins s σ H E I hf st hg
    subst hP hw hK
    obtain ⟨⟨old, he⟩, hit, hne⟩ := st
    have hel : e < s.heap.objs.size := Heap.lt_size he
    have hil : it < s.heap.objs.size := by obtain ⟨_, q, _⟩ := hit; exact Heap.lt_size q
    refine wpAny_pyNext_enum_itemD (drawsStr (A := X.A.in1) (I.ok.hd hc) it z t) he hit hg hne (by simp [hne]) fun x0 h' tk hx0 ho hit' hT hsz hk => ?_
    obtain ⟨c, u, hcx, rfl⟩ := hx0
    refine ⟨_, rfl, wpAny_letOwnedTupleGo_enum (s := { s with heap := h', toks := tk + 1 }) ho fun h'' he' sb => ?_⟩
    have hT2 : h''.get? s.heap.objs.size = some { cls := .type "tuple", data := .seq #[.int i tk, .str ⟨#[c]⟩ u] } := (sb.2 _ (Nat.ne_of_gt hel)).trans hT
    have new : ObjOk X.prog X.w (upd H s.heap.objs.size (.tup [.int (i : Nat), .str ⟨#[c]⟩])) h'' s.heap.objs.size (.tup [.int (i : Nat), .str ⟨#[c]⟩]) :=
      ⟨by show 2 ≤ sizeLine; decide, [.int i tk, .str ⟨#[c]⟩ u], .cons ⟨_, rfl⟩ (.cons ⟨_, rfl⟩ .nil), ⟨_, hT2, rfl, _, rfl⟩⟩
    have I1 : Inv X pins σ (upd H s.heap.objs.size (.tup [.int (i : Nat), .str ⟨#[c]⟩])) { s with heap := h'', toks := tk + 1 } :=
      I.turnedNew (ch := [e, it]) (fun b ob hb q => (sb.2 b (fun z => hb (by simp [z]))).trans (hk b ob (fun z => hb (by simp [z])) (fun z => hb (by simp [z])) q)) hf (Nat.le_refl _) new
    refine ⟨.ref s.heap.objs.size, _, I1, rfl, ⟨_, c, rfl, I.hok.fresh (Nat.le_refl _), rfl, hcx⟩, ⟨⟨.str ⟨#[c]⟩ u, ?_⟩, (let ⟨o, ho, r⟩ := hit'; ⟨o, (sb.2 it (Ne.symm hne)).trans ho, r⟩), hne⟩, fun b hb => ?_⟩
    · have e1 : ((i + 1 : Nat) : Int) = (i : Int) + 1 := by omega
      rw [e1]; exact he'
    · have hb' : b < s.heap.objs.size := by
        have e' : b = e ∨ b = it := by simpa using hb
        rcases e' with z | z
        · rw [z]; exact hel
        · rw [z]; exact hil
      rw [upd_ne (Nat.ne_of_lt hb')]
      exact (hf b hb).1
  done := by
    intro X hP hw hK hc i pins s σ H E I hf st hg
    subst hP hw hK
    obtain ⟨⟨old, he⟩, hit, hne⟩ := st
    obtain ⟨f0, f1, f2, f3, f4, f5⟩ := hf it (by simp)
    have hT : s.TypeIs (.ref e) "enumerate" := ⟨_, he, rfl⟩
    have hx : z.cps[i]? = none := Array.getElem?_eq_none hg
    unfold pyNext
    refine wpAny_bind (wpAny_attempt (wpAny_callSpecial?_slot (name := Str.ofString "__next__") hT F.slot_enumerate_next
      (wpAny_call_entry F.slot_enumerate_next hT F.entry_enumerate_next ?_ (F.args_enumerate_next_1 _))))
    show wpAny _ _ (field (.ref e) 2 >>= _) _ _ _
    refine wpAny_bind (wpAny_field he rfl (x := .ref it) rfl ?_)
    cases ha : z.cps.all (· < 128)
    · have e0 : strIterType z = "str_iterator" := by simp [strIterType, ha]
      rw [e0] at hit
      refine wpAny_bind (wpAny_nextOf_wide_end (I.ok.hd hc) hit hx fun h' x he' hx' => ?_)
      obtain ⟨o, ho, hc⟩ := hx'
      refine wpAny_bind (wpAny_isInstance (T := "StopIteration") (b := true) ⟨o, ho, hc⟩ isSubtype_stop ?_)
      exact wpAny_pure ⟨rfl, I.turned (t' := s.toks) (fun b o hb q => he' b o hb q) f0 f1 f3 f4 f5⟩
    · have e0 : strIterType z = "str_ascii_iterator" := by simp [strIterType, ha]
      rw [e0] at hit
      refine wpAny_bind (wpAny_nextOf_ascii_end (I.ok.hd hc) hit hx fun h' x he' hx' => ?_)
      obtain ⟨o, ho, hc⟩ := hx'
      refine wpAny_bind (wpAny_isInstance (T := "StopIteration") (b := true) ⟨o, ho, hc⟩ isSubtype_stop ?_)
      exact wpAny_pure ⟨rfl, I.turned (t' := s.toks) (fun b o hb q => he' b o hb q) f0 f1 f3 f4 f5⟩
  self := fun A i s Q E st h => let ⟨⟨_, he⟩, _⟩ := st; wpAny_pyIter_enum he h
/-- enumerate of a list, a tuple or a text -/
def iEnumX (K : PySem.W.Frag) (ta : TA) : TI := fun σ H R => ta σ H fun vs H1 => (∃ a xs, vs = [.ref a] ∧ SqL K H1 a xs ∧ R (Ite K a) H1) ∨ (∃ a xs, vs = [.ref a] ∧ SqT K H1 a xs ∧ R (IteT K a) H1) ∨ ∃ z, vs = [.str z] ∧ R (IteS z) H1
theorem pi_enumX {X : Cx} {e : Expr} {ta : TA} {p pos tpos : Pos} {elts : List Expr} {kk : Nat} (hg : Gl X "enumerate") (hm : X.mg "enumerate" = none) (ha : PA X [e] ta) (hs : starEach [e] X.env = [(false, eval e X.env)] := by rfl) :
    PI X (.Tuple elts kk tpos) (.Call (.Name "enumerate" p) [e] [] pos) (iEnumX X.K ta) := by
  refine ⟨fun pins s σ H R I h => ?_⟩
  refine Call_ (ld_blt I hg hm boot_enumerate (PyProof.Rows.callWith_type1 (thn (ha.run pos pins s σ H _ I h) fun us s1 ⟨vs, H1, I1, r1, q1⟩ => ?_) hs rfl))
  have near : ∀ b ∈ [s1.heap.objs.size + 1, s1.heap.objs.size], s1.heap.objs.size ≤ b := fun b hb => by
    have e' : b = s1.heap.objs.size + 1 ∨ b = s1.heap.objs.size := by simpa using hb
    rcases e' with z | z
    · rw [z]; exact Nat.le_add_right _ _
    · rw [z]; exact Nat.le_refl _
  rcases q1 with ⟨a, xs, ex, hq, q⟩ | ⟨a, xs, ex, hq, q⟩ | ⟨z, ex, q⟩
  · subst ex
    cases r1 with
    | cons r rr =>
      cases rr
      cases r
      obtain ⟨its, rv, p', hz⟩ := I1.list hq
      refine call_enumerate_list p'.isList fun h' he hit hsz hk => wpAny_pyIter_enum he ?_
      have I2 : Inv X pins σ H1 { s1 with heap := h' } := I1.kept (t' := s1.toks) hk
      exact ⟨s1.heap.objs.size + 1, [s1.heap.objs.size + 1, s1.heap.objs.size], _, _, H1, rfl, I2, turn_enum a (s1.heap.objs.size + 1) s1.heap.objs.size, ⟨⟨.none, he⟩, hit, Nat.succ_ne_self _⟩, fun b hb => I1.fpOk (near b hb) (I1.hok.fresh (near b hb)), q⟩
  · subst ex
    cases r1 with
    | cons r rr =>
      cases rr
      cases r
      obtain ⟨its, rv, p', hz⟩ := I1.tuple hq
      have al : a < s1.heap.objs.size := by obtain ⟨_, e, _⟩ := id p'; exact Heap.lt_size e
      refine call_enumerate_tuple p' fun h' he hit hsz hk => wpAny_pyIter_enum he ?_
      have I2 : Inv X pins σ H1 { s1 with heap := h' } := I1.kept (t' := s1.toks) hk
      exact ⟨s1.heap.objs.size + 1, [s1.heap.objs.size + 1, s1.heap.objs.size], _, _, H1, rfl, I2, turn_enumT a (s1.heap.objs.size + 1) s1.heap.objs.size (Nat.ne_of_gt (Nat.lt_succ_of_lt al)) (Nat.ne_of_lt al), ⟨⟨.none, he⟩, hit, Nat.succ_ne_self _⟩, fun b hb => I1.fpOk (near b hb) (I1.hok.fresh (near b hb)), q⟩
  · subst ex
    cases r1 with
    | cons r rr =>
      cases rr
      obtain ⟨t, rfl⟩ := r
      refine call_enumerate_str fun h' he hit hsz hk => wpAny_pyIter_enum he ?_
      have I2 : Inv X pins σ H1 { s1 with heap := h' } := I1.kept (t' := s1.toks) hk
      exact ⟨s1.heap.objs.size + 1, [s1.heap.objs.size + 1, s1.heap.objs.size], _, _, H1, rfl, I2, turn_enumS z t (s1.heap.objs.size + 1) s1.heap.objs.size, ⟨⟨.none, he⟩, hit, Nat.succ_ne_self _⟩, fun b hb => I1.fpOk (near b hb) (I1.hok.fresh (near b hb)), q⟩
theorem walk_enumT {K : PySem.W.Frag} {a : Addr} {xs : List V} : Walk (IteT K a) xs.length (fun H => SqT K H a xs) (YPair (fun i => some (.int (i : Nat))) (fun i => xs[i]?)) := by
  refine ⟨fun i _ hi q => ⟨xs, xs[i], q, by simp [hi]⟩, fun _ q => ⟨xs, q, Nat.le_refl _⟩, fun i H v H' _ q y => ?_⟩
  obtain ⟨T, x, h1, h2, h3, h4⟩ := y
  exact ⟨T, .int (i : Nat), x, h1, h2, h3, rfl, h4 xs q⟩
theorem walk_enumS {z : Str} : Walk (IteS z) z.cps.size (fun _ => True) (YPair (fun i => some (.int (i : Nat))) (fun i => z.cps[i]?.map fun c => V.str ⟨#[c]⟩)) := by
  refine ⟨fun i _ hi q => hi, fun _ q => Nat.le_refl _, fun i H v H' _ q y => ?_⟩
  obtain ⟨T, c, h1, h2, h3, h4⟩ := y
  exact ⟨T, .int (i : Nat), .str ⟨#[c]⟩, h1, h2, h3, rfl, by show Option.map _ z.cps[i]? = _; rw [h4]; rfl⟩
end SX0

set_option Elab.async false
set_option linter.all false
set_option maxRecDepth 100000
set_option maxHeartbeats 4000000
namespace L2
open PySem PySem.Spec PyProof.Rows
section
variable {P : Program} {w : World} {A : Around} {E : Value → Shared → Prop} {s : Shared}
theorem call_set_lstI {l : Addr} {items : Array Value} (ns : List Int) {Q : Value → Shared → Prop} (hh : A.handled = none) (hl : s.heap.IsList l items) (hit : IntsAre items.toList ns) (hb : ns.length + 1 < scanBound)
    (h : ∀ (h' : Heap) (tk c : Nat), SetR w h' s.heap.objs.size (fun j => decide (j ∈ ns)) c → c ≤ ns.length → (∀ b o, s.heap.get? b = some o → h'.get? b = some o) → Q (.ref s.heap.objs.size) { s with heap := h', toks := tk }) :
    wpAny (model P w) A (call (.type "set") [.ref l]) Q E s := by
  have hisz : items.size = ns.length := by
    have q := IntsAre.length hit
    rw [Array.length_toList] at q
    exact q
  obtain ⟨c, tl, hmro⟩ := F.called_set.mro
  have hmade := F.called_set.made
  have hsub := F.called_set.sub
  refine wpAny_call (codeAny_of_tree ?_)
  show wpAny _ _ (callAny (.type "set") _) _ _ _
  refine wpAny_pure ⟨Code.quiet_builtin _ (by decide +kernel), codeAny_builtin F.entry_type_call ?_⟩
  rw [Around.under_plain (weight_type_call_type "set" [.ref l] []) rfl]
  have h1 := F.called_set.notType
  have h2 := F.called_set.canCreate
  have hct := F.typeCall_set_1 (.ref l)
  repeat (any_goals (first | assumption | wp_step))

  refine codeAny_mono (code_set_led1 (.ref l) (E := E) (Q₁ := fun obj s₁ => obj = .ref s.heap.objs.size ∧ s₁ = { s with heap := s.heap.push { cls := .type "set", dict := none, data := .set #[] 0 (.fresh 0 0 (!w.params.followText "set-order")) } }) ⟨rfl, rfl⟩) fun r s₁ hr => ?_
  cases r with
  | error e => exact hr
  | ok fl =>
    cases fl with
    | ret obj =>
      obtain ⟨rfl, rfl⟩ := hr
      have hS : (s.heap.push { cls := .type "set", dict := none, data := .set #[] 0 (.fresh 0 0 (!w.params.followText "set-order")) }).get? s.heap.objs.size = some { cls := .type "set", dict := none, data := .set #[] 0 (.fresh 0 0 (!w.params.followText "set-order")) } := Heap.get?_push_size _ rfl
      have hT : Shared.TypeIs { s with heap := s.heap.push { cls := .type "set", dict := none, data := .set #[] 0 (.fresh 0 0 (!w.params.followText "set-order")) } } (.ref s.heap.objs.size) "set" := ⟨_, hS, rfl⟩
      have hli := F.called_set.init.lookup
      have hbi := F.called_set.init.bind (.ref s.heap.objs.size)
      repeat (any_goals (first | assumption | wp_step))

      refine codeAny_mono (codeAny_call_builtin (R := wants (fun r s₂ => r = .none ∧ ∃ h' tk c, s₂ = { s with heap := h', toks := tk } ∧ SetR w h' s.heap.objs.size (fun j => decide (j ∈ ns)) c ∧ c ≤ ns.length ∧
          (∀ b o, s.heap.get? b = some o → h'.get? b = some o)) E) F.called_set.init.plain F.entry_set_init (check_set_init_1 hT ?_)) fun r₂ s₂ hr₂ => ?_
      · obtain ⟨ol, hol, hcl, nl, hdl⟩ := hl
        obtain ⟨ocls, odict, odata, oslots⟩ := ol
        simp only at hcl hdl
        subst hcl; subst hdl
        have hol' : (s.heap.push { cls := .type "set", dict := none, data := .set #[] 0 (.fresh 0 0 (!w.params.followText "set-order")) }).get? l = some { cls := .type "list", dict := odict, data := .seq items nl, slots := oslots } := Heap.get?_push_of_some _ hol
        have hsls := F.sub_list_set
        have hslf := F.sub_list_frozenset
        have hne : (Value.type "list" == Value.type "dict") = false := by decide
        have hl1 : (s.heap.push { cls := .type "set", dict := none, data := .set #[] 0 (.fresh 0 0 (!w.params.followText "set-order")) }).IsList l items := ⟨_, hol', rfl, nl, rfl⟩
        unfold Builtin.«set.__init__» noKeywords Builtin.Frozenset.updateFrom
        generalize hPI : pyIter = PI
        wp_walk
        subst hPI

        refine wpAny_pyIter_list hl1 ?_
        refine wpAny_bind (wpAny_runValue ?_)
        have hlS : l < s.heap.objs.size := Heap.lt_size hol
        have hh3 : A.in1.in1.in1.handled = none := by simp [hh]
        have hz1 : (s.heap.push { cls := .type "set", dict := none, data := .set #[] 0 (.fresh 0 0 (!w.params.followText "set-order")) }).objs.size = s.heap.objs.size + 1 := Heap.size_push ..
        have hneI : l ≠ (s.heap.push { cls := .type "set", dict := none, data := .set #[] 0 (.fresh 0 0 (!w.params.followText "set-order")) }).objs.size := by
          rw [Heap.size_push]; exact Nat.ne_of_lt (Nat.lt_succ_of_lt hlS)
        have hSf : s.heap.objs.size ∉ [(s.heap.push { cls := .type "set", dict := none, data := .set #[] 0 (.fresh 0 0 (!w.params.followText "set-order")) }).objs.size, l] := by
          rw [Heap.size_push]; simp only [List.mem_cons, List.mem_singleton, List.not_mem_nil, or_false, not_or]
          exact ⟨Nat.ne_of_lt (Nat.lt_succ_self _), Nat.ne_of_gt hlS⟩
        have hval : ∀ (i : Nat) (v : Value), items[i]? = some v → ∃ k t, ns[i]? = some k ∧ v = .int k t := fun i v hv => by
          have hi : i < ns.length := by rw [← hisz]; exact (Array.getElem?_eq_some_iff.mp hv).1
          obtain ⟨t, e⟩ := PyProof.Rows.IntsAre.int_at hit i v (by rw [Array.getElem?_toList]; exact hv)
          refine ⟨ns[i], t, List.getElem?_eq_getElem hi, ?_⟩
          rw [e, List.getD_eq_getElem?_getD, List.getElem?_eq_getElem hi] <;> rfl
        refine set_update_ints ((Walks.list hh3 _ l hneI items).toS) s.heap.objs.size
          hSf ns hisz hb hval (items.size - 0) 0 _ (by omega) (Nat.zero_le _)
          ⟨⟨_, Heap.get?_push_size _ rfl, rfl, rfl⟩, (hl1.push _)⟩ ?hS0 ?hR
        case hS0 =>
          have hget : ((s.heap.push { cls := .type "set", dict := none, data := .set #[] 0 (.fresh 0 0 (!w.params.followText "set-order")) }).push { cls := .type "list_iterator", data := .fields #[.ref l, .int 0 0] }).get? s.heap.objs.size
              = some { cls := .type "set", dict := none, data := .set #[] 0 (.fresh 0 0 (!w.params.followText "set-order")) } := Heap.get?_push_of_some _ hS
          exact ⟨0, Nat.le_refl 0, setR_new_at hget⟩
        case hR =>
          intro s' c' hm hc' hS'
          obtain ⟨h', g2, d', tk', os'⟩ := s'
          have eg : g2 = s.gens := hm.gens
          have ed : d' = s.drawn := hm.drawn
          have eo : os' = s.os := hm.os
          subst eg; subst ed; subst eo
          show wpAny _ _ _ _ _ _
          refine wpAny_pure ?_
          show wpAny _ _ (ret Value.none) _ _ _
          rw [hisz] at hc'
          refine wpAny_pure ⟨rfl, h', tk', c', rfl, hS', hc', fun b o e => ?_⟩
          have hb0 : b < s.heap.objs.size := Heap.lt_size e
          have hb1 : b ≠ s.heap.objs.size := Nat.ne_of_lt hb0
          have hb2 : b ≠ (s.heap.push { cls := .type "set", dict := none, data := .set #[] 0 (.fresh 0 0 (!w.params.followText "set-order")) }).objs.size := by
            rw [Heap.size_push]; exact Nat.ne_of_lt (Nat.lt_succ_of_lt hb0)
          exact hm.heap b o (by simp only [List.mem_cons, List.mem_singleton, List.not_mem_nil, or_false, not_or]; exact ⟨hb1, hb2⟩) (Heap.get?_push_of_some _ (Heap.get?_push_of_some _ e))

      · cases r₂ with
        | error e => exact hr₂
        | ok fl₂ =>
          cases fl₂ with
          | ret r =>
            obtain ⟨rfl, h', tk, c', rfl, hS', hc', hk'⟩ := hr₂
            repeat (any_goals (first | assumption | wp_step))
            exact h _ _ _ hS' hc' hk'
          | _ => exact hr₂.elim
    | _ => exact hr.elim

end
end L2
namespace SX0
open PySem PySem.Spec PyProof.Rows L2
/-- sorted(set(xs)), ints, fewer than 60 of them -/
def tSortedSet (K : PySem.W.Frag) (ta : TE) : TE := fun σ H Q => ta σ H fun x H1 => ∃ (a : Addr) (ns : List Int), x = .ref a ∧ SqL K H1 a (ns.map V.int) ∧ ns.length < 60 ∧
  ∀ (ys : List Int) (q p : Addr) (o : HO), ys.Pairwise (· < ·) → (∀ k, k ∈ ys ↔ k ∈ ns) → H1 q = none → (∀ z, o ≠ .tup z) → q ≠ p → H1 p = none → Q (.ref p) (upd (upd H1 q o) p (.lst (ys.map V.int)))
section
variable {X : Cx}
def cSetL (K : PySem.W.Frag) (w : World) : List V → Hp → VK → Prop := fun vs H Q => ∃ (a : Addr) (ns : List Int), vs = [.ref a] ∧ SqL K H a (ns.map V.int) ∧ ns.length < 60 ∧
  ∀ (p : Addr) (n : Nat), H p = none → n ≤ ns.length → Q (.ref p) (upd H p (SetO w p (fun j => decide (j ∈ ns)) n))
theorem call_setL (hc : X.calm = true) : CallR X (.type "set") (cSetL X.K X.w) := by
  intro pins s σ H vs us Q I r h
  obtain ⟨a, ns, rfl, hs, hlen, q⟩ := h
  obtain ⟨its, rv, hl, hz⟩ := I.list hs
  rw [Vals.ref1 r]
  refine call_set_lstI ns (I.ok.hd hc) hl.isList (by simpa using rv.ints) (by unfold scanBound; omega) fun h' tk c hS hc hk => ?_
  exact ⟨.ref s.heap.objs.size, _, I.laid (t' := tk) hk (Nat.le_refl _) (setO_new hS), rfl, q _ c (I.hok.fresh (Nat.le_refl _)) hc⟩
/-- a reading that may be weakened at its end -/
def tMon (ta : TE) : TE := fun σ H Q => ∃ Q0 : VK, ta σ H Q0 ∧ ∀ v H', Q0 v H' → Q v H'
theorem PE.mon {a : Expr} {ta : TE} (ha : PE X a ta) : PE X a (tMon ta) := ⟨fun pins s σ H Q I ⟨Q0, h, hq⟩ => thn (ha.run pins s σ H Q0 I h) fun u s1 ⟨v, H', I', r, q⟩ => ⟨v, H', I', r, hq _ _ q⟩⟩
theorem PE.imp {a : Expr} {ta tb : TE} (ha : PE X a ta) (h : ∀ σ H Q, tb σ H Q → ta σ H Q) : PE X a tb := ⟨fun pins s σ H Q I q => ha.run pins s σ H Q I (h _ _ _ q)⟩
theorem setO_not {w : World} {a : Addr} {S : Int → Bool} {n : Nat} {z : List V} : SetO w a S n ≠ .tup z := fun e => by
  have e' : HO.ext _ = HO.tup z := e
  cases e'
theorem pe_sortedSet {a : Expr} {ta : TE} {p1 p2 pos1 pos2 : Pos} (hc : X.calm = true) (hg1 : Gl X "sorted") (hm1 : X.mg "sorted" = none) (hg2 : Gl X "set") (hm2 : X.mg "set" = none) (ha : PE X a ta)
    (hpl1 : starEach [a] X.env = [(false, eval a X.env)] := by rfl) :
    PE X (.Call (.Name "sorted" p1) [.Call (.Name "set" p2) [a] [] pos2] [] pos1) (tSortedSet X.K ta) := by
  refine PE.imp (ta := tCB (rSortedSet X.w) (tCons (tCB (cSetL X.K X.w) (tCons (tMon ta) tNil)) tNil)) (pe_callB (cr_sortedSet hc) hg1 hm1 (by decide +kernel) (pa_cons (pe_callTy (call_setL hc) hg2 hm2 (by decide +kernel) (pa_cons (PE.mon ha) pa_nil (hs := hpl1)) (he := hpl1)) pa_nil)) fun σ H Q h => ?_
  refine ⟨_, h, fun x H1 hx => ?_⟩
  obtain ⟨l, ns, rfl, hs, hlen, k⟩ := hx
  refine ⟨l, ns, rfl, hs, hlen, fun p n hp hn => ?_⟩
  refine ⟨p, _, n, rfl, upd_same, by omega, fun ys p2 h1 h2 h3 h4 => ?_⟩
  have ne : p ≠ p2 := fun z => by rw [← z, upd_same] at h4; cases h4
  rw [upd_ne ne.symm] at h4
  exact k ys p p2 _ h1 (fun j => (h2 j).trans (by simp)) hp (fun z => setO_not) ne h4
end
end SX0

set_option Elab.async false
set_option linter.all false
set_option maxRecDepth 100000
set_option maxHeartbeats 4000000
namespace SX0
open PySem PySem.Spec PyProof.Rows L2
theorem law_callX {P : Program} {w : World} {K : PySem.W.Frag} {mg mb : Str → Option Value} {CX : CXT} {k : Nat} {fa a : Addr} {fd : FuncData} {x : Str} {sp : Sp} {s₁ : Shared} {vs : List Value} {ns : List Int}
    (KX : K.In s₁.heap) (hns : s₁.heap.Ns mainGlobals mg) (hb : s₁.heap.Ns builtinsNs mb) (hbb : ∀ x : Str, x ≠ "__name__" → mb x = bootBuiltins x) (hlim : s₁.heap.NoLimit) (hg : s₁.gens = #[])
    (ha : s₁.heap.get? a = some { cls := .type "list", data := .seq vs.toArray }) (hi : IntsAre vs ns) (hl : ns.length ≤ sizeLine) (hr : Room k callerA)
    (F : ∀ base : Heap, K.In base → base.Ns mainGlobals mg → FnOk P w K mg base CX k fa fd [x] sp) (hbind : ∀ (s : Shared) (u : Value), BindsTo s fd ⟨[u], []⟩ [(x, u)])
    (hsp : ∀ H : Hp, Only H → SqX K H a (ns.map V.int) → sp [.ref a] H (fun v _ => v = .bl true) fun _ _ _ => False)
    (hCX : ∀ H e s', CX [] H s₁ (fun _ _ _ => False) e s' → False) :
    codeAny (model P w) callerA (.call (.ref fa) ⟨[.ref a], []⟩) (fun r s' => r = .ok (.ret (.bool true)) ∧ OldK s₁.heap s'.heap ∧ s'.os = s₁.os ∧ AllBare s'.gens) s₁ := by
  refine law_call KX hns hb hbb hlim hg ha hi hl hr F hbind (fun H hO hS => hsp H hO ?_) hCX
  have rv := vals_ints hi
  rcases hS with h | ⟨o, its, n, hk, hc, hd, hdat, hz, r⟩
  · exact .inl h
  · have e := KX a o hk
    rw [ha] at e
    cases e
    have e2 : Data.seq vs.toArray 0 = Data.seq its n := hdat
    cases e2
    exact .inr ⟨vs, hk, by rw [hi.length]; exact hl, rv⟩
theorem walk_ofX {l : PySem.W.OpenLaw} {n k : Nat} {q : Program} {loose : List Str} {XP : (Str → Option Value) → Heap → Prop} {YP : World → Heap → Prop} {d : DefRec} {x : Str}
    (hn : l.most = some n) (hn2 : n ≤ sizeLine) (hdf : d.params.defaults = []) (hr : Room k callerA)
    (F : ∀ (w : World) (mg : Str → Option Value) (fa : Addr) (h : Heap), YP w h → h.Ns mainGlobals mg → mg d.name = some (.ref fa) →
      ∃ (K : PySem.W.Frag) (fd : FuncData) (sp : Sp), K.In h ∧ (∀ (s : Shared) (u : Value), BindsTo s fd ⟨[u], []⟩ [(x, u)]) ∧
        (∀ (H : Hp) (a : Addr) (ns : List Int), ns.length ≤ n → (∀ k ∈ ns, Builtin.Int.intBits k ≤ 1048576) → Only H → SqX K H a (ns.map V.int) → sp [.ref a] H (fun v _ => v = .bl true) fun _ _ _ => False) ∧
        ∀ base : Heap, K.In base → base.Ns mainGlobals mg → FnOk l.prog w K mg base (L2.CX l.prog w) k fa fd [x] sp) :
    PySem.W.WalkO q loose XP YP l.row.toRowW d [] (fun f vs => PySem.call f vs) := by
  refine Att.attach_callB hn hdf fun w s₀ s₁ mg mb fa o pm cd doc a vs ns G Y ho hd hcd hmg hobj hints hlen hbits hg => ?_
  obtain ⟨K, fd, sp, KX, hb, hsp, hF⟩ := F w mg fa _ Y G.T.g hmg
  refine law_callX KX G.T.g G.T.b G.T.builtins G.T.nolimit hg hobj hints (Nat.le_trans hlen hn2) hr hF hb (fun H hO hS => hsp H a ns hlen hbits hO hS) fun H e s' h => ?_
  obtain ⟨_, _, _, _, _, _, _, _, _, _, _, _, z⟩ := h
  exact z
end SX0

set_option Elab.async false
set_option linter.all false
set_option maxRecDepth 100000
set_option maxHeartbeats 4000000
namespace SX0
open PySem PySem.Spec PyProof.Rows L2
/-! ### a walk over a dict that the walk's own expression makes: it stays locked -/
def iKeysL (td : TE) : TI := fun σ H R => td σ H fun x H1 => ∃ d kvs, x = .ref d ∧ H1 d = some (.dK kvs) ∧ ∀ od, R (Itk d od kvs) (upd H1 d (.frz od (.dK kvs)))
theorem pi_keysL {X : Cx} {tg e : Expr} {td : TE} (he : PE X e td) : PI X tg e (iKeysL td) := by
  refine ⟨fun pins s σ H R I h => ?_⟩
  refine thn (he.run pins s σ H _ I h) fun u s1 ⟨x, H1, I1, rx, d, kvs, ex, hd, q⟩ => ?_
  subst ex
  obtain rfl : u = Value.ref d := rx
  obtain ⟨od, I2⟩ := I1.lock hd True.intro
  obtain ⟨hs, hgd, hx, es, ep, vs, hdt, hsz, kv, hm⟩ := I2.frzK (kvs := kvs) upd_same
  refine iter_keys hs hgd hx hdt (pi_one (tk := s1.toks) I2 _ (turn_keys _ hdt) ⟨_, Heap.get?_push_size _ rfl, rfl, ?_⟩ (q od))
  rw [hsz] <;> rfl
def gKeysL (x : V) (H1 : Hp) (R : It → Hp → Prop) : Prop := ∃ d kvs, x = .ref d ∧ H1 d = some (.dK kvs) ∧ ∀ od, R (Itk d od kvs) (upd H1 d (.frz od (.dK kvs)))
theorem x_iKeysL {td : TE} {σ : L2.St} {H : Hp} {R : It → Hp → Prop} (h : td σ H fun x H1 => gKeysL x H1 R) : iKeysL td σ H R := h
end SX0

set_option Elab.async false
set_option linter.all false
set_option maxRecDepth 100000
namespace R_k82
open PySem PySem.Spec PyProof.Rows L2 SX0
def t__law_number (K : PySem.W.Frag) (E : XK) : TS :=
 (tSeq (tAsg (tOp oMod (tOp oFdv (tVar 0) (tC (.int 8))) (tOp oPow (tC (.int 10)) (tC (.int 60)))) (gName 3))
 (tRet (tOp (rIxL K) (tLst (tCons (tVar 1) (tCons (tVar 2) (tCons (tOp oAdd (tVar 1) (tOp oMod (tVar 3) (tOp oSub (tOp oAdd (tVar 2) (tC (.int 1))) (tVar 1)))) (tCons (tOp oSub (tVar 1) (tC (.int 1))) (tCons (tOp oAdd (tVar 2) (tC (.int 1))) (tCons (tOp oSub (tOp oSub (tVar 1) (tC (.int 1))) (tVar 3)) (tCons (tOp oAdd (tOp oAdd (tVar 2) (tC (.int 1))) (tVar 3)) (tCons (tOp oAdd (tVar 1) (tOp oMod (tOp oFdv (tVar 3) (tC (.int 7))) (tOp oSub (tOp oAdd (tVar 2) (tC (.int 1))) (tVar 1)))) tNil))))))))) (tOp oMod (tVar 0) (tC (.int 8))))))
abbrev N__law_number : List Str := ["cell", "least", "most", "far"]
def sp__law_number (K : PySem.W.Frag) : Sp := fun vs H Q E => vs.length = 3 ∧ t__law_number K E { nx := fun _ H' => Q .non H', rt := Q } (start N__law_number vs) H
theorem i__law_number {K : PySem.W.Frag} {a0 a1 a2 : V} {H : Hp} {Q : VK} {E : XK} (h : t__law_number K E { nx := fun _ H' => Q .non H', rt := Q } [some a0, some a1, some a2, none] H) : sp__law_number K [a0, a1, a2] H Q E := ⟨rfl, h⟩
def t_parts_due (K : PySem.W.Frag) (E : XK) : TS :=
 (tSeq (tIfS (tTest (tOp (rIn K false) (tVar 0) (tTup (tCons (tC (.str "make")) (tCons (tC (.str "copy")) (tCons (tC (.str "name")) (tCons (tC (.str "read")) (tCons (tC (.str "word")) (tCons (tC (.str "add")) (tCons (tC (.str "less")) tNil)))))))))) (tRet (tC (.str "nn"))) tNext)
 (tSeq (tIfS (tTest (tOp (rIn K false) (tVar 0) (tTup (tCons (tC (.str "load")) (tCons (tC (.str "store")) tNil))))) (tRet (tC (.str "nnn"))) tNext)
 (tSeq (tIfS (tTest (tOp (rIn K false) (tVar 0) (tTup (tCons (tC (.str "drop")) (tCons (tC (.str "take")) (tCons (tC (.str "held")) (tCons (tC (.str "say")) tNil))))))) (tRet (tC (.str "n"))) tNext)
 (tSeq (tIfS (tTest (tOp rEq (tVar 0) (tC (.str "number")))) (tRet (tC (.str "nx"))) tNext)
 (tSeq (tIfS (tTest (tOp (rIn K false) (tVar 0) (tTup (tCons (tC (.str "mark")) (tCons (tC (.str "go")) tNil))))) (tRet (tC (.str "m"))) tNext)
 (tSeq (tIfS (tTest (tOp (rIn K false) (tVar 0) (tTup (tCons (tC (.str "same")) (tCons (tC (.str "below")) tNil))))) (tRet (tC (.str "nnm"))) tNext)
 (tSeq (tIfS (tTest (tOp rEq (tVar 0) (tC (.str "thing")))) (tRet (tC (.str "nm"))) tNext)
 (tSeq (tIfS (tTest (tOp rEq (tVar 0) (tC (.str "stop")))) (tRet (tC (.str ""))) tNext)
 (tRet (tC .non))))))))))
abbrev N_parts_due : List Str := ["word"]
def sp_parts_due (K : PySem.W.Frag) : Sp := fun vs H Q E => vs.length = 1 ∧ t_parts_due K E { nx := fun _ H' => Q .non H', rt := Q } (start N_parts_due vs) H
theorem i_parts_due {K : PySem.W.Frag} {a0 : V} {H : Hp} {Q : VK} {E : XK} (h : t_parts_due K E { nx := fun _ H' => Q .non H', rt := Q } [some a0] H) : sp_parts_due K [a0] H Q E := ⟨rfl, h⟩
def t_are_all_in (K : PySem.W.Frag) (E : XK) : TS :=
 (tSeq (tFor (iStr (tVar 0)) (gName 2) (tIfS (tTest (tOp oNotInSign (tVar 2) (tVar 1))) (tRet (tC (.bl false))) tNext))
 (tRet (tC (.bl true))))
abbrev N_are_all_in : List Str := ["text", "signs", "sign"]
def sp_are_all_in (K : PySem.W.Frag) : Sp := fun vs H Q E => vs.length = 2 ∧ t_are_all_in K E { nx := fun _ H' => Q .non H', rt := Q } (start N_are_all_in vs) H
theorem i_are_all_in {K : PySem.W.Frag} {a0 a1 : V} {H : Hp} {Q : VK} {E : XK} (h : t_are_all_in K E { nx := fun _ H' => Q .non H', rt := Q } [some a0, some a1, none] H) : sp_are_all_in K [a0, a1] H Q E := ⟨rfl, h⟩
def t_is_mark (K : PySem.W.Frag) (E : XK) : TS :=
 (tRet (tAndV (tChain oLe oLe (tC (.int 1)) (tCB cLenStr (tCons (tVar 0) tNil)) (tC (.int 8))) (tCallS (sp_are_all_in K) (WE (WD E)) (tCons (tVar 0) (tCons (tC (.str "abcdefghijklmnopqrstuvwxyz")) tNil)))))
abbrev N_is_mark : List Str := ["text"]
def sp_is_mark (K : PySem.W.Frag) : Sp := fun vs H Q E => vs.length = 1 ∧ t_is_mark K E { nx := fun _ H' => Q .non H', rt := Q } (start N_is_mark vs) H
theorem i_is_mark {K : PySem.W.Frag} {a0 : V} {H : Hp} {Q : VK} {E : XK} (h : t_is_mark K E { nx := fun _ H' => Q .non H', rt := Q } [some a0] H) : sp_is_mark K [a0] H Q E := ⟨rfl, h⟩
def t_is_plain (K : PySem.W.Frag) (E : XK) : TS :=
 (tSeq (tIfS (tOr (tTest (tOp oLt (tCB cLenStr (tCons (tVar 0) tNil)) (tC (.int 1)))) (tOr (tTest (tOp oGt (tCB cLenStr (tCons (tVar 0) tNil)) (tC (.int 61)))) (tNot (tB (tCallS (sp_are_all_in K) (WE (WD E)) (tCons (tVar 0) (tCons (tC (.str "0123456789")) tNil))))))) (tRet (tC (.bl false))) tNext)
 (tRet (tOrV (tOp rEq (tVar 0) (tC (.str "0"))) (tOp rNe (tOp rIxS (tVar 0) (tC (.int 0))) (tC (.str "0"))))))
abbrev N_is_plain : List Str := ["text"]
def sp_is_plain (K : PySem.W.Frag) : Sp := fun vs H Q E => vs.length = 1 ∧ t_is_plain K E { nx := fun _ H' => Q .non H', rt := Q } (start N_is_plain vs) H
theorem i_is_plain {K : PySem.W.Frag} {a0 : V} {H : Hp} {Q : VK} {E : XK} (h : t_is_plain K E { nx := fun _ H' => Q .non H', rt := Q } [some a0] H) : sp_is_plain K [a0] H Q E := ⟨rfl, h⟩
def t_part_in (K : PySem.W.Frag) (E : XK) : TS :=
 (tSeq (tIfS (tTest (tOp rEq (tVar 1) (tC (.str "m")))) (tSeq (tIfS (tB (tCallS (sp_is_mark K) (WE (WD E)) (tCons (tVar 0) tNil))) (tRet (tVar 0)) tNext)
 (tRet (tC .non))) tNext)
 (tSeq (tIfS (tB (tCallS (sp_is_plain K) (WE (WD E)) (tCons (tVar 0) tNil))) (tRet (tCB cIntStr (tCons (tVar 0) tNil))) tNext)
 (tSeq (tIfS (tAnd (tTest (tOp rEq (tVar 1) (tC (.str "x")))) (tAnd (tTest (tOp rEq (tSl rSlS (tVar 0) tNoPart (tPart (tC (.int 1)))) (tC (.str "-")))) (tAnd (tTest (tOp rNe (tVar 0) (tC (.str "-0")))) (tB (tCallS (sp_is_plain K) (WE (WD E)) (tCons (tSl rSlS (tVar 0) (tPart (tC (.int 1))) tNoPart) tNil)))))) (tRet (tUn oNeg (tCB cIntStr (tCons (tSl rSlS (tVar 0) (tPart (tC (.int 1))) tNoPart) tNil)))) tNext)
 (tRet (tC .non)))))
abbrev N_part_in : List Str := ["text", "kind"]
def sp_part_in (K : PySem.W.Frag) : Sp := fun vs H Q E => vs.length = 2 ∧ t_part_in K E { nx := fun _ H' => Q .non H', rt := Q } (start N_part_in vs) H
theorem i_part_in {K : PySem.W.Frag} {a0 a1 : V} {H : Hp} {Q : VK} {E : XK} (h : t_part_in K E { nx := fun _ H' => Q .non H', rt := Q } [some a0, some a1] H) : sp_part_in K [a0, a1] H Q E := ⟨rfl, h⟩
def t_row_in (K : PySem.W.Frag) (E : XK) : TS :=
 (tSeq (tAsg (tM1 cSplit (tVar 0) (tC (.str " "))) (gName 1))
 (tSeq (tAsg (tCallS (sp_parts_due K) (WE (WD E)) (tCons (tOp (rIxL K) (tVar 1) (tC (.int 0))) tNil)) (gName 2))
 (tSeq (tIfS (tOr (tTest (tOp oIsN (tVar 2) (tC .non))) (tTest (tOp rNe (tCB (cLenSeq K) (tCons (tVar 1) tNil)) (tOp oAdd (tCB cLenStr (tCons (tVar 2) tNil)) (tC (.int 1)))))) (tRet (tC .non)) tNext)
 (tSeq (tAsg (tLc (iEnumX K (tCons (tVar 2) tNil)) (gTup K 2 (gCons (gName 4) (gCons (gName 5) gNil))) tYes (tCallS (sp_part_in K) (WE W0) (tCons (tOp (rIxL K) (tVar 1) (tOp oAdd (tVar 4) (tC (.int 1)))) (tCons (tVar 5) tNil))) [4, 5]) (gName 3))
 (tSeq (tIfS (tTest (tOp (rIn K false) (tC .non) (tVar 3))) (tRet (tC .non)) tNext)
 (tRet (tCB (cTupleOf K) (tCons (tOp (rCatS K) (tLst (tCons (tOp (rIxL K) (tVar 1) (tC (.int 0))) tNil)) (tVar 3)) tNil))))))))
abbrev N_row_in : List Str := ["text", "words", "kinds", "parts", "place", "kind"]
def sp_row_in (K : PySem.W.Frag) : Sp := fun vs H Q E => vs.length = 1 ∧ t_row_in K E { nx := fun _ H' => Q .non H', rt := Q } (start N_row_in vs) H
theorem i_row_in {K : PySem.W.Frag} {a0 : V} {H : Hp} {Q : VK} {E : XK} (h : t_row_in K E { nx := fun _ H' => Q .non H', rt := Q } [some a0, none, none, none, none, none] H) : sp_row_in K [a0] H Q E := ⟨rfl, h⟩
def t_marks_in (K : PySem.W.Frag) (E : XK) : TS :=
 (tSeq (tAsg tDNewK (gName 1))
 (tSeq (tFor (iEnumX K (tCons (tVar 0) tNil)) (gTup K 2 (gCons (gName 2) (gCons (gName 3) gNil))) (tIfS (tAnd (tTest (tOp oNotN (tVar 3) (tC .non))) (tAnd (tTest (tOp rEq (tOp (rIxT K) (tVar 3) (tC (.int 0))) (tC (.str "mark")))) (tB (tDNotIn (tOp (rIxT K) (tVar 3) (tC (.int 1))) (tVar 1))))) (sDPut (tVar 1) (tOp (rIxT K) (tVar 3) (tC (.int 1))) (tVar 2)) tNext))
 (tRet (tVar 1))))
abbrev N_marks_in : List Str := ["rows", "places", "place", "row"]
def sp_marks_in (K : PySem.W.Frag) : Sp := fun vs H Q E => vs.length = 1 ∧ t_marks_in K E { nx := fun _ H' => Q .non H', rt := Q } (start N_marks_in vs) H
theorem i_marks_in {K : PySem.W.Frag} {a0 : V} {H : Hp} {Q : VK} {E : XK} (h : t_marks_in K E { nx := fun _ H' => Q .non H', rt := Q } [some a0, none, none, none] H) : sp_marks_in K [a0] H Q E := ⟨rfl, h⟩
def t_BadText___init__ (K : PySem.W.Frag) (E : XK) : TS :=
 (tSeq (tDrop (tVeI K (tCons (tVar 0) (tCons (tVar 1) tNil))))
 (tOst K "row" (tVar 0) (tVar 2)))
abbrev N_BadText___init__ : List Str := ["self", "words", "row"]
def sp_BadText___init__ (K : PySem.W.Frag) : Sp := fun vs H Q E => vs.length = 3 ∧ t_BadText___init__ K E { nx := fun _ H' => Q .non H', rt := Q } (start N_BadText___init__ vs) H
theorem i_BadText___init__ {K : PySem.W.Frag} {a0 a1 a2 : V} {H : Hp} {Q : VK} {E : XK} (h : t_BadText___init__ K E { nx := fun _ H' => Q .non H', rt := Q } [some a0, some a1, some a2] H) : sp_BadText___init__ K [a0, a1, a2] H Q E := ⟨rfl, h⟩
def t_mark_of (K : PySem.W.Frag) (E : XK) : TS :=
 (tSeq (tIfS (tTest (tOp (rIn K false) (tOp (rIxT K) (tVar 0) (tC (.int 0))) (tTup (tCons (tC (.str "go")) (tCons (tC (.str "same")) (tCons (tC (.str "below")) (tCons (tC (.str "thing")) tNil))))))) (tRet (tOp (rIxT K) (tVar 0) (tUn oNeg (tC (.int 1))))) tNext)
 (tRet (tC .non)))
abbrev N_mark_of : List Str := ["row"]
def sp_mark_of (K : PySem.W.Frag) : Sp := fun vs H Q E => vs.length = 1 ∧ t_mark_of K E { nx := fun _ H' => Q .non H', rt := Q } (start N_mark_of vs) H
theorem i_mark_of {K : PySem.W.Frag} {a0 : V} {H : Hp} {Q : VK} {E : XK} (h : t_mark_of K E { nx := fun _ H' => Q .non H', rt := Q } [some a0] H) : sp_mark_of K [a0] H Q E := ⟨rfl, h⟩
def t_read_program (K : PySem.W.Frag) (E : XK) : TS :=
 (tSeq (tAsg (tM1 cSplit (tVar 0) (tC (.str "\n"))) (gName 1))
 (tSeq (tAsg (tLc (iList K (tVar 1)) (gName 6) tYes (tCallS (sp_row_in K) (WE W0) (tCons (tVar 6) tNil)) [6]) (gName 2))
 (tSeq (tAsg (tCallS (sp_marks_in K) (WE (WD E)) (tCons (tVar 2) tNil)) (gName 3))
 (tSeq (tFor (iEnumX K (tCons (tVar 2) tNil)) (gTup K 2 (gCons (gName 4) (gCons (gName 5) gNil))) (tSeq (tIfS (tOr (tTest (tOp oIsN (tVar 5) (tC .non))) (tTest (tOp oGe (tVar 4) (tC (.int 200))))) (tRzO (He.ga K "BadText") (sp_BadText___init__ K) (tCons (tC (.str "a row that is none")) (tCons (tOp oAdd (tVar 4) (tC (.int 1))) tNil)) (WD E)) tNext)
 (tSeq (tIfS (tAnd (tTest (tOp rEq (tOp (rIxT K) (tVar 5) (tC (.int 0))) (tC (.str "mark")))) (tTest (tOp rNe (tDGet (tVar 3) (tOp (rIxT K) (tVar 5) (tC (.int 1)))) (tVar 4)))) (tRzO (He.ga K "BadText") (sp_BadText___init__ K) (tCons (tC (.str "a mark that was put ahead")) (tCons (tOp oAdd (tVar 4) (tC (.int 1))) tNil)) (WD E)) tNext)
 (tIfS (tAnd (tTest (tOp oNotN (tCallS (sp_mark_of K) (WE (WD E)) (tCons (tVar 5) tNil)) (tC .non))) (tB (tDNotIn (tCallS (sp_mark_of K) (WE (WD E)) (tCons (tVar 5) tNil)) (tVar 3)))) (tRzO (He.ga K "BadText") (sp_BadText___init__ K) (tCons (tC (.str "a mark that no row puts")) (tCons (tOp oAdd (tVar 4) (tC (.int 1))) tNil)) (WD E)) tNext))))
 (tRet (tCB (cTupleOf K) (tCons (tVar 2) tNil)))))))
abbrev N_read_program : List Str := ["text", "texts", "rows", "places", "place", "row", "one"]
def sp_read_program (K : PySem.W.Frag) : Sp := fun vs H Q E => vs.length = 1 ∧ t_read_program K E { nx := fun _ H' => Q .non H', rt := Q } (start N_read_program vs) H
theorem i_read_program {K : PySem.W.Frag} {a0 : V} {H : Hp} {Q : VK} {E : XK} (h : t_read_program K E { nx := fun _ H' => Q .non H', rt := Q } [some a0, none, none, none, none, none, none] H) : sp_read_program K [a0] H Q E := ⟨rfl, h⟩
def t_look_at_pace (K : PySem.W.Frag) (E : XK) : TS :=
 (tIfS (tOr (tTest (tOp oLt (tVar 0) (tC (.int 1)))) (tTest (tOp oGt (tVar 0) (tC (.int 100))))) (tRz (He.ga K "BadCount") (WD E)) tNext)
abbrev N_look_at_pace : List Str := ["pace"]
def sp_look_at_pace (K : PySem.W.Frag) : Sp := fun vs H Q E => vs.length = 1 ∧ t_look_at_pace K E { nx := fun _ H' => Q .non H', rt := Q } (start N_look_at_pace vs) H
theorem i_look_at_pace {K : PySem.W.Frag} {a0 : V} {H : Hp} {Q : VK} {E : XK} (h : t_look_at_pace K E { nx := fun _ H' => Q .non H', rt := Q } [some a0] H) : sp_look_at_pace K [a0] H Q E := ⟨rfl, h⟩
def t_room_needed (K : PySem.W.Frag) (E : XK) : TS :=
 (tSeq (tIfS (tOr (tTest (tOp oLt (tVar 0) (tC (.int 0)))) (tTest (tOp oGt (tVar 0) (tC (.int 400))))) (tRz (He.ga K "BadCount") (WD E)) tNext)
 (tSeq (tDrop (tCallS (sp_look_at_pace K) (WE (WD E)) (tCons (tVar 1) tNil)))
 (tRet (tOp oAdd (tVar 0) (tOp oMul (tC (.int 2)) (tOp oAdd (tOp oFdv (tVar 0) (tVar 1)) (tC (.int 16))))))))
abbrev N_room_needed : List Str := ["most", "pace"]
def sp_room_needed (K : PySem.W.Frag) : Sp := fun vs H Q E => vs.length = 2 ∧ t_room_needed K E { nx := fun _ H' => Q .non H', rt := Q } (start N_room_needed vs) H
theorem i_room_needed {K : PySem.W.Frag} {a0 a1 : V} {H : Hp} {Q : VK} {E : XK} (h : t_room_needed K E { nx := fun _ H' => Q .non H', rt := Q } [some a0, some a1] H) : sp_room_needed K [a0, a1] H Q E := ⟨rfl, h⟩
def t_look_at_limits (K : PySem.W.Frag) (E : XK) : TS :=
 (tSeq (tIfS (tAnd (tTest (tOp rNe (tVar 0) (tC (.int 0)))) (tOr (tTest (tOp oLt (tVar 0) (tC (.int 7)))) (tTest (tOp oGt (tVar 0) (tC (.int 64)))))) (tRz (He.ga K "BadCount") (WD E)) tNext)
 (tIfS (tOr (tTest (tOp oLt (tVar 1) (tC (.int 7)))) (tTest (tOp oGt (tVar 1) (tC (.int 400))))) (tRz (He.ga K "BadCount") (WD E)) tNext))
abbrev N_look_at_limits : List Str := ["young", "limit"]
def sp_look_at_limits (K : PySem.W.Frag) : Sp := fun vs H Q E => vs.length = 2 ∧ t_look_at_limits K E { nx := fun _ H' => Q .non H', rt := Q } (start N_look_at_limits vs) H
theorem i_look_at_limits {K : PySem.W.Frag} {a0 a1 : V} {H : Hp} {Q : VK} {E : XK} (h : t_look_at_limits K E { nx := fun _ H' => Q .non H', rt := Q } [some a0, some a1] H) : sp_look_at_limits K [a0, a1] H Q E := ⟨rfl, h⟩
def t_IdealHeap___init__ (K : PySem.W.Frag) (E : XK) : TS :=
 (tSeq (tDrop (tCallS (sp_look_at_limits K) (WE (WD E)) (tCons (tVar 1) (tCons (tVar 2) tNil))))
 (tSeq (sFd [He.ga K "IdealHeap"] (tVar 0) (tVar 1) "room")
 (tSeq (sFd [He.ga K "IdealHeap"] (tVar 0) (tVar 2) "limit")
 (tSeq (sFd [He.ga K "IdealHeap"] (tVar 0) (tLc (iRng1 (tCons (tC (.int 8)) tNil)) (gName 3) tYes (tC .non) [3]) "in_hands")
 (tSeq (sFd [He.ga K "IdealHeap"] (tVar 0) (tLc (iRng1 (tCons (tC (.int 8)) tNil)) (gName 4) tYes (tC .non) [4]) "naming")
 (tSeq (sFd [He.ga K "IdealHeap"] (tVar 0) tDNewK "kept")
 (tSeq (sFd [He.ga K "IdealHeap"] (tVar 0) (tC (.int 0)) "count")
 (tSeq (sFd [He.ga K "IdealHeap"] (tVar 0) (tC .non) "going")
 (sFd [He.ga K "IdealHeap"] (tVar 0) (tLst tNil) "spoken")))))))))
abbrev N_IdealHeap___init__ : List Str := ["self", "young", "limit", "hand", "name"]
def sp_IdealHeap___init__ (K : PySem.W.Frag) : Sp := fun vs H Q E => vs.length = 3 ∧ t_IdealHeap___init__ K E { nx := fun _ H' => Q .non H', rt := Q } (start N_IdealHeap___init__ vs) H
theorem i_IdealHeap___init__ {K : PySem.W.Frag} {a0 a1 a2 : V} {H : Hp} {Q : VK} {E : XK} (h : t_IdealHeap___init__ K E { nx := fun _ H' => Q .non H', rt := Q } [some a0, some a1, some a2, none, none] H) : sp_IdealHeap___init__ K [a0, a1, a2] H Q E := ⟨rfl, h⟩
def t_Running___init__ (K : PySem.W.Frag) (E : XK) : TS :=
 (tSeq (sFd [He.ga K "Running"] (tVar 0) (tCB (cTupleOf K) (tCons (tVar 1) tNil)) "program")
 (tSeq (sFd [He.ga K "Running"] (tVar 0) (tVar 2) "hall")
 (tSeq (sFd [He.ga K "Running"] (tVar 0) (tCallS (sp_marks_in K) (WE (WD E)) (tCons (tFd [He.ga K "Running"] "program" (tVar 0)) tNil)) "places")
 (tSeq (sFd [He.ga K "Running"] (tVar 0) (tC (.int 0)) "spot")
 (tSeq (sFd [He.ga K "Running"] (tVar 0) (tC (.int 0)) "rows_done")
 (tSeq (sFd [He.ga K "Running"] (tVar 0) (tLst tNil) "lines")
 (sFd [He.ga K "Running"] (tVar 0) (tC .non) "broken")))))))
abbrev N_Running___init__ : List Str := ["self", "program", "hall"]
def sp_Running___init__ (K : PySem.W.Frag) : Sp := fun vs H Q E => vs.length = 3 ∧ t_Running___init__ K E { nx := fun _ H' => Q .non H', rt := Q } (start N_Running___init__ vs) H
theorem i_Running___init__ {K : PySem.W.Frag} {a0 a1 a2 : V} {H : Hp} {Q : VK} {E : XK} (h : t_Running___init__ K E { nx := fun _ H' => Q .non H', rt := Q } [some a0, some a1, some a2] H) : sp_Running___init__ K [a0, a1, a2] H Q E := ⟨rfl, h⟩
def t_Running_at (K : PySem.W.Frag) (E : XK) : TS :=
 (tSeq (tIfS (tOr (tTest (tOp oNotN (tFd [He.ga K "Running"] "broken" (tVar 0)) (tC .non))) (tTest (tOp oGe (tFd [He.ga K "Running"] "spot" (tVar 0)) (tCB (cLenSeq K) (tCons (tFd [He.ga K "Running"] "program" (tVar 0)) tNil))))) (tRet (tC .non)) tNext)
 (tRet (tFd [He.ga K "Running"] "spot" (tVar 0))))
abbrev N_Running_at : List Str := ["self"]
def sp_Running_at (K : PySem.W.Frag) : Sp := fun vs H Q E => vs.length = 1 ∧ t_Running_at K E { nx := fun _ H' => Q .non H', rt := Q } (start N_Running_at vs) H
theorem i_Running_at {K : PySem.W.Frag} {a0 : V} {H : Hp} {Q : VK} {E : XK} (h : t_Running_at K E { nx := fun _ H' => Q .non H', rt := Q } [some a0] H) : sp_Running_at K [a0] H Q E := ⟨rfl, h⟩
def t_Running_steps (K : PySem.W.Frag) (E : XK) : TS :=
 (tRet (tFd [He.ga K "Running"] "rows_done" (tVar 0)))
abbrev N_Running_steps : List Str := ["self"]
def sp_Running_steps (K : PySem.W.Frag) : Sp := fun vs H Q E => vs.length = 1 ∧ t_Running_steps K E { nx := fun _ H' => Q .non H', rt := Q } (start N_Running_steps vs) H
theorem i_Running_steps {K : PySem.W.Frag} {a0 : V} {H : Hp} {Q : VK} {E : XK} (h : t_Running_steps K E { nx := fun _ H' => Q .non H', rt := Q } [some a0] H) : sp_Running_steps K [a0] H Q E := ⟨rfl, h⟩
def t_kind_of (K : PySem.W.Frag) (E : XK) : TS :=
 (tSeq (tIfS (tTest (tOp oIsN (tVar 0) (tC .non))) (tRet (tC (.str "none"))) tNext)
 (tRet (tOp (rIxT K) (tVar 0) (tC (.int 0)))))
abbrev N_kind_of : List Str := ["value"]
def sp_kind_of (K : PySem.W.Frag) : Sp := fun vs H Q E => vs.length = 1 ∧ t_kind_of K E { nx := fun _ H' => Q .non H', rt := Q } (start N_kind_of vs) H
theorem i_kind_of {K : PySem.W.Frag} {a0 : V} {H : Hp} {Q : VK} {E : XK} (h : t_kind_of K E { nx := fun _ H' => Q .non H', rt := Q } [some a0] H) : sp_kind_of K [a0] H Q E := ⟨rfl, h⟩
def t_thing_of (K : PySem.W.Frag) (E : XK) : TS :=
 (tSeq (tIfS (tTest (tOp rEq (tCallS (sp_kind_of K) (WE (WD E)) (tCons (tVar 0) tNil)) (tC (.str "thing")))) (tRet (tOp (rIxT K) (tVar 0) (tC (.int 1)))) tNext)
 (tRet (tC .non)))
abbrev N_thing_of : List Str := ["value"]
def sp_thing_of (K : PySem.W.Frag) : Sp := fun vs H Q E => vs.length = 1 ∧ t_thing_of K E { nx := fun _ H' => Q .non H', rt := Q } (start N_thing_of vs) H
theorem i_thing_of {K : PySem.W.Frag} {a0 : V} {H : Hp} {Q : VK} {E : XK} (h : t_thing_of K E { nx := fun _ H' => Q .non H', rt := Q } [some a0] H) : sp_thing_of K [a0] H Q E := ⟨rfl, h⟩
def t_things_of (K : PySem.W.Frag) (E : XK) : TS :=
 (tSeq (tAsg tDNewK (gName 1))
 (tSeq (tFor (iList K (tVar 0)) (gName 2) (tSeq (tAsg (tCallS (sp_thing_of K) (WE (WD E)) (tCons (tVar 2) tNil)) (gName 3))
 (tIfS (tTest (tOp oNotN (tVar 3) (tC .non))) (sDPut (tVar 1) (tVar 3) (tC (.bl true))) tNext)))
 (tRet (tCB cListDk (tCons (tVar 1) tNil)))))
abbrev N_things_of : List Str := ["values", "found", "value", "thing"]
def sp_things_of (K : PySem.W.Frag) : Sp := fun vs H Q E => vs.length = 1 ∧ t_things_of K E { nx := fun _ H' => Q .non H', rt := Q } (start N_things_of vs) H
theorem i_things_of {K : PySem.W.Frag} {a0 : V} {H : Hp} {Q : VK} {E : XK} (h : t_things_of K E { nx := fun _ H' => Q .non H', rt := Q } [some a0, none, none, none] H) : sp_things_of K [a0] H Q E := ⟨rfl, h⟩
def t_led_within (K : PySem.W.Frag) (E : XK) : TS :=
 (tSeq (tAsg tDNewK (gName 3))
 (tSeq (tAsg (tLc (iList K (tVar 1)) (gName 5) (tB (tDIn (tVar 5) (tVar 2))) (tVar 5) [5]) (gName 4))
 (tSeq (tWhile (tTru K (tVar 4)) (tSeq (tAsg (tBM0 K "list" rPop (tVar 4)) (gName 5))
 (tIfS (tB (tDNotIn (tVar 5) (tVar 3))) (tSeq (sDPut (tVar 3) (tVar 5) (tC (.bl true)))
 (tDrop (tBM K "list" rExtend (tVar 4) (tCons (tLc (iList K (tCallS (sp_things_of K) (WE (WD E)) (tCons (tFd [He.ga K "IdealThing"] "inside" (tDGet (tVar 0) (tVar 5))) tNil))) (gName 6) (tB (tDIn (tVar 6) (tVar 2))) (tVar 6) [6]) tNil)))) tNext)))
 (tRet (tVar 3)))))
abbrev N_led_within : List Str := ["held", "starts", "some", "found", "left", "thing", "other"]
def sp_led_within (K : PySem.W.Frag) : Sp := fun vs H Q E => vs.length = 3 ∧ t_led_within K E { nx := fun _ H' => Q .non H', rt := Q } (start N_led_within vs) H
theorem i_led_within {K : PySem.W.Frag} {a0 a1 a2 : V} {H : Hp} {Q : VK} {E : XK} (h : t_led_within K E { nx := fun _ H' => Q .non H', rt := Q } [some a0, some a1, some a2, none, none, none, none] H) : sp_led_within K [a0, a1, a2] H Q E := ⟨rfl, h⟩
def t_young_things (K : PySem.W.Frag) (E : XK) : TS :=
 (tSeq (tAsg tDNewK (gName 1))
 (tSeq (tLock2 (tFor (iKeys (tVar 0)) (gName 2) (tIfS (tNot (tB (tFd [He.ga K "IdealThing"] "aged" (tDGet (tVar 0) (tVar 2))))) (sDPut (tVar 1) (tVar 2) (tC (.bl true))) tNext)))
 (tRet (tVar 1))))
abbrev N_young_things : List Str := ["held", "some", "thing"]
def sp_young_things (K : PySem.W.Frag) : Sp := fun vs H Q E => vs.length = 1 ∧ t_young_things K E { nx := fun _ H' => Q .non H', rt := Q } (start N_young_things vs) H
theorem i_young_things {K : PySem.W.Frag} {a0 : V} {H : Hp} {Q : VK} {E : XK} (h : t_young_things K E { nx := fun _ H' => Q .non H', rt := Q } [some a0, none, none] H) : sp_young_things K [a0] H Q E := ⟨rfl, h⟩
def t_young_kept (K : PySem.W.Frag) (E : XK) : TS :=
 (tSeq (tAsg (tCallS (sp_things_of K) (WE (WD E)) (tCons (tVar 1) tNil)) (gName 2))
 (tSeq (tLock2 (tFor (iKeys (tVar 0)) (gName 3) (tIfS (tB (tFd [He.ga K "IdealThing"] "aged" (tDGet (tVar 0) (tVar 3)))) (tDrop (tBM K "list" rExtend (tVar 2) (tCons (tCallS (sp_things_of K) (WE (WD E)) (tCons (tFd [He.ga K "IdealThing"] "inside" (tDGet (tVar 0) (tVar 3))) tNil)) tNil))) tNext)))
 (tRet (tCallS (sp_led_within K) (WE (WD E)) (tCons (tVar 0) (tCons (tVar 2) (tCons (tCallS (sp_young_things K) (WE (WD E)) (tCons (tVar 0) tNil)) tNil)))))))
abbrev N_young_kept : List Str := ["held", "hands", "starts", "thing"]
def sp_young_kept (K : PySem.W.Frag) : Sp := fun vs H Q E => vs.length = 2 ∧ t_young_kept K E { nx := fun _ H' => Q .non H', rt := Q } (start N_young_kept vs) H
theorem i_young_kept {K : PySem.W.Frag} {a0 a1 : V} {H : Hp} {Q : VK} {E : XK} (h : t_young_kept K E { nx := fun _ H' => Q .non H', rt := Q } [some a0, some a1, none, none] H) : sp_young_kept K [a0, a1] H Q E := ⟨rfl, h⟩
def t_IdealHeap_settle (K : PySem.W.Frag) (E : XK) : TS :=
 (tSeq (tFor (iList K (tCB (rSortedI K) (tCons (tVar 1) tNil))) (gName 2) (tSeq (tIfS (tTest (tOp oNotN (tFd [He.ga K "IdealThing"] "last_word" (tDGet (tFd [He.ga K "IdealHeap"] "kept" (tVar 0)) (tVar 2))) (tC .non))) (tDrop (tBM K "list" rAppend (tFd [He.ga K "IdealHeap"] "spoken" (tVar 0)) (tCons (tFd [He.ga K "IdealThing"] "last_word" (tDGet (tFd [He.ga K "IdealHeap"] "kept" (tVar 0)) (tVar 2))) tNil))) tNext)
 (tDrop (tDPop1 (tFd [He.ga K "IdealHeap"] "kept" (tVar 0)) (tVar 2)))))
 (sFd [He.ga K "IdealHeap"] (tVar 0) (tLc (iList K (tFd [He.ga K "IdealHeap"] "naming" (tVar 0))) (gName 2) tYes (tIf (tTest (tOp (rIn K false) (tVar 2) (tVar 1))) (tC .non) (tVar 2)) [2]) "naming"))
abbrev N_IdealHeap_settle : List Str := ["self", "gone", "thing"]
def sp_IdealHeap_settle (K : PySem.W.Frag) : Sp := fun vs H Q E => vs.length = 2 ∧ t_IdealHeap_settle K E { nx := fun _ H' => Q .non H', rt := Q } (start N_IdealHeap_settle vs) H
theorem i_IdealHeap_settle {K : PySem.W.Frag} {a0 a1 : V} {H : Hp} {Q : VK} {E : XK} (h : t_IdealHeap_settle K E { nx := fun _ H' => Q .non H', rt := Q } [some a0, some a1, none] H) : sp_IdealHeap_settle K [a0, a1] H Q E := ⟨rfl, h⟩
def t_IdealHeap_small (K : PySem.W.Frag) (E : XK) : TS :=
 (tSeq (tAsg (tCallS (sp_young_kept K) (WE (WD E)) (tCons (tFd [He.ga K "IdealHeap"] "kept" (tVar 0)) (tCons (tFd [He.ga K "IdealHeap"] "in_hands" (tVar 0)) tNil))) (gName 1))
 (tSeq (tDrop (tMU [(He.ga K "IdealHeap", He.ma K (He.ga K "IdealHeap") "settle", sp_IdealHeap_settle K)] "settle" (WD E) (tVar 0) (tCons (tLc (iKeysL (tCallS (sp_young_things K) (WE (WD E)) (tCons (tFd [He.ga K "IdealHeap"] "kept" (tVar 0)) tNil))) (gName 2) (tB (tDNotIn (tVar 2) (tVar 1))) (tVar 2) [2]) tNil)))
 (tLock2 (tFor (iKeys (tVar 1)) (gName 2) (sFd [He.ga K "IdealThing"] (tDGet (tFd [He.ga K "IdealHeap"] "kept" (tVar 0)) (tVar 2)) (tC (.bl true)) "aged")))))
abbrev N_IdealHeap_small : List Str := ["self", "stay", "thing"]
def sp_IdealHeap_small (K : PySem.W.Frag) : Sp := fun vs H Q E => vs.length = 1 ∧ t_IdealHeap_small K E { nx := fun _ H' => Q .non H', rt := Q } (start N_IdealHeap_small vs) H
theorem i_IdealHeap_small {K : PySem.W.Frag} {a0 : V} {H : Hp} {Q : VK} {E : XK} (h : t_IdealHeap_small K E { nx := fun _ H' => Q .non H', rt := Q } [some a0, none, none] H) : sp_IdealHeap_small K [a0] H Q E := ⟨rfl, h⟩
def t_IdealHeap_begin (K : PySem.W.Frag) (E : XK) : TS :=
 (tSeq (tIfS (tTest (tOp oNotN (tFd [He.ga K "IdealHeap"] "going" (tVar 0)) (tC .non))) (tRz (He.ga K "RoundOn") (WD E)) tNext)
 (tSeq (tDrop (tMU [(He.ga K "IdealHeap", He.ma K (He.ga K "IdealHeap") "small", sp_IdealHeap_small K)] "small" (WD E) (tVar 0) tNil))
 (tSeq (tAsg (tCallS (sp_led_within K) (WE (WD E)) (tCons (tFd [He.ga K "IdealHeap"] "kept" (tVar 0)) (tCons (tCallS (sp_things_of K) (WE (WD E)) (tCons (tFd [He.ga K "IdealHeap"] "in_hands" (tVar 0)) tNil)) (tCons (tFd [He.ga K "IdealHeap"] "kept" (tVar 0)) tNil)))) (gName 1))
 (tSeq (sFd [He.ga K "IdealHeap"] (tVar 0) tDNewK "going")
 (tLock2 (tFor (iKeys (tFd [He.ga K "IdealHeap"] "kept" (tVar 0))) (gName 2) (tIfS (tB (tDNotIn (tVar 2) (tVar 1))) (sDPut (tFd [He.ga K "IdealHeap"] "going" (tVar 0)) (tVar 2) (tC (.bl true))) tNext)))))))
abbrev N_IdealHeap_begin : List Str := ["self", "reached", "thing"]
def sp_IdealHeap_begin (K : PySem.W.Frag) : Sp := fun vs H Q E => vs.length = 1 ∧ t_IdealHeap_begin K E { nx := fun _ H' => Q .non H', rt := Q } (start N_IdealHeap_begin vs) H
theorem i_IdealHeap_begin {K : PySem.W.Frag} {a0 : V} {H : Hp} {Q : VK} {E : XK} (h : t_IdealHeap_begin K E { nx := fun _ H' => Q .non H', rt := Q } [some a0, none, none] H) : sp_IdealHeap_begin K [a0] H Q E := ⟨rfl, h⟩
def t_IdealHeap_end (K : PySem.W.Frag) (E : XK) : TS :=
 (tSeq (tIfS (tTest (tOp oIsN (tFd [He.ga K "IdealHeap"] "going" (tVar 0)) (tC .non))) (tRz (He.ga K "NoRound") (WD E)) tNext)
 (tSeq (tAsg (tCB cListDk (tCons (tFd [He.ga K "IdealHeap"] "going" (tVar 0)) tNil)) (gName 1))
 (tSeq (sFd [He.ga K "IdealHeap"] (tVar 0) (tC .non) "going")
 (tDrop (tMU [(He.ga K "IdealHeap", He.ma K (He.ga K "IdealHeap") "settle", sp_IdealHeap_settle K)] "settle" (WD E) (tVar 0) (tCons (tVar 1) tNil))))))
abbrev N_IdealHeap_end : List Str := ["self", "gone"]
def sp_IdealHeap_end (K : PySem.W.Frag) : Sp := fun vs H Q E => vs.length = 1 ∧ t_IdealHeap_end K E { nx := fun _ H' => Q .non H', rt := Q } (start N_IdealHeap_end vs) H
theorem i_IdealHeap_end {K : PySem.W.Frag} {a0 : V} {H : Hp} {Q : VK} {E : XK} (h : t_IdealHeap_end K E { nx := fun _ H' => Q .non H', rt := Q } [some a0, none] H) : sp_IdealHeap_end K [a0] H Q E := ⟨rfl, h⟩
def t_look_at_hand (K : PySem.W.Frag) (E : XK) : TS :=
 (tIfS (tOr (tTest (tOp oLt (tVar 0) (tC (.int 0)))) (tTest (tOp oGe (tVar 0) (tC (.int 8))))) (tRz (He.ga K "BadHand") (WD E)) tNext)
abbrev N_look_at_hand : List Str := ["h"]
def sp_look_at_hand (K : PySem.W.Frag) : Sp := fun vs H Q E => vs.length = 1 ∧ t_look_at_hand K E { nx := fun _ H' => Q .non H', rt := Q } (start N_look_at_hand vs) H
theorem i_look_at_hand {K : PySem.W.Frag} {a0 : V} {H : Hp} {Q : VK} {E : XK} (h : t_look_at_hand K E { nx := fun _ H' => Q .non H', rt := Q } [some a0] H) : sp_look_at_hand K [a0] H Q E := ⟨rfl, h⟩
def t_IdealHeap_kind (K : PySem.W.Frag) (E : XK) : TS :=
 (tSeq (tDrop (tCallS (sp_look_at_hand K) (WE (WD E)) (tCons (tVar 1) tNil)))
 (tRet (tCallS (sp_kind_of K) (WE (WD E)) (tCons (tOp (rIxL K) (tFd [He.ga K "IdealHeap"] "in_hands" (tVar 0)) (tVar 1)) tNil))))
abbrev N_IdealHeap_kind : List Str := ["self", "h"]
def sp_IdealHeap_kind (K : PySem.W.Frag) : Sp := fun vs H Q E => vs.length = 2 ∧ t_IdealHeap_kind K E { nx := fun _ H' => Q .non H', rt := Q } (start N_IdealHeap_kind vs) H
theorem i_IdealHeap_kind {K : PySem.W.Frag} {a0 a1 : V} {H : Hp} {Q : VK} {E : XK} (h : t_IdealHeap_kind K E { nx := fun _ H' => Q .non H', rt := Q } [some a0, some a1] H) : sp_IdealHeap_kind K [a0, a1] H Q E := ⟨rfl, h⟩
def t_IdealHeap_value (K : PySem.W.Frag) (E : XK) : TS :=
 (tSeq (tDrop (tCallS (sp_look_at_hand K) (WE (WD E)) (tCons (tVar 1) tNil)))
 (tSeq (tIfS (tTest (tOp rNe (tCallS (sp_kind_of K) (WE (WD E)) (tCons (tOp (rIxL K) (tFd [He.ga K "IdealHeap"] "in_hands" (tVar 0)) (tVar 1)) tNil)) (tC (.str "number")))) (tRz (He.ga K "BadHand") (WD E)) tNext)
 (tRet (tOp (rIxT K) (tOp (rIxL K) (tFd [He.ga K "IdealHeap"] "in_hands" (tVar 0)) (tVar 1)) (tC (.int 1))))))
abbrev N_IdealHeap_value : List Str := ["self", "h"]
def sp_IdealHeap_value (K : PySem.W.Frag) : Sp := fun vs H Q E => vs.length = 2 ∧ t_IdealHeap_value K E { nx := fun _ H' => Q .non H', rt := Q } (start N_IdealHeap_value vs) H
theorem i_IdealHeap_value {K : PySem.W.Frag} {a0 a1 : V} {H : Hp} {Q : VK} {E : XK} (h : t_IdealHeap_value K E { nx := fun _ H' => Q .non H', rt := Q } [some a0, some a1] H) : sp_IdealHeap_value K [a0, a1] H Q E := ⟨rfl, h⟩
def t_IdealHeap_thing_in (K : PySem.W.Frag) (E : XK) : TS :=
 (tSeq (tDrop (tCallS (sp_look_at_hand K) (WE (WD E)) (tCons (tVar 1) tNil)))
 (tSeq (tAsg (tCallS (sp_thing_of K) (WE (WD E)) (tCons (tOp (rIxL K) (tFd [He.ga K "IdealHeap"] "in_hands" (tVar 0)) (tVar 1)) tNil)) (gName 2))
 (tSeq (tIfS (tTest (tOp oIsN (tVar 2) (tC .non))) (tRz (He.ga K "BadHand") (WD E)) tNext)
 (tRet (tVar 2)))))
abbrev N_IdealHeap_thing_in : List Str := ["self", "h", "thing"]
def sp_IdealHeap_thing_in (K : PySem.W.Frag) : Sp := fun vs H Q E => vs.length = 2 ∧ t_IdealHeap_thing_in K E { nx := fun _ H' => Q .non H', rt := Q } (start N_IdealHeap_thing_in vs) H
theorem i_IdealHeap_thing_in {K : PySem.W.Frag} {a0 a1 : V} {H : Hp} {Q : VK} {E : XK} (h : t_IdealHeap_thing_in K E { nx := fun _ H' => Q .non H', rt := Q } [some a0, some a1, none] H) : sp_IdealHeap_thing_in K [a0, a1] H Q E := ⟨rfl, h⟩
def t_IdealHeap_fields (K : PySem.W.Frag) (E : XK) : TS :=
 (tRet (tCB (cLenSeq K) (tCons (tFd [He.ga K "IdealThing"] "inside" (tDGet (tFd [He.ga K "IdealHeap"] "kept" (tVar 0)) (tMU [(He.ga K "IdealHeap", He.ma K (He.ga K "IdealHeap") "thing_in", sp_IdealHeap_thing_in K)] "thing_in" (WD E) (tVar 0) (tCons (tVar 1) tNil)))) tNil)))
abbrev N_IdealHeap_fields : List Str := ["self", "h"]
def sp_IdealHeap_fields (K : PySem.W.Frag) : Sp := fun vs H Q E => vs.length = 2 ∧ t_IdealHeap_fields K E { nx := fun _ H' => Q .non H', rt := Q } (start N_IdealHeap_fields vs) H
theorem i_IdealHeap_fields {K : PySem.W.Frag} {a0 a1 : V} {H : Hp} {Q : VK} {E : XK} (h : t_IdealHeap_fields K E { nx := fun _ H' => Q .non H', rt := Q } [some a0, some a1] H) : sp_IdealHeap_fields K [a0, a1] H Q E := ⟨rfl, h⟩
def t_said_of (K : PySem.W.Frag) (E : XK) : TS :=
 (tSeq (tAsg (tMU [(He.ga K "IdealHeap", He.ma K (He.ga K "IdealHeap") "kind", sp_IdealHeap_kind K)] "kind" (WD E) (tVar 0) (tCons (tVar 1) tNil)) (gName 2))
 (tSeq (tIfS (tTest (tOp rEq (tVar 2) (tC (.str "number")))) (tRet (tTup (tCons (tC (.str "number")) (tCons (tMU [(He.ga K "IdealHeap", He.ma K (He.ga K "IdealHeap") "value", sp_IdealHeap_value K)] "value" (WD E) (tVar 0) (tCons (tVar 1) tNil)) tNil)))) tNext)
 (tSeq (tIfS (tTest (tOp rEq (tVar 2) (tC (.str "thing")))) (tRet (tTup (tCons (tC (.str "thing")) (tCons (tMU [(He.ga K "IdealHeap", He.ma K (He.ga K "IdealHeap") "fields", sp_IdealHeap_fields K)] "fields" (WD E) (tVar 0) (tCons (tVar 1) tNil)) tNil)))) tNext)
 (tRet (tTup (tCons (tC (.str "none")) tNil))))))
abbrev N_said_of : List Str := ["hall", "h", "kind"]
def sp_said_of (K : PySem.W.Frag) : Sp := fun vs H Q E => vs.length = 2 ∧ t_said_of K E { nx := fun _ H' => Q .non H', rt := Q } (start N_said_of vs) H
theorem i_said_of {K : PySem.W.Frag} {a0 a1 : V} {H : Hp} {Q : VK} {E : XK} (h : t_said_of K E { nx := fun _ H' => Q .non H', rt := Q } [some a0, some a1, none] H) : sp_said_of K [a0, a1] H Q E := ⟨rfl, h⟩
def t_IdealHeap_same (K : PySem.W.Frag) (E : XK) : TS :=
 (tSeq (tDrop (tCallS (sp_look_at_hand K) (WE (WD E)) (tCons (tVar 1) tNil)))
 (tSeq (tDrop (tCallS (sp_look_at_hand K) (WE (WD E)) (tCons (tVar 2) tNil)))
 (tRet (tOp (rEqU K) (tOp (rIxL K) (tFd [He.ga K "IdealHeap"] "in_hands" (tVar 0)) (tVar 1)) (tOp (rIxL K) (tFd [He.ga K "IdealHeap"] "in_hands" (tVar 0)) (tVar 2))))))
abbrev N_IdealHeap_same : List Str := ["self", "h", "g"]
def sp_IdealHeap_same (K : PySem.W.Frag) : Sp := fun vs H Q E => vs.length = 3 ∧ t_IdealHeap_same K E { nx := fun _ H' => Q .non H', rt := Q } (start N_IdealHeap_same vs) H
theorem i_IdealHeap_same {K : PySem.W.Frag} {a0 a1 a2 : V} {H : Hp} {Q : VK} {E : XK} (h : t_IdealHeap_same K E { nx := fun _ H' => Q .non H', rt := Q } [some a0, some a1, some a2] H) : sp_IdealHeap_same K [a0, a1, a2] H Q E := ⟨rfl, h⟩
def t_goes_on (K : PySem.W.Frag) (E : XK) : TS :=
 (tSeq (tIfS (tTest (tOp rEq (tOp (rIxT K) (tVar 1) (tC (.int 0))) (tC (.str "same")))) (tRet (tMU [(He.ga K "IdealHeap", He.ma K (He.ga K "IdealHeap") "same", sp_IdealHeap_same K)] "same" (WD E) (tVar 0) (tCons (tOp (rIxT K) (tVar 1) (tC (.int 1))) (tCons (tOp (rIxT K) (tVar 1) (tC (.int 2))) tNil)))) tNext)
 (tSeq (tIfS (tTest (tOp rEq (tOp (rIxT K) (tVar 1) (tC (.int 0))) (tC (.str "below")))) (tRet (tOp oLt (tMU [(He.ga K "IdealHeap", He.ma K (He.ga K "IdealHeap") "value", sp_IdealHeap_value K)] "value" (WD E) (tVar 0) (tCons (tOp (rIxT K) (tVar 1) (tC (.int 1))) tNil)) (tMU [(He.ga K "IdealHeap", He.ma K (He.ga K "IdealHeap") "value", sp_IdealHeap_value K)] "value" (WD E) (tVar 0) (tCons (tOp (rIxT K) (tVar 1) (tC (.int 2))) tNil)))) tNext)
 (tSeq (tIfS (tTest (tOp rEq (tOp (rIxT K) (tVar 1) (tC (.int 0))) (tC (.str "thing")))) (tRet (tOp rEq (tMU [(He.ga K "IdealHeap", He.ma K (He.ga K "IdealHeap") "kind", sp_IdealHeap_kind K)] "kind" (WD E) (tVar 0) (tCons (tOp (rIxT K) (tVar 1) (tC (.int 1))) tNil)) (tC (.str "thing")))) tNext)
 (tRet (tC (.bl true))))))
abbrev N_goes_on : List Str := ["hall", "row"]
def sp_goes_on (K : PySem.W.Frag) : Sp := fun vs H Q E => vs.length = 2 ∧ t_goes_on K E { nx := fun _ H' => Q .non H', rt := Q } (start N_goes_on vs) H
theorem i_goes_on {K : PySem.W.Frag} {a0 a1 : V} {H : Hp} {Q : VK} {E : XK} (h : t_goes_on K E { nx := fun _ H' => Q .non H', rt := Q } [some a0, some a1] H) : sp_goes_on K [a0, a1] H Q E := ⟨rfl, h⟩
def t_words_of (K : PySem.W.Frag) (E : XK) : TS :=
 (tSeq (tIfS (tOr (tTest (tOp oLt (tVar 0) (tC (.int 0)))) (tTest (tOp oGt (tVar 0) (tC (.int 6))))) (tRz (He.ga K "BadCount") (WD E)) tNext)
 (tRet (tOp oAdd (tVar 0) (tC (.int 1)))))
abbrev N_words_of : List Str := ["fields"]
def sp_words_of (K : PySem.W.Frag) : Sp := fun vs H Q E => vs.length = 1 ∧ t_words_of K E { nx := fun _ H' => Q .non H', rt := Q } (start N_words_of vs) H
theorem i_words_of {K : PySem.W.Frag} {a0 : V} {H : Hp} {Q : VK} {E : XK} (h : t_words_of K E { nx := fun _ H' => Q .non H', rt := Q } [some a0] H) : sp_words_of K [a0] H Q E := ⟨rfl, h⟩
def t_words_in (K : PySem.W.Frag) (E : XK) : TS :=
 (tRet (tCB (rSum K) (tCons (tLockE2 (tLc (iKeys (tVar 1)) (gName 2) tYes (tCallS (sp_words_of K) (WE W0) (tCons (tCB (cLenSeq K) (tCons (tFd [He.ga K "IdealThing"] "inside" (tDGet (tVar 0) (tVar 2))) tNil)) tNil)) [2])) tNil)))
abbrev N_words_in : List Str := ["held", "some", "thing"]
def sp_words_in (K : PySem.W.Frag) : Sp := fun vs H Q E => vs.length = 2 ∧ t_words_in K E { nx := fun _ H' => Q .non H', rt := Q } (start N_words_in vs) H
theorem i_words_in {K : PySem.W.Frag} {a0 a1 : V} {H : Hp} {Q : VK} {E : XK} (h : t_words_in K E { nx := fun _ H' => Q .non H', rt := Q } [some a0, some a1, none] H) : sp_words_in K [a0, a1] H Q E := ⟨rfl, h⟩
def t_IdealHeap_held (K : PySem.W.Frag) (E : XK) : TS :=
 (tRet (tCallS (sp_words_in K) (WE (WD E)) (tCons (tFd [He.ga K "IdealHeap"] "kept" (tVar 0)) (tCons (tFd [He.ga K "IdealHeap"] "kept" (tVar 0)) tNil))))
abbrev N_IdealHeap_held : List Str := ["self"]
def sp_IdealHeap_held (K : PySem.W.Frag) : Sp := fun vs H Q E => vs.length = 1 ∧ t_IdealHeap_held K E { nx := fun _ H' => Q .non H', rt := Q } (start N_IdealHeap_held vs) H
theorem i_IdealHeap_held {K : PySem.W.Frag} {a0 : V} {H : Hp} {Q : VK} {E : XK} (h : t_IdealHeap_held K E { nx := fun _ H' => Q .non H', rt := Q } [some a0] H) : sp_IdealHeap_held K [a0] H Q E := ⟨rfl, h⟩
def t_IdealThing___init__ (K : PySem.W.Frag) (E : XK) : TS :=
 (tSeq (sFd [He.ga K "IdealThing"] (tVar 0) (tLc (iRng1 (tCons (tVar 1) tNil)) (gName 3) tYes (tC .non) [3]) "inside")
 (tSeq (sFd [He.ga K "IdealThing"] (tVar 0) (tVar 2) "aged")
 (sFd [He.ga K "IdealThing"] (tVar 0) (tC .non) "last_word")))
abbrev N_IdealThing___init__ : List Str := ["self", "fields", "old", "place"]
def sp_IdealThing___init__ (K : PySem.W.Frag) : Sp := fun vs H Q E => vs.length = 3 ∧ t_IdealThing___init__ K E { nx := fun _ H' => Q .non H', rt := Q } (start N_IdealThing___init__ vs) H
theorem i_IdealThing___init__ {K : PySem.W.Frag} {a0 a1 a2 : V} {H : Hp} {Q : VK} {E : XK} (h : t_IdealThing___init__ K E { nx := fun _ H' => Q .non H', rt := Q } [some a0, some a1, some a2, none] H) : sp_IdealThing___init__ K [a0, a1, a2] H Q E := ⟨rfl, h⟩
def t_thing_value (K : PySem.W.Frag) (E : XK) : TS :=
 (tRet (tTup (tCons (tC (.str "thing")) (tCons (tVar 0) tNil))))
abbrev N_thing_value : List Str := ["t"]
def sp_thing_value (K : PySem.W.Frag) : Sp := fun vs H Q E => vs.length = 1 ∧ t_thing_value K E { nx := fun _ H' => Q .non H', rt := Q } (start N_thing_value vs) H
theorem i_thing_value {K : PySem.W.Frag} {a0 : V} {H : Hp} {Q : VK} {E : XK} (h : t_thing_value K E { nx := fun _ H' => Q .non H', rt := Q } [some a0] H) : sp_thing_value K [a0] H Q E := ⟨rfl, h⟩
def t_IdealHeap_make (K : PySem.W.Frag) (E : XK) : TS :=
 (tSeq (tDrop (tCallS (sp_look_at_hand K) (WE (WD E)) (tCons (tVar 1) tNil)))
 (tSeq (tAsg (tCallS (sp_words_of K) (WE (WD E)) (tCons (tVar 2) tNil)) (gName 3))
 (tSeq (tIfS (tAnd (tTest (tOp oGt (tFd [He.ga K "IdealHeap"] "room" (tVar 0)) (tC (.int 0)))) (tTest (tOp oGt (tOp oAdd (tCallS (sp_words_in K) (WE (WD E)) (tCons (tFd [He.ga K "IdealHeap"] "kept" (tVar 0)) (tCons (tCallS (sp_young_things K) (WE (WD E)) (tCons (tFd [He.ga K "IdealHeap"] "kept" (tVar 0)) tNil)) tNil))) (tVar 3)) (tFd [He.ga K "IdealHeap"] "room" (tVar 0))))) (tDrop (tMU [(He.ga K "IdealHeap", He.ma K (He.ga K "IdealHeap") "small", sp_IdealHeap_small K)] "small" (WD E) (tVar 0) tNil)) tNext)
 (tSeq (tIfS (tTest (tOp oGt (tOp oAdd (tMU [(He.ga K "IdealHeap", He.ma K (He.ga K "IdealHeap") "held", sp_IdealHeap_held K)] "held" (WD E) (tVar 0) tNil) (tVar 3)) (tFd [He.ga K "IdealHeap"] "limit" (tVar 0)))) (tRz (He.ga K "NoRoom") (WD E)) tNext)
 (tSeq (sDPut (tFd [He.ga K "IdealHeap"] "kept" (tVar 0)) (tFd [He.ga K "IdealHeap"] "count" (tVar 0)) (tMkS (He.ga K "IdealThing") (sp_IdealThing___init__ K) (WD E) (tCons (tVar 2) (tCons (tOp rEq (tFd [He.ga K "IdealHeap"] "room" (tVar 0)) (tC (.int 0))) tNil))))
 (tSeq (tAsg (tCallS (sp_thing_value K) (WE (WD E)) (tCons (tFd [He.ga K "IdealHeap"] "count" (tVar 0)) tNil)) (gSub (tFd [He.ga K "IdealHeap"] "in_hands" (tVar 0)) (tVar 1) rSetL))
 (sFd [He.ga K "IdealHeap"] (tVar 0) (tOp oAdd (tFd [He.ga K "IdealHeap"] "count" (tVar 0)) (tC (.int 1))) "count")))))))
abbrev N_IdealHeap_make : List Str := ["self", "h", "n", "words"]
def sp_IdealHeap_make (K : PySem.W.Frag) : Sp := fun vs H Q E => vs.length = 3 ∧ t_IdealHeap_make K E { nx := fun _ H' => Q .non H', rt := Q } (start N_IdealHeap_make vs) H
theorem i_IdealHeap_make {K : PySem.W.Frag} {a0 a1 a2 : V} {H : Hp} {Q : VK} {E : XK} (h : t_IdealHeap_make K E { nx := fun _ H' => Q .non H', rt := Q } [some a0, some a1, some a2, none] H) : sp_IdealHeap_make K [a0, a1, a2] H Q E := ⟨rfl, h⟩
def t_IdealHeap_field_due (K : PySem.W.Frag) (E : XK) : TS :=
 (tIfS (tOr (tTest (tOp oLt (tVar 2) (tC (.int 0)))) (tTest (tOp oGe (tVar 2) (tCB (cLenSeq K) (tCons (tFd [He.ga K "IdealThing"] "inside" (tDGet (tFd [He.ga K "IdealHeap"] "kept" (tVar 0)) (tVar 1))) tNil))))) (tRz (He.ga K "BadField") (WD E)) tNext)
abbrev N_IdealHeap_field_due : List Str := ["self", "thing", "k"]
def sp_IdealHeap_field_due (K : PySem.W.Frag) : Sp := fun vs H Q E => vs.length = 3 ∧ t_IdealHeap_field_due K E { nx := fun _ H' => Q .non H', rt := Q } (start N_IdealHeap_field_due vs) H
theorem i_IdealHeap_field_due {K : PySem.W.Frag} {a0 a1 a2 : V} {H : Hp} {Q : VK} {E : XK} (h : t_IdealHeap_field_due K E { nx := fun _ H' => Q .non H', rt := Q } [some a0, some a1, some a2] H) : sp_IdealHeap_field_due K [a0, a1, a2] H Q E := ⟨rfl, h⟩
def t_IdealHeap_load (K : PySem.W.Frag) (E : XK) : TS :=
 (tSeq (tDrop (tCallS (sp_look_at_hand K) (WE (WD E)) (tCons (tVar 1) tNil)))
 (tSeq (tAsg (tMU [(He.ga K "IdealHeap", He.ma K (He.ga K "IdealHeap") "thing_in", sp_IdealHeap_thing_in K)] "thing_in" (WD E) (tVar 0) (tCons (tVar 2) tNil)) (gName 4))
 (tSeq (tDrop (tMU [(He.ga K "IdealHeap", He.ma K (He.ga K "IdealHeap") "field_due", sp_IdealHeap_field_due K)] "field_due" (WD E) (tVar 0) (tCons (tVar 4) (tCons (tVar 3) tNil))))
 (tAsg (tOp (rIxL K) (tFd [He.ga K "IdealThing"] "inside" (tDGet (tFd [He.ga K "IdealHeap"] "kept" (tVar 0)) (tVar 4))) (tVar 3)) (gSub (tFd [He.ga K "IdealHeap"] "in_hands" (tVar 0)) (tVar 1) rSetL)))))
abbrev N_IdealHeap_load : List Str := ["self", "h", "g", "k", "thing"]
def sp_IdealHeap_load (K : PySem.W.Frag) : Sp := fun vs H Q E => vs.length = 4 ∧ t_IdealHeap_load K E { nx := fun _ H' => Q .non H', rt := Q } (start N_IdealHeap_load vs) H
theorem i_IdealHeap_load {K : PySem.W.Frag} {a0 a1 a2 a3 : V} {H : Hp} {Q : VK} {E : XK} (h : t_IdealHeap_load K E { nx := fun _ H' => Q .non H', rt := Q } [some a0, some a1, some a2, some a3, none] H) : sp_IdealHeap_load K [a0, a1, a2, a3] H Q E := ⟨rfl, h⟩
def t_IdealHeap_store (K : PySem.W.Frag) (E : XK) : TS :=
 (tSeq (tAsg (tMU [(He.ga K "IdealHeap", He.ma K (He.ga K "IdealHeap") "thing_in", sp_IdealHeap_thing_in K)] "thing_in" (WD E) (tVar 0) (tCons (tVar 1) tNil)) (gName 4))
 (tSeq (tDrop (tCallS (sp_look_at_hand K) (WE (WD E)) (tCons (tVar 3) tNil)))
 (tSeq (tDrop (tMU [(He.ga K "IdealHeap", He.ma K (He.ga K "IdealHeap") "field_due", sp_IdealHeap_field_due K)] "field_due" (WD E) (tVar 0) (tCons (tVar 4) (tCons (tVar 2) tNil))))
 (tAsg (tOp (rIxL K) (tFd [He.ga K "IdealHeap"] "in_hands" (tVar 0)) (tVar 3)) (gSub (tFd [He.ga K "IdealThing"] "inside" (tDGet (tFd [He.ga K "IdealHeap"] "kept" (tVar 0)) (tVar 4))) (tVar 2) rSetL)))))
abbrev N_IdealHeap_store : List Str := ["self", "g", "k", "h", "thing"]
def sp_IdealHeap_store (K : PySem.W.Frag) : Sp := fun vs H Q E => vs.length = 4 ∧ t_IdealHeap_store K E { nx := fun _ H' => Q .non H', rt := Q } (start N_IdealHeap_store vs) H
theorem i_IdealHeap_store {K : PySem.W.Frag} {a0 a1 a2 a3 : V} {H : Hp} {Q : VK} {E : XK} (h : t_IdealHeap_store K E { nx := fun _ H' => Q .non H', rt := Q } [some a0, some a1, some a2, some a3, none] H) : sp_IdealHeap_store K [a0, a1, a2, a3] H Q E := ⟨rfl, h⟩
def t_IdealHeap_copy (K : PySem.W.Frag) (E : XK) : TS :=
 (tSeq (tDrop (tCallS (sp_look_at_hand K) (WE (WD E)) (tCons (tVar 1) tNil)))
 (tSeq (tDrop (tCallS (sp_look_at_hand K) (WE (WD E)) (tCons (tVar 2) tNil)))
 (tAsg (tOp (rIxL K) (tFd [He.ga K "IdealHeap"] "in_hands" (tVar 0)) (tVar 2)) (gSub (tFd [He.ga K "IdealHeap"] "in_hands" (tVar 0)) (tVar 1) rSetL))))
abbrev N_IdealHeap_copy : List Str := ["self", "h", "g"]
def sp_IdealHeap_copy (K : PySem.W.Frag) : Sp := fun vs H Q E => vs.length = 3 ∧ t_IdealHeap_copy K E { nx := fun _ H' => Q .non H', rt := Q } (start N_IdealHeap_copy vs) H
theorem i_IdealHeap_copy {K : PySem.W.Frag} {a0 a1 a2 : V} {H : Hp} {Q : VK} {E : XK} (h : t_IdealHeap_copy K E { nx := fun _ H' => Q .non H', rt := Q } [some a0, some a1, some a2] H) : sp_IdealHeap_copy K [a0, a1, a2] H Q E := ⟨rfl, h⟩
def t_IdealHeap_drop (K : PySem.W.Frag) (E : XK) : TS :=
 (tSeq (tDrop (tCallS (sp_look_at_hand K) (WE (WD E)) (tCons (tVar 1) tNil)))
 (tAsg (tC .non) (gSub (tFd [He.ga K "IdealHeap"] "in_hands" (tVar 0)) (tVar 1) rSetL)))
abbrev N_IdealHeap_drop : List Str := ["self", "h"]
def sp_IdealHeap_drop (K : PySem.W.Frag) : Sp := fun vs H Q E => vs.length = 2 ∧ t_IdealHeap_drop K E { nx := fun _ H' => Q .non H', rt := Q } (start N_IdealHeap_drop vs) H
theorem i_IdealHeap_drop {K : PySem.W.Frag} {a0 a1 : V} {H : Hp} {Q : VK} {E : XK} (h : t_IdealHeap_drop K E { nx := fun _ H' => Q .non H', rt := Q } [some a0, some a1] H) : sp_IdealHeap_drop K [a0, a1] H Q E := ⟨rfl, h⟩
def t_number_value (K : PySem.W.Frag) (E : XK) : TS :=
 (tSeq (tIfS (tOr (tTest (tOp oLt (tVar 0) (tUn oNeg (tC (.int 1000000000000000000000000000000000000000000000000000000000000))))) (tTest (tOp oGt (tVar 0) (tC (.int 1000000000000000000000000000000000000000000000000000000000000))))) (tRz (He.ga K "BadCount") (WD E)) tNext)
 (tRet (tTup (tCons (tC (.str "number")) (tCons (tVar 0) tNil)))))
abbrev N_number_value : List Str := ["x"]
def sp_number_value (K : PySem.W.Frag) : Sp := fun vs H Q E => vs.length = 1 ∧ t_number_value K E { nx := fun _ H' => Q .non H', rt := Q } (start N_number_value vs) H
theorem i_number_value {K : PySem.W.Frag} {a0 : V} {H : Hp} {Q : VK} {E : XK} (h : t_number_value K E { nx := fun _ H' => Q .non H', rt := Q } [some a0] H) : sp_number_value K [a0] H Q E := ⟨rfl, h⟩
def t_IdealHeap_number (K : PySem.W.Frag) (E : XK) : TS :=
 (tSeq (tDrop (tCallS (sp_look_at_hand K) (WE (WD E)) (tCons (tVar 1) tNil)))
 (tAsg (tCallS (sp_number_value K) (WE (WD E)) (tCons (tVar 2) tNil)) (gSub (tFd [He.ga K "IdealHeap"] "in_hands" (tVar 0)) (tVar 1) rSetL)))
abbrev N_IdealHeap_number : List Str := ["self", "h", "x"]
def sp_IdealHeap_number (K : PySem.W.Frag) : Sp := fun vs H Q E => vs.length = 3 ∧ t_IdealHeap_number K E { nx := fun _ H' => Q .non H', rt := Q } (start N_IdealHeap_number vs) H
theorem i_IdealHeap_number {K : PySem.W.Frag} {a0 a1 a2 : V} {H : Hp} {Q : VK} {E : XK} (h : t_IdealHeap_number K E { nx := fun _ H' => Q .non H', rt := Q } [some a0, some a1, some a2] H) : sp_IdealHeap_number K [a0, a1, a2] H Q E := ⟨rfl, h⟩
def t_look_at_name (K : PySem.W.Frag) (E : XK) : TS :=
 (tIfS (tOr (tTest (tOp oLt (tVar 0) (tC (.int 0)))) (tTest (tOp oGe (tVar 0) (tC (.int 8))))) (tRz (He.ga K "BadName") (WD E)) tNext)
abbrev N_look_at_name : List Str := ["w"]
def sp_look_at_name (K : PySem.W.Frag) : Sp := fun vs H Q E => vs.length = 1 ∧ t_look_at_name K E { nx := fun _ H' => Q .non H', rt := Q } (start N_look_at_name vs) H
theorem i_look_at_name {K : PySem.W.Frag} {a0 : V} {H : Hp} {Q : VK} {E : XK} (h : t_look_at_name K E { nx := fun _ H' => Q .non H', rt := Q } [some a0] H) : sp_look_at_name K [a0] H Q E := ⟨rfl, h⟩
def t_IdealHeap_name (K : PySem.W.Frag) (E : XK) : TS :=
 (tSeq (tAsg (tMU [(He.ga K "IdealHeap", He.ma K (He.ga K "IdealHeap") "thing_in", sp_IdealHeap_thing_in K)] "thing_in" (WD E) (tVar 0) (tCons (tVar 2) tNil)) (gName 3))
 (tSeq (tDrop (tCallS (sp_look_at_name K) (WE (WD E)) (tCons (tVar 1) tNil)))
 (tAsg (tVar 3) (gSub (tFd [He.ga K "IdealHeap"] "naming" (tVar 0)) (tVar 1) rSetL))))
abbrev N_IdealHeap_name : List Str := ["self", "w", "h", "thing"]
def sp_IdealHeap_name (K : PySem.W.Frag) : Sp := fun vs H Q E => vs.length = 3 ∧ t_IdealHeap_name K E { nx := fun _ H' => Q .non H', rt := Q } (start N_IdealHeap_name vs) H
theorem i_IdealHeap_name {K : PySem.W.Frag} {a0 a1 a2 : V} {H : Hp} {Q : VK} {E : XK} (h : t_IdealHeap_name K E { nx := fun _ H' => Q .non H', rt := Q } [some a0, some a1, some a2, none] H) : sp_IdealHeap_name K [a0, a1, a2] H Q E := ⟨rfl, h⟩
def t_IdealHeap_give_back (K : PySem.W.Frag) (E : XK) : TS :=
 (tIfS (tTest (tOp oNotN (tFd [He.ga K "IdealHeap"] "going" (tVar 0)) (tC .non))) (tFor (iKeysL (tCallS (sp_led_within K) (WE (WD E)) (tCons (tFd [He.ga K "IdealHeap"] "kept" (tVar 0)) (tCons (tLst (tCons (tVar 1) tNil)) (tCons (tFd [He.ga K "IdealHeap"] "going" (tVar 0)) tNil))))) (gName 2) (tDrop (tDPop1 (tFd [He.ga K "IdealHeap"] "going" (tVar 0)) (tVar 2)))) tNext)
abbrev N_IdealHeap_give_back : List Str := ["self", "thing", "other"]
def sp_IdealHeap_give_back (K : PySem.W.Frag) : Sp := fun vs H Q E => vs.length = 2 ∧ t_IdealHeap_give_back K E { nx := fun _ H' => Q .non H', rt := Q } (start N_IdealHeap_give_back vs) H
theorem i_IdealHeap_give_back {K : PySem.W.Frag} {a0 a1 : V} {H : Hp} {Q : VK} {E : XK} (h : t_IdealHeap_give_back K E { nx := fun _ H' => Q .non H', rt := Q } [some a0, some a1, none] H) : sp_IdealHeap_give_back K [a0, a1] H Q E := ⟨rfl, h⟩
def t_IdealHeap_read (K : PySem.W.Frag) (E : XK) : TS :=
 (tSeq (tDrop (tCallS (sp_look_at_hand K) (WE (WD E)) (tCons (tVar 1) tNil)))
 (tSeq (tDrop (tCallS (sp_look_at_name K) (WE (WD E)) (tCons (tVar 2) tNil)))
 (tSeq (tAsg (tOp (rIxL K) (tFd [He.ga K "IdealHeap"] "naming" (tVar 0)) (tVar 2)) (gName 3))
 (tSeq (tAsg (tC .non) (gSub (tFd [He.ga K "IdealHeap"] "in_hands" (tVar 0)) (tVar 1) rSetL))
 (tIfS (tTest (tOp oNotN (tVar 3) (tC .non))) (tSeq (tAsg (tCallS (sp_thing_value K) (WE (WD E)) (tCons (tVar 3) tNil)) (gSub (tFd [He.ga K "IdealHeap"] "in_hands" (tVar 0)) (tVar 1) rSetL))
 (tDrop (tMU [(He.ga K "IdealHeap", He.ma K (He.ga K "IdealHeap") "give_back", sp_IdealHeap_give_back K)] "give_back" (WD E) (tVar 0) (tCons (tVar 3) tNil)))) tNext)))))
abbrev N_IdealHeap_read : List Str := ["self", "h", "w", "thing"]
def sp_IdealHeap_read (K : PySem.W.Frag) : Sp := fun vs H Q E => vs.length = 3 ∧ t_IdealHeap_read K E { nx := fun _ H' => Q .non H', rt := Q } (start N_IdealHeap_read vs) H
theorem i_IdealHeap_read {K : PySem.W.Frag} {a0 a1 a2 : V} {H : Hp} {Q : VK} {E : XK} (h : t_IdealHeap_read K E { nx := fun _ H' => Q .non H', rt := Q } [some a0, some a1, some a2, none] H) : sp_IdealHeap_read K [a0, a1, a2] H Q E := ⟨rfl, h⟩
def t_IdealHeap_word (K : PySem.W.Frag) (E : XK) : TS :=
 (tSeq (tAsg (tMU [(He.ga K "IdealHeap", He.ma K (He.ga K "IdealHeap") "thing_in", sp_IdealHeap_thing_in K)] "thing_in" (WD E) (tVar 0) (tCons (tVar 1) tNil)) (gName 3))
 (tSeq (tDrop (tCallS (sp_number_value K) (WE (WD E)) (tCons (tVar 2) tNil)))
 (tSeq (tLock2 (tAsg (tLc (iKeys (tFd [He.ga K "IdealHeap"] "kept" (tVar 0))) (gName 5) (tTest (tOp oNotN (tFd [He.ga K "IdealThing"] "last_word" (tDGet (tFd [He.ga K "IdealHeap"] "kept" (tVar 0)) (tVar 5))) (tC .non))) (tVar 5) [5]) (gName 4)))
 (tSeq (tIfS (tAnd (tTest (tOp oIsN (tFd [He.ga K "IdealThing"] "last_word" (tDGet (tFd [He.ga K "IdealHeap"] "kept" (tVar 0)) (tVar 3))) (tC .non))) (tTest (tOp oGe (tCB (cLenSeq K) (tCons (tVar 4) tNil)) (tC (.int 12))))) (tRz (He.ga K "TooManyWords") (WD E)) tNext)
 (sFd [He.ga K "IdealThing"] (tDGet (tFd [He.ga K "IdealHeap"] "kept" (tVar 0)) (tVar 3)) (tVar 2) "last_word")))))
abbrev N_IdealHeap_word : List Str := ["self", "h", "x", "thing", "bearers", "other"]
def sp_IdealHeap_word (K : PySem.W.Frag) : Sp := fun vs H Q E => vs.length = 3 ∧ t_IdealHeap_word K E { nx := fun _ H' => Q .non H', rt := Q } (start N_IdealHeap_word vs) H
theorem i_IdealHeap_word {K : PySem.W.Frag} {a0 a1 a2 : V} {H : Hp} {Q : VK} {E : XK} (h : t_IdealHeap_word K E { nx := fun _ H' => Q .non H', rt := Q } [some a0, some a1, some a2, none, none, none] H) : sp_IdealHeap_word K [a0, a1, a2] H Q E := ⟨rfl, h⟩
def t_IdealHeap_take (K : PySem.W.Frag) (E : XK) : TS :=
 (tSeq (tIfS (tTest (tOp rEq (tCB (cLenSeq K) (tCons (tFd [He.ga K "IdealHeap"] "spoken" (tVar 0)) tNil)) (tC (.int 0)))) (tRet (tC .non)) tNext)
 (tRet (tBM K "list" rPopAt (tFd [He.ga K "IdealHeap"] "spoken" (tVar 0)) (tCons (tC (.int 0)) tNil))))
abbrev N_IdealHeap_take : List Str := ["self"]
def sp_IdealHeap_take (K : PySem.W.Frag) : Sp := fun vs H Q E => vs.length = 1 ∧ t_IdealHeap_take K E { nx := fun _ H' => Q .non H', rt := Q } (start N_IdealHeap_take vs) H
theorem i_IdealHeap_take {K : PySem.W.Frag} {a0 : V} {H : Hp} {Q : VK} {E : XK} (h : t_IdealHeap_take K E { nx := fun _ H' => Q .non H', rt := Q } [some a0] H) : sp_IdealHeap_take K [a0] H Q E := ⟨rfl, h⟩
def t_do_value (K : PySem.W.Frag) (E : XK) : TS :=
 (tIfS (tTest (tOp rEq (tOp (rIxT K) (tVar 1) (tC (.int 0))) (tC (.str "word")))) (tDrop (tMU [(He.ga K "IdealHeap", He.ma K (He.ga K "IdealHeap") "word", sp_IdealHeap_word K)] "word" (WD E) (tVar 0) (tCons (tOp (rIxT K) (tVar 1) (tC (.int 1))) (tCons (tMU [(He.ga K "IdealHeap", He.ma K (He.ga K "IdealHeap") "value", sp_IdealHeap_value K)] "value" (WD E) (tVar 0) (tCons (tOp (rIxT K) (tVar 1) (tC (.int 2))) tNil)) tNil)))) (tIfS (tTest (tOp rEq (tOp (rIxT K) (tVar 1) (tC (.int 0))) (tC (.str "held")))) (tDrop (tMU [(He.ga K "IdealHeap", He.ma K (He.ga K "IdealHeap") "number", sp_IdealHeap_number K)] "number" (WD E) (tVar 0) (tCons (tOp (rIxT K) (tVar 1) (tC (.int 1))) (tCons (tMU [(He.ga K "IdealHeap", He.ma K (He.ga K "IdealHeap") "held", sp_IdealHeap_held K)] "held" (WD E) (tVar 0) tNil) tNil)))) (tIfS (tTest (tOp rEq (tOp (rIxT K) (tVar 1) (tC (.int 0))) (tC (.str "add")))) (tDrop (tMU [(He.ga K "IdealHeap", He.ma K (He.ga K "IdealHeap") "number", sp_IdealHeap_number K)] "number" (WD E) (tVar 0) (tCons (tOp (rIxT K) (tVar 1) (tC (.int 1))) (tCons (tOp oAdd (tMU [(He.ga K "IdealHeap", He.ma K (He.ga K "IdealHeap") "value", sp_IdealHeap_value K)] "value" (WD E) (tVar 0) (tCons (tOp (rIxT K) (tVar 1) (tC (.int 1))) tNil)) (tMU [(He.ga K "IdealHeap", He.ma K (He.ga K "IdealHeap") "value", sp_IdealHeap_value K)] "value" (WD E) (tVar 0) (tCons (tOp (rIxT K) (tVar 1) (tC (.int 2))) tNil))) tNil)))) (tIfS (tTest (tOp rEq (tOp (rIxT K) (tVar 1) (tC (.int 0))) (tC (.str "less")))) (tDrop (tMU [(He.ga K "IdealHeap", He.ma K (He.ga K "IdealHeap") "number", sp_IdealHeap_number K)] "number" (WD E) (tVar 0) (tCons (tOp (rIxT K) (tVar 1) (tC (.int 1))) (tCons (tOp oSub (tMU [(He.ga K "IdealHeap", He.ma K (He.ga K "IdealHeap") "value", sp_IdealHeap_value K)] "value" (WD E) (tVar 0) (tCons (tOp (rIxT K) (tVar 1) (tC (.int 1))) tNil)) (tMU [(He.ga K "IdealHeap", He.ma K (He.ga K "IdealHeap") "value", sp_IdealHeap_value K)] "value" (WD E) (tVar 0) (tCons (tOp (rIxT K) (tVar 1) (tC (.int 2))) tNil))) tNil)))) (tSeq (tDrop (tMU [(He.ga K "IdealHeap", He.ma K (He.ga K "IdealHeap") "kind", sp_IdealHeap_kind K)] "kind" (WD E) (tVar 0) (tCons (tOp (rIxT K) (tVar 1) (tC (.int 1))) tNil)))
 (tSeq (tAsg (tMU [(He.ga K "IdealHeap", He.ma K (He.ga K "IdealHeap") "take", sp_IdealHeap_take K)] "take" (WD E) (tVar 0) tNil) (gName 2))
 (tIfS (tTest (tOp oIsN (tVar 2) (tC .non))) (tDrop (tMU [(He.ga K "IdealHeap", He.ma K (He.ga K "IdealHeap") "drop", sp_IdealHeap_drop K)] "drop" (WD E) (tVar 0) (tCons (tOp (rIxT K) (tVar 1) (tC (.int 1))) tNil))) (tDrop (tMU [(He.ga K "IdealHeap", He.ma K (He.ga K "IdealHeap") "number", sp_IdealHeap_number K)] "number" (WD E) (tVar 0) (tCons (tOp (rIxT K) (tVar 1) (tC (.int 1))) (tCons (tVar 2) tNil)))))))))))
abbrev N_do_value : List Str := ["hall", "row", "word"]
def sp_do_value (K : PySem.W.Frag) : Sp := fun vs H Q E => vs.length = 2 ∧ t_do_value K E { nx := fun _ H' => Q .non H', rt := Q } (start N_do_value vs) H
theorem i_do_value {K : PySem.W.Frag} {a0 a1 : V} {H : Hp} {Q : VK} {E : XK} (h : t_do_value K E { nx := fun _ H' => Q .non H', rt := Q } [some a0, some a1, none] H) : sp_do_value K [a0, a1] H Q E := ⟨rfl, h⟩
def t_do_plain (K : PySem.W.Frag) (E : XK) : TS :=
 (tIfS (tTest (tOp rEq (tOp (rIxT K) (tVar 1) (tC (.int 0))) (tC (.str "make")))) (tDrop (tMU [(He.ga K "IdealHeap", He.ma K (He.ga K "IdealHeap") "make", sp_IdealHeap_make K)] "make" (WD E) (tVar 0) (tCons (tOp (rIxT K) (tVar 1) (tC (.int 1))) (tCons (tOp (rIxT K) (tVar 1) (tC (.int 2))) tNil)))) (tIfS (tTest (tOp rEq (tOp (rIxT K) (tVar 1) (tC (.int 0))) (tC (.str "load")))) (tDrop (tMU [(He.ga K "IdealHeap", He.ma K (He.ga K "IdealHeap") "load", sp_IdealHeap_load K)] "load" (WD E) (tVar 0) (tCons (tOp (rIxT K) (tVar 1) (tC (.int 1))) (tCons (tOp (rIxT K) (tVar 1) (tC (.int 2))) (tCons (tOp (rIxT K) (tVar 1) (tC (.int 3))) tNil))))) (tIfS (tTest (tOp rEq (tOp (rIxT K) (tVar 1) (tC (.int 0))) (tC (.str "store")))) (tDrop (tMU [(He.ga K "IdealHeap", He.ma K (He.ga K "IdealHeap") "store", sp_IdealHeap_store K)] "store" (WD E) (tVar 0) (tCons (tOp (rIxT K) (tVar 1) (tC (.int 1))) (tCons (tOp (rIxT K) (tVar 1) (tC (.int 2))) (tCons (tOp (rIxT K) (tVar 1) (tC (.int 3))) tNil))))) (tIfS (tTest (tOp rEq (tOp (rIxT K) (tVar 1) (tC (.int 0))) (tC (.str "copy")))) (tDrop (tMU [(He.ga K "IdealHeap", He.ma K (He.ga K "IdealHeap") "copy", sp_IdealHeap_copy K)] "copy" (WD E) (tVar 0) (tCons (tOp (rIxT K) (tVar 1) (tC (.int 1))) (tCons (tOp (rIxT K) (tVar 1) (tC (.int 2))) tNil)))) (tIfS (tTest (tOp rEq (tOp (rIxT K) (tVar 1) (tC (.int 0))) (tC (.str "drop")))) (tDrop (tMU [(He.ga K "IdealHeap", He.ma K (He.ga K "IdealHeap") "drop", sp_IdealHeap_drop K)] "drop" (WD E) (tVar 0) (tCons (tOp (rIxT K) (tVar 1) (tC (.int 1))) tNil))) (tIfS (tTest (tOp rEq (tOp (rIxT K) (tVar 1) (tC (.int 0))) (tC (.str "number")))) (tDrop (tMU [(He.ga K "IdealHeap", He.ma K (He.ga K "IdealHeap") "number", sp_IdealHeap_number K)] "number" (WD E) (tVar 0) (tCons (tOp (rIxT K) (tVar 1) (tC (.int 1))) (tCons (tOp (rIxT K) (tVar 1) (tC (.int 2))) tNil)))) (tIfS (tTest (tOp rEq (tOp (rIxT K) (tVar 1) (tC (.int 0))) (tC (.str "name")))) (tDrop (tMU [(He.ga K "IdealHeap", He.ma K (He.ga K "IdealHeap") "name", sp_IdealHeap_name K)] "name" (WD E) (tVar 0) (tCons (tOp (rIxT K) (tVar 1) (tC (.int 1))) (tCons (tOp (rIxT K) (tVar 1) (tC (.int 2))) tNil)))) (tIfS (tTest (tOp rEq (tOp (rIxT K) (tVar 1) (tC (.int 0))) (tC (.str "read")))) (tDrop (tMU [(He.ga K "IdealHeap", He.ma K (He.ga K "IdealHeap") "read", sp_IdealHeap_read K)] "read" (WD E) (tVar 0) (tCons (tOp (rIxT K) (tVar 1) (tC (.int 1))) (tCons (tOp (rIxT K) (tVar 1) (tC (.int 2))) tNil)))) (tDrop (tCallS (sp_do_value K) (WE (WD E)) (tCons (tVar 0) (tCons (tVar 1) tNil))))))))))))
abbrev N_do_plain : List Str := ["hall", "row"]
def sp_do_plain (K : PySem.W.Frag) : Sp := fun vs H Q E => vs.length = 2 ∧ t_do_plain K E { nx := fun _ H' => Q .non H', rt := Q } (start N_do_plain vs) H
theorem i_do_plain {K : PySem.W.Frag} {a0 a1 : V} {H : Hp} {Q : VK} {E : XK} (h : t_do_plain K E { nx := fun _ H' => Q .non H', rt := Q } [some a0, some a1] H) : sp_do_plain K [a0, a1] H Q E := ⟨rfl, h⟩
def t_Running_do_row (K : PySem.W.Frag) (E : XK) : TS :=
 (tSeq (tAsg (tOp oAdd (tFd [He.ga K "Running"] "spot" (tVar 0)) (tC (.int 1))) (gName 2))
 (tSeq (tIfS (tTest (tOp rEq (tOp (rIxT K) (tVar 1) (tC (.int 0))) (tC (.str "say")))) (tDrop (tBM K "list" rAppend (tFd [He.ga K "Running"] "lines" (tVar 0)) (tCons (tCallS (sp_said_of K) (WE (WD E)) (tCons (tFd [He.ga K "Running"] "hall" (tVar 0)) (tCons (tOp (rIxT K) (tVar 1) (tC (.int 1))) tNil))) tNil))) (tIfS (tTest (tOp rEq (tOp (rIxT K) (tVar 1) (tC (.int 0))) (tC (.str "stop")))) (tAsg (tCB (cLenSeq K) (tCons (tFd [He.ga K "Running"] "program" (tVar 0)) tNil)) (gName 2)) (tIfS (tTest (tOp (rIn K false) (tOp (rIxT K) (tVar 1) (tC (.int 0))) (tTup (tCons (tC (.str "go")) (tCons (tC (.str "same")) (tCons (tC (.str "below")) (tCons (tC (.str "thing")) tNil))))))) (tIfS (tB (tCallS (sp_goes_on K) (WE (WD E)) (tCons (tFd [He.ga K "Running"] "hall" (tVar 0)) (tCons (tVar 1) tNil)))) (tAsg (tDGet (tFd [He.ga K "Running"] "places" (tVar 0)) (tOp (rIxT K) (tVar 1) (tUn oNeg (tC (.int 1))))) (gName 2)) tNext) (tIfS (tTest (tOp rNe (tOp (rIxT K) (tVar 1) (tC (.int 0))) (tC (.str "mark")))) (tDrop (tCallS (sp_do_plain K) (WE (WD E)) (tCons (tFd [He.ga K "Running"] "hall" (tVar 0)) (tCons (tVar 1) tNil)))) tNext))))
 (sFd [He.ga K "Running"] (tVar 0) (tVar 2) "spot")))
abbrev N_Running_do_row : List Str := ["self", "row", "behind"]
def sp_Running_do_row (K : PySem.W.Frag) : Sp := fun vs H Q E => vs.length = 2 ∧ t_Running_do_row K E { nx := fun _ H' => Q .non H', rt := Q } (start N_Running_do_row vs) H
theorem i_Running_do_row {K : PySem.W.Frag} {a0 a1 : V} {H : Hp} {Q : VK} {E : XK} (h : t_Running_do_row K E { nx := fun _ H' => Q .non H', rt := Q } [some a0, some a1, none] H) : sp_Running_do_row K [a0, a1] H Q E := ⟨rfl, h⟩
def t_TooManyWords_called (K : PySem.W.Frag) (E : XK) : TS :=
 (tRet (tC (.str "TooManyWords")))
abbrev N_TooManyWords_called : List Str := ["self"]
def sp_TooManyWords_called (K : PySem.W.Frag) : Sp := fun vs H Q E => vs.length = 1 ∧ t_TooManyWords_called K E { nx := fun _ H' => Q .non H', rt := Q } (start N_TooManyWords_called vs) H
theorem i_TooManyWords_called {K : PySem.W.Frag} {a0 : V} {H : Hp} {Q : VK} {E : XK} (h : t_TooManyWords_called K E { nx := fun _ H' => Q .non H', rt := Q } [some a0] H) : sp_TooManyWords_called K [a0] H Q E := ⟨rfl, h⟩
def t_RoundOn_called (K : PySem.W.Frag) (E : XK) : TS :=
 (tRet (tC (.str "RoundOn")))
abbrev N_RoundOn_called : List Str := ["self"]
def sp_RoundOn_called (K : PySem.W.Frag) : Sp := fun vs H Q E => vs.length = 1 ∧ t_RoundOn_called K E { nx := fun _ H' => Q .non H', rt := Q } (start N_RoundOn_called vs) H
theorem i_RoundOn_called {K : PySem.W.Frag} {a0 : V} {H : Hp} {Q : VK} {E : XK} (h : t_RoundOn_called K E { nx := fun _ H' => Q .non H', rt := Q } [some a0] H) : sp_RoundOn_called K [a0] H Q E := ⟨rfl, h⟩
def t_NoRound_called (K : PySem.W.Frag) (E : XK) : TS :=
 (tRet (tC (.str "NoRound")))
abbrev N_NoRound_called : List Str := ["self"]
def sp_NoRound_called (K : PySem.W.Frag) : Sp := fun vs H Q E => vs.length = 1 ∧ t_NoRound_called K E { nx := fun _ H' => Q .non H', rt := Q } (start N_NoRound_called vs) H
theorem i_NoRound_called {K : PySem.W.Frag} {a0 : V} {H : Hp} {Q : VK} {E : XK} (h : t_NoRound_called K E { nx := fun _ H' => Q .non H', rt := Q } [some a0] H) : sp_NoRound_called K [a0] H Q E := ⟨rfl, h⟩
def t_NoRoom_called (K : PySem.W.Frag) (E : XK) : TS :=
 (tRet (tC (.str "NoRoom")))
abbrev N_NoRoom_called : List Str := ["self"]
def sp_NoRoom_called (K : PySem.W.Frag) : Sp := fun vs H Q E => vs.length = 1 ∧ t_NoRoom_called K E { nx := fun _ H' => Q .non H', rt := Q } (start N_NoRoom_called vs) H
theorem i_NoRoom_called {K : PySem.W.Frag} {a0 : V} {H : Hp} {Q : VK} {E : XK} (h : t_NoRoom_called K E { nx := fun _ H' => Q .non H', rt := Q } [some a0] H) : sp_NoRoom_called K [a0] H Q E := ⟨rfl, h⟩
def t_HeapError_called (K : PySem.W.Frag) (E : XK) : TS :=
 (tRet (tC (.str "HeapError")))
abbrev N_HeapError_called : List Str := ["self"]
def sp_HeapError_called (K : PySem.W.Frag) : Sp := fun vs H Q E => vs.length = 1 ∧ t_HeapError_called K E { nx := fun _ H' => Q .non H', rt := Q } (start N_HeapError_called vs) H
theorem i_HeapError_called {K : PySem.W.Frag} {a0 : V} {H : Hp} {Q : VK} {E : XK} (h : t_HeapError_called K E { nx := fun _ H' => Q .non H', rt := Q } [some a0] H) : sp_HeapError_called K [a0] H Q E := ⟨rfl, h⟩
def t_BadView_called (K : PySem.W.Frag) (E : XK) : TS :=
 (tRet (tC (.str "BadView")))
abbrev N_BadView_called : List Str := ["self"]
def sp_BadView_called (K : PySem.W.Frag) : Sp := fun vs H Q E => vs.length = 1 ∧ t_BadView_called K E { nx := fun _ H' => Q .non H', rt := Q } (start N_BadView_called vs) H
theorem i_BadView_called {K : PySem.W.Frag} {a0 : V} {H : Hp} {Q : VK} {E : XK} (h : t_BadView_called K E { nx := fun _ H' => Q .non H', rt := Q } [some a0] H) : sp_BadView_called K [a0] H Q E := ⟨rfl, h⟩
def t_BadText_called (K : PySem.W.Frag) (E : XK) : TS :=
 (tRet (tC (.str "BadText")))
abbrev N_BadText_called : List Str := ["self"]
def sp_BadText_called (K : PySem.W.Frag) : Sp := fun vs H Q E => vs.length = 1 ∧ t_BadText_called K E { nx := fun _ H' => Q .non H', rt := Q } (start N_BadText_called vs) H
theorem i_BadText_called {K : PySem.W.Frag} {a0 : V} {H : Hp} {Q : VK} {E : XK} (h : t_BadText_called K E { nx := fun _ H' => Q .non H', rt := Q } [some a0] H) : sp_BadText_called K [a0] H Q E := ⟨rfl, h⟩
def t_BadName_called (K : PySem.W.Frag) (E : XK) : TS :=
 (tRet (tC (.str "BadName")))
abbrev N_BadName_called : List Str := ["self"]
def sp_BadName_called (K : PySem.W.Frag) : Sp := fun vs H Q E => vs.length = 1 ∧ t_BadName_called K E { nx := fun _ H' => Q .non H', rt := Q } (start N_BadName_called vs) H
theorem i_BadName_called {K : PySem.W.Frag} {a0 : V} {H : Hp} {Q : VK} {E : XK} (h : t_BadName_called K E { nx := fun _ H' => Q .non H', rt := Q } [some a0] H) : sp_BadName_called K [a0] H Q E := ⟨rfl, h⟩
def t_BadHand_called (K : PySem.W.Frag) (E : XK) : TS :=
 (tRet (tC (.str "BadHand")))
abbrev N_BadHand_called : List Str := ["self"]
def sp_BadHand_called (K : PySem.W.Frag) : Sp := fun vs H Q E => vs.length = 1 ∧ t_BadHand_called K E { nx := fun _ H' => Q .non H', rt := Q } (start N_BadHand_called vs) H
theorem i_BadHand_called {K : PySem.W.Frag} {a0 : V} {H : Hp} {Q : VK} {E : XK} (h : t_BadHand_called K E { nx := fun _ H' => Q .non H', rt := Q } [some a0] H) : sp_BadHand_called K [a0] H Q E := ⟨rfl, h⟩
def t_BadField_called (K : PySem.W.Frag) (E : XK) : TS :=
 (tRet (tC (.str "BadField")))
abbrev N_BadField_called : List Str := ["self"]
def sp_BadField_called (K : PySem.W.Frag) : Sp := fun vs H Q E => vs.length = 1 ∧ t_BadField_called K E { nx := fun _ H' => Q .non H', rt := Q } (start N_BadField_called vs) H
theorem i_BadField_called {K : PySem.W.Frag} {a0 : V} {H : Hp} {Q : VK} {E : XK} (h : t_BadField_called K E { nx := fun _ H' => Q .non H', rt := Q } [some a0] H) : sp_BadField_called K [a0] H Q E := ⟨rfl, h⟩
def t_BadCount_called (K : PySem.W.Frag) (E : XK) : TS :=
 (tRet (tC (.str "BadCount")))
abbrev N_BadCount_called : List Str := ["self"]
def sp_BadCount_called (K : PySem.W.Frag) : Sp := fun vs H Q E => vs.length = 1 ∧ t_BadCount_called K E { nx := fun _ H' => Q .non H', rt := Q } (start N_BadCount_called vs) H
theorem i_BadCount_called {K : PySem.W.Frag} {a0 : V} {H : Hp} {Q : VK} {E : XK} (h : t_BadCount_called K E { nx := fun _ H' => Q .non H', rt := Q } [some a0] H) : sp_BadCount_called K [a0] H Q E := ⟨rfl, h⟩
def t_BadAddress_called (K : PySem.W.Frag) (E : XK) : TS :=
 (tRet (tC (.str "BadAddress")))
abbrev N_BadAddress_called : List Str := ["self"]
def sp_BadAddress_called (K : PySem.W.Frag) : Sp := fun vs H Q E => vs.length = 1 ∧ t_BadAddress_called K E { nx := fun _ H' => Q .non H', rt := Q } (start N_BadAddress_called vs) H
theorem i_BadAddress_called {K : PySem.W.Frag} {a0 : V} {H : Hp} {Q : VK} {E : XK} (h : t_BadAddress_called K E { nx := fun _ H' => Q .non H', rt := Q } [some a0] H) : sp_BadAddress_called K [a0] H Q E := ⟨rfl, h⟩
def t_Running_step (K : PySem.W.Frag) (E : XK) : TS :=
 (tSeq (tIfS (tTest (tOp oIsN (tMU [(He.ga K "Running", He.ma K (He.ga K "Running") "at", sp_Running_at K)] "at" (WD E) (tVar 0) tNil) (tC .non))) (tRet (tC (.bl false))) tNext)
 (tSeq (sFd [He.ga K "Running"] (tVar 0) (tOp oAdd (tFd [He.ga K "Running"] "rows_done" (tVar 0)) (tC (.int 1))) "rows_done")
 (tSeq (tTryT K (.ref (He.ga K "HeapError")) 1 (fun W => (tDrop (tMU [(He.ga K "Running", He.ma K (He.ga K "Running") "do_row", sp_Running_do_row K)] "do_row" W (tVar 0) (tCons (tOp (rIxT K) (tFd [He.ga K "Running"] "program" (tVar 0)) (tFd [He.ga K "Running"] "spot" (tVar 0))) tNil)))) (sFd [He.ga K "Running"] (tVar 0) (tXmC [⟨He.ga K "BadAddress", He.ma K (He.ga K "BadAddress") "called", "BadAddress"⟩, ⟨He.ga K "BadCount", He.ma K (He.ga K "BadCount") "called", "BadCount"⟩, ⟨He.ga K "BadField", He.ma K (He.ga K "BadField") "called", "BadField"⟩, ⟨He.ga K "BadHand", He.ma K (He.ga K "BadHand") "called", "BadHand"⟩, ⟨He.ga K "BadName", He.ma K (He.ga K "BadName") "called", "BadName"⟩, ⟨He.ga K "BadText", He.ma K (He.ga K "BadText") "called", "BadText"⟩, ⟨He.ga K "BadView", He.ma K (He.ga K "BadView") "called", "BadView"⟩, ⟨He.ga K "HeapError", He.ma K (He.ga K "HeapError") "called", "HeapError"⟩, ⟨He.ga K "NoRoom", He.ma K (He.ga K "NoRoom") "called", "NoRoom"⟩, ⟨He.ga K "NoRound", He.ma K (He.ga K "NoRound") "called", "NoRound"⟩, ⟨He.ga K "RoundOn", He.ma K (He.ga K "RoundOn") "called", "RoundOn"⟩, ⟨He.ga K "TooManyWords", He.ma K (He.ga K "TooManyWords") "called", "TooManyWords"⟩] "called" (tVar 1)) "broken") (WD E))
 (tRet (tOp oNotN (tMU [(He.ga K "Running", He.ma K (He.ga K "Running") "at", sp_Running_at K)] "at" (WD E) (tVar 0) tNil) (tC .non))))))
abbrev N_Running_step : List Str := ["self", "e"]
def sp_Running_step (K : PySem.W.Frag) : Sp := fun vs H Q E => vs.length = 1 ∧ t_Running_step K E { nx := fun _ H' => Q .non H', rt := Q } (start N_Running_step vs) H
theorem i_Running_step {K : PySem.W.Frag} {a0 : V} {H : Hp} {Q : VK} {E : XK} (h : t_Running_step K E { nx := fun _ H' => Q .non H', rt := Q } [some a0, none] H) : sp_Running_step K [a0] H Q E := ⟨rfl, h⟩
def t_IdealHeap_things (K : PySem.W.Frag) (E : XK) : TS :=
 (tRet (tCB cSortedDk (tCons (tFd [He.ga K "IdealHeap"] "kept" (tVar 0)) tNil)))
abbrev N_IdealHeap_things : List Str := ["self"]
def sp_IdealHeap_things (K : PySem.W.Frag) : Sp := fun vs H Q E => vs.length = 1 ∧ t_IdealHeap_things K E { nx := fun _ H' => Q .non H', rt := Q } (start N_IdealHeap_things vs) H
theorem i_IdealHeap_things {K : PySem.W.Frag} {a0 : V} {H : Hp} {Q : VK} {E : XK} (h : t_IdealHeap_things K E { nx := fun _ H' => Q .non H', rt := Q } [some a0] H) : sp_IdealHeap_things K [a0] H Q E := ⟨rfl, h⟩
def t_IdealHeap_thing_due (K : PySem.W.Frag) (E : XK) : TS :=
 (tSeq (tIfS (tB (tDNotIn (tVar 1) (tFd [He.ga K "IdealHeap"] "kept" (tVar 0)))) (tRz (He.ga K "BadView") (WD E)) tNext)
 (tRet (tDGet (tFd [He.ga K "IdealHeap"] "kept" (tVar 0)) (tVar 1))))
abbrev N_IdealHeap_thing_due : List Str := ["self", "t"]
def sp_IdealHeap_thing_due (K : PySem.W.Frag) : Sp := fun vs H Q E => vs.length = 2 ∧ t_IdealHeap_thing_due K E { nx := fun _ H' => Q .non H', rt := Q } (start N_IdealHeap_thing_due vs) H
theorem i_IdealHeap_thing_due {K : PySem.W.Frag} {a0 a1 : V} {H : Hp} {Q : VK} {E : XK} (h : t_IdealHeap_thing_due K E { nx := fun _ H' => Q .non H', rt := Q } [some a0, some a1] H) : sp_IdealHeap_thing_due K [a0, a1] H Q E := ⟨rfl, h⟩
def t_IdealHeap_fields_of (K : PySem.W.Frag) (E : XK) : TS :=
 (tRet (tCB (cListOf K) (tCons (tFd [He.ga K "IdealThing"] "inside" (tMU [(He.ga K "IdealHeap", He.ma K (He.ga K "IdealHeap") "thing_due", sp_IdealHeap_thing_due K)] "thing_due" (WD E) (tVar 0) (tCons (tVar 1) tNil))) tNil)))
abbrev N_IdealHeap_fields_of : List Str := ["self", "t"]
def sp_IdealHeap_fields_of (K : PySem.W.Frag) : Sp := fun vs H Q E => vs.length = 2 ∧ t_IdealHeap_fields_of K E { nx := fun _ H' => Q .non H', rt := Q } (start N_IdealHeap_fields_of vs) H
theorem i_IdealHeap_fields_of {K : PySem.W.Frag} {a0 a1 : V} {H : Hp} {Q : VK} {E : XK} (h : t_IdealHeap_fields_of K E { nx := fun _ H' => Q .non H', rt := Q } [some a0, some a1] H) : sp_IdealHeap_fields_of K [a0, a1] H Q E := ⟨rfl, h⟩
def t_thing_in (K : PySem.W.Frag) (E : XK) : TS :=
 (tSeq (tIfS (tTest (tOp rNe (tCallS (sp_kind_of K) (WE (WD E)) (tCons (tVar 0) tNil)) (tC (.str "thing")))) (tRet (tC .non)) tNext)
 (tRet (tOp (rIxT K) (tVar 0) (tC (.int 1)))))
abbrev N_thing_in : List Str := ["value"]
def sp_thing_in (K : PySem.W.Frag) : Sp := fun vs H Q E => vs.length = 1 ∧ t_thing_in K E { nx := fun _ H' => Q .non H', rt := Q } (start N_thing_in vs) H
theorem i_thing_in {K : PySem.W.Frag} {a0 : V} {H : Hp} {Q : VK} {E : XK} (h : t_thing_in K E { nx := fun _ H' => Q .non H', rt := Q } [some a0] H) : sp_thing_in K [a0] H Q E := ⟨rfl, h⟩
def t_IdealHeap_hands (K : PySem.W.Frag) (E : XK) : TS :=
 (tRet (tCB (cListOf K) (tCons (tFd [He.ga K "IdealHeap"] "in_hands" (tVar 0)) tNil)))
abbrev N_IdealHeap_hands : List Str := ["self"]
def sp_IdealHeap_hands (K : PySem.W.Frag) : Sp := fun vs H Q E => vs.length = 1 ∧ t_IdealHeap_hands K E { nx := fun _ H' => Q .non H', rt := Q } (start N_IdealHeap_hands vs) H
theorem i_IdealHeap_hands {K : PySem.W.Frag} {a0 : V} {H : Hp} {Q : VK} {E : XK} (h : t_IdealHeap_hands K E { nx := fun _ H' => Q .non H', rt := Q } [some a0] H) : sp_IdealHeap_hands K [a0] H Q E := ⟨rfl, h⟩
def t_view_of (K : PySem.W.Frag) (E : XK) : TS :=
 (tSeq (tAsg tDNewK (gName 1))
 (tSeq (tFor (iList K (tMU [(He.ga K "IdealHeap", He.ma K (He.ga K "IdealHeap") "things", sp_IdealHeap_things K)] "things" (WD E) (tVar 0) tNil)) (gName 2) (sDPut (tVar 1) (tVar 2) (tLc (iList K (tMU [(He.ga K "IdealHeap", He.ma K (He.ga K "IdealHeap") "fields_of", sp_IdealHeap_fields_of K)] "fields_of" (WD E) (tVar 0) (tCons (tVar 2) tNil))) (gName 3) tYes (tCallS (sp_thing_in K) (WE W0) (tCons (tVar 3) tNil)) [3])))
 (tRet (tTup (tCons (tLc (iList K (tMU [(He.ga K "IdealHeap", He.ma K (He.ga K "IdealHeap") "hands", sp_IdealHeap_hands K)] "hands" (WD E) (tVar 0) tNil)) (gName 3) tYes (tCallS (sp_thing_in K) (WE W0) (tCons (tVar 3) tNil)) [3]) (tCons (tVar 1) tNil))))))
abbrev N_view_of : List Str := ["hall", "fields", "thing", "value"]
def sp_view_of (K : PySem.W.Frag) : Sp := fun vs H Q E => vs.length = 1 ∧ t_view_of K E { nx := fun _ H' => Q .non H', rt := Q } (start N_view_of vs) H
theorem i_view_of {K : PySem.W.Frag} {a0 : V} {H : Hp} {Q : VK} {E : XK} (h : t_view_of K E { nx := fun _ H' => Q .non H', rt := Q } [some a0, none, none, none] H) : sp_view_of K [a0] H Q E := ⟨rfl, h⟩
def t_look_at_told (K : PySem.W.Frag) (E : XK) : TS :=
 (tFor (iList K (tVar 1)) (gName 2) (tIfS (tAnd (tTest (tOp oNotN (tVar 2) (tC .non))) (tB (tDNotIn (tVar 2) (tVar 0)))) (tRz (He.ga K "BadView") (WD E)) tNext))
abbrev N_look_at_told : List Str := ["fields", "told", "thing"]
def sp_look_at_told (K : PySem.W.Frag) : Sp := fun vs H Q E => vs.length = 2 ∧ t_look_at_told K E { nx := fun _ H' => Q .non H', rt := Q } (start N_look_at_told vs) H
theorem i_look_at_told {K : PySem.W.Frag} {a0 a1 : V} {H : Hp} {Q : VK} {E : XK} (h : t_look_at_told K E { nx := fun _ H' => Q .non H', rt := Q } [some a0, some a1, none] H) : sp_look_at_told K [a0, a1] H Q E := ⟨rfl, h⟩
def t_look_at_view (K : PySem.W.Frag) (E : XK) : TS :=
 (tSeq (tAsg (tVar 0) (gTup K 2 (gCons (gName 1) (gCons (gName 2) gNil))))
 (tSeq (tDrop (tCallS (sp_look_at_told K) (WE (WD E)) (tCons (tVar 2) (tCons (tVar 1) tNil))))
 (tLock2 (tFor (iKeys (tVar 2)) (gName 3) (tDrop (tCallS (sp_look_at_told K) (WE (WD E)) (tCons (tVar 2) (tCons (tDGet (tVar 2) (tVar 3)) tNil))))))))
abbrev N_look_at_view : List Str := ["view", "roots", "fields", "thing"]
def sp_look_at_view (K : PySem.W.Frag) : Sp := fun vs H Q E => vs.length = 1 ∧ t_look_at_view K E { nx := fun _ H' => Q .non H', rt := Q } (start N_look_at_view vs) H
theorem i_look_at_view {K : PySem.W.Frag} {a0 : V} {H : Hp} {Q : VK} {E : XK} (h : t_look_at_view K E { nx := fun _ H' => Q .non H', rt := Q } [some a0, none, none, none] H) : sp_look_at_view K [a0] H Q E := ⟨rfl, h⟩
def t_grown_from (K : PySem.W.Frag) (E : XK) : TS :=
 (tSeq (tAsg tDNewK (gName 2))
 (tSeq (tFor (iList K (tVar 1)) (gName 3) (sDPut (tVar 2) (tVar 3) (tC (.bl true))))
 (tSeq (tAsg (tCB cListDk (tCons (tVar 2) tNil)) (gName 4))
 (tSeq (tWhile (tTru K (tVar 4)) (tSeq (tAsg (tLst tNil) (gName 5))
 (tSeq (tFor (iList K (tVar 4)) (gName 3) (tFor (iList K (tDGet (tVar 0) (tVar 3))) (gName 6) (tIfS (tAnd (tTest (tOp oNotN (tVar 6) (tC .non))) (tB (tDNotIn (tVar 6) (tVar 2)))) (tSeq (sDPut (tVar 2) (tVar 6) (tC (.bl true)))
 (tDrop (tBM K "list" rAppend (tVar 5) (tCons (tVar 6) tNil)))) tNext)))
 (tAsg (tVar 5) (gName 4)))))
 (tRet (tCB cListDk (tCons (tVar 2) tNil)))))))
abbrev N_grown_from : List Str := ["fields", "things", "told", "thing", "edge", "behind", "other"]
def sp_grown_from (K : PySem.W.Frag) : Sp := fun vs H Q E => vs.length = 2 ∧ t_grown_from K E { nx := fun _ H' => Q .non H', rt := Q } (start N_grown_from vs) H
theorem i_grown_from {K : PySem.W.Frag} {a0 a1 : V} {H : Hp} {Q : VK} {E : XK} (h : t_grown_from K E { nx := fun _ H' => Q .non H', rt := Q } [some a0, some a1, none, none, none, none, none] H) : sp_grown_from K [a0, a1] H Q E := ⟨rfl, h⟩
def t_root_things (K : PySem.W.Frag) (E : XK) : TS :=
 (tRet (tLc (iList K (tOp (rIxT K) (tVar 0) (tC (.int 0)))) (gName 1) (tTest (tOp oNotN (tVar 1) (tC .non))) (tVar 1) [1]))
abbrev N_root_things : List Str := ["view", "thing"]
def sp_root_things (K : PySem.W.Frag) : Sp := fun vs H Q E => vs.length = 1 ∧ t_root_things K E { nx := fun _ H' => Q .non H', rt := Q } (start N_root_things vs) H
theorem i_root_things {K : PySem.W.Frag} {a0 : V} {H : Hp} {Q : VK} {E : XK} (h : t_root_things K E { nx := fun _ H' => Q .non H', rt := Q } [some a0, none] H) : sp_root_things K [a0] H Q E := ⟨rfl, h⟩
def t_reached (K : PySem.W.Frag) (E : XK) : TS :=
 (tSeq (tDrop (tCallS (sp_look_at_view K) (WE (WD E)) (tCons (tVar 0) tNil)))
 (tRet (tCB (rSortedI K) (tCons (tCallS (sp_grown_from K) (WE (WD E)) (tCons (tOp (rIxT K) (tVar 0) (tC (.int 1))) (tCons (tCallS (sp_root_things K) (WE (WD E)) (tCons (tVar 0) tNil)) tNil))) tNil))))
abbrev N_reached : List Str := ["view"]
def sp_reached (K : PySem.W.Frag) : Sp := fun vs H Q E => vs.length = 1 ∧ t_reached K E { nx := fun _ H' => Q .non H', rt := Q } (start N_reached vs) H
theorem i_reached {K : PySem.W.Frag} {a0 : V} {H : Hp} {Q : VK} {E : XK} (h : t_reached K E { nx := fun _ H' => Q .non H', rt := Q } [some a0] H) : sp_reached K [a0] H Q E := ⟨rfl, h⟩
def t_words_reached (K : PySem.W.Frag) (E : XK) : TS :=
 (tSeq (tAsg (tCallS (sp_view_of K) (WE (WD E)) (tCons (tVar 0) tNil)) (gName 1))
 (tRet (tCB (rSum K) (tCons (tLc (iList K (tCallS (sp_reached K) (WE (WD E)) (tCons (tVar 1) tNil))) (gName 2) tYes (tOp oAdd (tC (.int 1)) (tCB (cLenSeq K) (tCons (tDGet (tOp (rIxT K) (tVar 1) (tC (.int 1))) (tVar 2)) tNil))) [2]) tNil))))
abbrev N_words_reached : List Str := ["heap", "view", "t"]
def sp_words_reached (K : PySem.W.Frag) : Sp := fun vs H Q E => vs.length = 1 ∧ t_words_reached K E { nx := fun _ H' => Q .non H', rt := Q } (start N_words_reached vs) H
theorem i_words_reached {K : PySem.W.Frag} {a0 : V} {H : Hp} {Q : VK} {E : XK} (h : t_words_reached K E { nx := fun _ H' => Q .non H', rt := Q } [some a0, none, none] H) : sp_words_reached K [a0] H Q E := ⟨rfl, h⟩
def t_most_reached (K : PySem.W.Frag) (E : XK) : TS :=
 (tSeq (tIfS (tOr (tTest (tOp oLt (tVar 1) (tC (.int 1)))) (tTest (tOp oGt (tVar 1) (tC (.int 2000))))) (tRz (He.ga K "BadCount") (WD E)) tNext)
 (tSeq (tAsg (tMkS (He.ga K "IdealHeap") (sp_IdealHeap___init__ K) (WD E) (tCons (tC (.int 0)) (tCons (tC (.int 400)) tNil))) (gName 2))
 (tSeq (tAsg (tMkS (He.ga K "Running") (sp_Running___init__ K) (WD E) (tCons (tVar 0) (tCons (tVar 2) tNil))) (gName 3))
 (tSeq (tAsg (tTup (tCons (tC (.int 0)) (tCons (tC (.int 0)) tNil))) (gName 4))
 (tSeq (tWhile (tAnd (tTest (tOp oNotN (tMU [(He.ga K "Running", He.ma K (He.ga K "Running") "at", sp_Running_at K)] "at" (WD E) (tVar 3) tNil) (tC .non))) (tTest (tOp oLt (tMU [(He.ga K "Running", He.ma K (He.ga K "Running") "steps", sp_Running_steps K)] "steps" (WD E) (tVar 3) tNil) (tVar 1)))) (tSeq (tDrop (tMU [(He.ga K "IdealHeap", He.ma K (He.ga K "IdealHeap") "begin", sp_IdealHeap_begin K)] "begin" (WD E) (tVar 2) tNil))
 (tSeq (tDrop (tMU [(He.ga K "IdealHeap", He.ma K (He.ga K "IdealHeap") "end", sp_IdealHeap_end K)] "end" (WD E) (tVar 2) tNil))
 (tSeq (tDrop (tMU [(He.ga K "Running", He.ma K (He.ga K "Running") "step", sp_Running_step K)] "step" (WD E) (tVar 3) tNil))
 (tSeq (tAsg (tCallS (sp_words_reached K) (WE (WD E)) (tCons (tVar 2) tNil)) (gName 5))
 (tIfS (tTest (tOp oGt (tVar 5) (tOp (rIxT K) (tVar 4) (tC (.int 0))))) (tAsg (tTup (tCons (tVar 5) (tCons (tMU [(He.ga K "Running", He.ma K (He.ga K "Running") "steps", sp_Running_steps K)] "steps" (WD E) (tVar 3) tNil) tNil))) (gName 4)) tNext))))))
 (tRet (tVar 4)))))))
abbrev N_most_reached : List Str := ["program", "steps", "heap", "running", "most", "words"]
def sp_most_reached (K : PySem.W.Frag) : Sp := fun vs H Q E => vs.length = 2 ∧ t_most_reached K E { nx := fun _ H' => Q .non H', rt := Q } (start N_most_reached vs) H
theorem i_most_reached {K : PySem.W.Frag} {a0 a1 : V} {H : Hp} {Q : VK} {E : XK} (h : t_most_reached K E { nx := fun _ H' => Q .non H', rt := Q } [some a0, some a1, none, none, none, none] H) : sp_most_reached K [a0, a1] H Q E := ⟨rfl, h⟩
def t_Paced___init__ (K : PySem.W.Frag) (E : XK) : TS :=
 (tSeq (tDrop (tCallS (sp_look_at_pace K) (WE (WD E)) (tCons (tVar 3) tNil)))
 (tSeq (sFd [He.ga K "Paced"] (tVar 0) (tVar 1) "own_program")
 (tSeq (sFd [He.ga K "Paced"] (tVar 0) (tVar 2) "run_hall")
 (tSeq (sFd [He.ga K "Paced"] (tVar 0) (tVar 3) "pace_by")
 (tSeq (sFd [He.ga K "Paced"] (tVar 0) (tMkS (He.ga K "Running") (sp_Running___init__ K) (WD E) (tCons (tVar 1) (tCons (tVar 2) tNil))) "run_on")
 (tSeq (sFd [He.ga K "Paced"] (tVar 0) (tC (.int 0)) "held_top")
 (tSeq (sFd [He.ga K "Paced"] (tVar 0) (tC (.int 0)) "rounds_ended")
 (sFd [He.ga K "Paced"] (tVar 0) (tTup (tCons (tC (.int 0)) (tCons (tC (.int 0)) tNil))) "dear_pair"))))))))
abbrev N_Paced___init__ : List Str := ["self", "program", "hall", "pace"]
def sp_Paced___init__ (K : PySem.W.Frag) : Sp := fun vs H Q E => vs.length = 4 ∧ t_Paced___init__ K E { nx := fun _ H' => Q .non H', rt := Q } (start N_Paced___init__ vs) H
theorem i_Paced___init__ {K : PySem.W.Frag} {a0 a1 a2 a3 : V} {H : Hp} {Q : VK} {E : XK} (h : t_Paced___init__ K E { nx := fun _ H' => Q .non H', rt := Q } [some a0, some a1, some a2, some a3] H) : sp_Paced___init__ K [a0, a1, a2, a3] H Q E := ⟨rfl, h⟩
def t_Memory___init__ (K : PySem.W.Frag) (E : XK) : TS :=
 (sFd [He.ga K "Memory"] (tVar 0) (tOp rRep (tLst (tCons (tC .non) tNil)) (tVar 1)) "words")
abbrev N_Memory___init__ : List Str := ["self", "size"]
def sp_Memory___init__ (K : PySem.W.Frag) : Sp := fun vs H Q E => vs.length = 2 ∧ t_Memory___init__ K E { nx := fun _ H' => Q .non H', rt := Q } (start N_Memory___init__ vs) H
theorem i_Memory___init__ {K : PySem.W.Frag} {a0 a1 : V} {H : Hp} {Q : VK} {E : XK} (h : t_Memory___init__ K E { nx := fun _ H' => Q .non H', rt := Q } [some a0, some a1] H) : sp_Memory___init__ K [a0, a1] H Q E := ⟨rfl, h⟩
def t_NameTable___init__ (K : PySem.W.Frag) (E : XK) : TS :=
 (sFd [He.ga K "NameTable"] (tVar 0) (tOp rRep (tLst (tCons (tC .non) tNil)) (tC (.int 8))) "name_row")
abbrev N_NameTable___init__ : List Str := ["self"]
def sp_NameTable___init__ (K : PySem.W.Frag) : Sp := fun vs H Q E => vs.length = 1 ∧ t_NameTable___init__ K E { nx := fun _ H' => Q .non H', rt := Q } (start N_NameTable___init__ vs) H
theorem i_NameTable___init__ {K : PySem.W.Frag} {a0 : V} {H : Hp} {Q : VK} {E : XK} (h : t_NameTable___init__ K E { nx := fun _ H' => Q .non H', rt := Q } [some a0] H) : sp_NameTable___init__ K [a0] H Q E := ⟨rfl, h⟩
def t_WordTable___init__ (K : PySem.W.Frag) (E : XK) : TS :=
 (tSeq (sFd [He.ga K "WordTable"] (tVar 0) tDNewK "word_by")
 (sFd [He.ga K "WordTable"] (tVar 0) (tLst tNil) "word_line"))
abbrev N_WordTable___init__ : List Str := ["self"]
def sp_WordTable___init__ (K : PySem.W.Frag) : Sp := fun vs H Q E => vs.length = 1 ∧ t_WordTable___init__ K E { nx := fun _ H' => Q .non H', rt := Q } (start N_WordTable___init__ vs) H
theorem i_WordTable___init__ {K : PySem.W.Frag} {a0 : V} {H : Hp} {Q : VK} {E : XK} (h : t_WordTable___init__ K E { nx := fun _ H' => Q .non H', rt := Q } [some a0] H) : sp_WordTable___init__ K [a0] H Q E := ⟨rfl, h⟩
def t_Halves___init__ (K : PySem.W.Frag) (E : XK) : TS :=
 (tSeq (sFd [He.ga K "OldMover"] (tVar 0) (tVar 1) "limit")
 (tSeq (sFd [He.ga K "OldMover"] (tVar 0) (tMkS (He.ga K "Memory") (sp_Memory___init__ K) (WD E) (tCons (tOp oAdd (tOp oMul (tC (.int 2)) (tVar 1)) (tVar 2)) tNil)) "words")
 (tSeq (sFd [He.ga K "OldMover"] (tVar 0) (tOp rRep (tLst (tCons (tC .non) tNil)) (tC (.int 8))) "hold")
 (tSeq (sFd [He.ga K "OldMover"] (tVar 0) (tMkS (He.ga K "NameTable") (sp_NameTable___init__ K) (WD E) tNil) "weak")
 (tSeq (sFd [He.ga K "OldMover"] (tVar 0) (tMkS (He.ga K "WordTable") (sp_WordTable___init__ K) (WD E) tNil) "last")
 (tSeq (sFd [He.ga K "OldMover"] (tVar 0) tDNewK "stands")
 (tSeq (sFd [He.ga K "OldMover"] (tVar 0) (tC (.int 0)) "made_many")
 (tSeq (sFd [He.ga K "OldMover"] (tVar 0) (tC (.int 0)) "held_words")
 (tSeq (sFd [He.ga K "OldMover"] (tVar 0) (tC (.int 0)) "now")
 (tSeq (sFd [He.ga K "OldMover"] (tVar 0) (tC (.int 0)) "up")
 (tSeq (sFd [He.ga K "OldMover"] (tVar 0) (tVar 1) "down")
 (tSeq (sFd [He.ga K "OldMover"] (tVar 0) (tC (.bl false)) "going")
 (tSeq (sFd [He.ga K "OldMover"] (tVar 0) (tLst tNil) "found")
 (tSeq (sFd [He.ga K "OldMover"] (tVar 0) (tC (.int 0)) "place_next")
 (tSeq (sFd [He.ga K "OldMover"] (tVar 0) (tC (.int 0)) "field_next")
 (tSeq (sFd [He.ga K "OldMover"] (tVar 0) (tC (.int 0)) "looks")
 (tSeq (sFd [He.ga K "OldMover"] (tVar 0) (tC (.int 0)) "lays")
 (sFd [He.ga K "OldMover"] (tVar 0) (tLst (tCons (tTup (tCons (tC (.str "room")) (tCons (tOp oAdd (tOp oMul (tC (.int 2)) (tVar 1)) (tVar 2)) (tCons (tVar 3) tNil)))) tNil)) "rows"))))))))))))))))))
abbrev N_Halves___init__ : List Str := ["self", "limit", "room", "young"]
def sp_Halves___init__ (K : PySem.W.Frag) : Sp := fun vs H Q E => vs.length = 4 ∧ t_Halves___init__ K E { nx := fun _ H' => Q .non H', rt := Q } (start N_Halves___init__ vs) H
theorem i_Halves___init__ {K : PySem.W.Frag} {a0 a1 a2 a3 : V} {H : Hp} {Q : VK} {E : XK} (h : t_Halves___init__ K E { nx := fun _ H' => Q .non H', rt := Q } [some a0, some a1, some a2, some a3] H) : sp_Halves___init__ K [a0, a1, a2, a3] H Q E := ⟨rfl, h⟩
def t_OldMover___init__ (K : PySem.W.Frag) (E : XK) : TS :=
 (tSeq (tDrop (tCallS (sp_look_at_limits K) (WE (WD E)) (tCons (tC (.int 0)) (tCons (tVar 1) tNil))))
 (tDrop (tCallS (sp_Halves___init__ K) (WE (WD E)) (tCons (tVar 0) (tCons (tVar 1) (tCons (tC (.int 0)) (tCons (tC (.bl false)) tNil)))))))
abbrev N_OldMover___init__ : List Str := ["self", "limit"]
def sp_OldMover___init__ (K : PySem.W.Frag) : Sp := fun vs H Q E => vs.length = 2 ∧ t_OldMover___init__ K E { nx := fun _ H' => Q .non H', rt := Q } (start N_OldMover___init__ vs) H
theorem i_OldMover___init__ {K : PySem.W.Frag} {a0 a1 : V} {H : Hp} {Q : VK} {E : XK} (h : t_OldMover___init__ K E { nx := fun _ H' => Q .non H', rt := Q } [some a0, some a1] H) : sp_OldMover___init__ K [a0, a1] H Q E := ⟨rfl, h⟩
def t__law_word (K : PySem.W.Frag) (E : XK) : TS :=
 (tSeq (tAsg (tC .non) (gName 4))
 (tSeq (tAsg (tC .non) (gName 5))
 (tSeq (tAsg (tCallS (sp_read_program K) (WE (WD E)) (tCons (tC (.str "make 0 2\nsay 0")) tNil)) (gName 6))
 (tSeq (tTryT K (.ref (He.ga K "HeapError")) 7 (fun W => (tIfS (tTest (tOp rEq (tVar 0) (tC (.int 0)))) (tAsg (tCallS (sp_room_needed K) (WE W) (tCons (tVar 1) (tCons (tVar 2) tNil))) (gName 5)) (tIfS (tTest (tOp rEq (tVar 0) (tC (.int 1)))) (tAsg (tCallS (sp_most_reached K) (WE W) (tCons (tVar 6) (tCons (tVar 3) tNil))) (gName 5)) (tAsg (tMkS (He.ga K "Paced") (sp_Paced___init__ K) W (tCons (tVar 6) (tCons (tMkS (He.ga K "OldMover") (sp_OldMover___init__ K) W (tCons (tC (.int 40)) tNil)) (tCons (tVar 2) tNil)))) (gName 5))))) (tAsg (tVar 7) (gName 4)) (WD E))
 (tSeq (tIfS (tTest (tOp oIsN (tVar 4) (tC .non))) (tRet (tVar 5)) tNext)
 (tSeq (tIfS (tOr (tNot (tB (tCB (rIsiF K) (tCons (tVar 4) (tCons (tC (.ref (He.ga K "BadCount"))) tNil))))) (tNot (tB (tCB (rIsiF K) (tCons (tVar 4) (tCons (tC (.ty "ValueError")) tNil)))))) (tRet (tC (.str "another"))) tNext)
 (tSeq (tIfS (tOr (tB (tCB (rIsiTF K) (tCons (tVar 4) (tCons (tTup (tCons (tC (.ref (He.ga K "BadText"))) (tCons (tC (.ref (He.ga K "BadHand"))) tNil))) tNil)))) (tTest (tOp rNe (tXmC [⟨He.ga K "BadAddress", He.ma K (He.ga K "BadAddress") "called", "BadAddress"⟩, ⟨He.ga K "BadCount", He.ma K (He.ga K "BadCount") "called", "BadCount"⟩, ⟨He.ga K "BadField", He.ma K (He.ga K "BadField") "called", "BadField"⟩, ⟨He.ga K "BadHand", He.ma K (He.ga K "BadHand") "called", "BadHand"⟩, ⟨He.ga K "BadName", He.ma K (He.ga K "BadName") "called", "BadName"⟩, ⟨He.ga K "BadText", He.ma K (He.ga K "BadText") "called", "BadText"⟩, ⟨He.ga K "BadView", He.ma K (He.ga K "BadView") "called", "BadView"⟩, ⟨He.ga K "HeapError", He.ma K (He.ga K "HeapError") "called", "HeapError"⟩, ⟨He.ga K "NoRoom", He.ma K (He.ga K "NoRoom") "called", "NoRoom"⟩, ⟨He.ga K "NoRound", He.ma K (He.ga K "NoRound") "called", "NoRound"⟩, ⟨He.ga K "RoundOn", He.ma K (He.ga K "RoundOn") "called", "RoundOn"⟩, ⟨He.ga K "TooManyWords", He.ma K (He.ga K "TooManyWords") "called", "TooManyWords"⟩] "called" (tVar 4)) (tC (.str "BadCount"))))) (tRet (tC (.str "another"))) tNext)
 (tRet (tC (.str "refused"))))))))))
abbrev N__law_word : List Str := ["way", "most", "pace", "rows", "caught", "told", "program", "e"]
def sp__law_word (K : PySem.W.Frag) : Sp := fun vs H Q E => vs.length = 4 ∧ t__law_word K E { nx := fun _ H' => Q .non H', rt := Q } (start N__law_word vs) H
theorem i__law_word {K : PySem.W.Frag} {a0 a1 a2 a3 : V} {H : Hp} {Q : VK} {E : XK} (h : t__law_word K E { nx := fun _ H' => Q .non H', rt := Q } [some a0, some a1, some a2, some a3, none, none, none, none] H) : sp__law_word K [a0, a1, a2, a3] H Q E := ⟨rfl, h⟩
def t_Running_told (K : PySem.W.Frag) (E : XK) : TS :=
 (tRet (tCB (cListOf K) (tCons (tFd [He.ga K "Running"] "lines" (tVar 0)) tNil)))
abbrev N_Running_told : List Str := ["self"]
def sp_Running_told (K : PySem.W.Frag) : Sp := fun vs H Q E => vs.length = 1 ∧ t_Running_told K E { nx := fun _ H' => Q .non H', rt := Q } (start N_Running_told vs) H
theorem i_Running_told {K : PySem.W.Frag} {a0 : V} {H : Hp} {Q : VK} {E : XK} (h : t_Running_told K E { nx := fun _ H' => Q .non H', rt := Q } [some a0] H) : sp_Running_told K [a0] H Q E := ⟨rfl, h⟩
def t_Paced_told (K : PySem.W.Frag) (E : XK) : TS :=
 (tRet (tMU [(He.ga K "Running", He.ma K (He.ga K "Running") "told", sp_Running_told K)] "told" (WD E) (tFd [He.ga K "Paced"] "run_on" (tVar 0)) tNil))
abbrev N_Paced_told : List Str := ["self"]
def sp_Paced_told (K : PySem.W.Frag) : Sp := fun vs H Q E => vs.length = 1 ∧ t_Paced_told K E { nx := fun _ H' => Q .non H', rt := Q } (start N_Paced_told vs) H
theorem i_Paced_told {K : PySem.W.Frag} {a0 : V} {H : Hp} {Q : VK} {E : XK} (h : t_Paced_told K E { nx := fun _ H' => Q .non H', rt := Q } [some a0] H) : sp_Paced_told K [a0] H Q E := ⟨rfl, h⟩
def t_Running_fault (K : PySem.W.Frag) (E : XK) : TS :=
 (tRet (tFd [He.ga K "Running"] "broken" (tVar 0)))
abbrev N_Running_fault : List Str := ["self"]
def sp_Running_fault (K : PySem.W.Frag) : Sp := fun vs H Q E => vs.length = 1 ∧ t_Running_fault K E { nx := fun _ H' => Q .non H', rt := Q } (start N_Running_fault vs) H
theorem i_Running_fault {K : PySem.W.Frag} {a0 : V} {H : Hp} {Q : VK} {E : XK} (h : t_Running_fault K E { nx := fun _ H' => Q .non H', rt := Q } [some a0] H) : sp_Running_fault K [a0] H Q E := ⟨rfl, h⟩
def t_Paced_fault (K : PySem.W.Frag) (E : XK) : TS :=
 (tRet (tMU [(He.ga K "Running", He.ma K (He.ga K "Running") "fault", sp_Running_fault K)] "fault" (WD E) (tFd [He.ga K "Paced"] "run_on" (tVar 0)) tNil))
abbrev N_Paced_fault : List Str := ["self"]
def sp_Paced_fault (K : PySem.W.Frag) : Sp := fun vs H Q E => vs.length = 1 ∧ t_Paced_fault K E { nx := fun _ H' => Q .non H', rt := Q } (start N_Paced_fault vs) H
theorem i_Paced_fault {K : PySem.W.Frag} {a0 : V} {H : Hp} {Q : VK} {E : XK} (h : t_Paced_fault K E { nx := fun _ H' => Q .non H', rt := Q } [some a0] H) : sp_Paced_fault K [a0] H Q E := ⟨rfl, h⟩
def t_Paced_dearest (K : PySem.W.Frag) (E : XK) : TS :=
 (tRet (tFd [He.ga K "Paced"] "dear_pair" (tVar 0)))
abbrev N_Paced_dearest : List Str := ["self"]
def sp_Paced_dearest (K : PySem.W.Frag) : Sp := fun vs H Q E => vs.length = 1 ∧ t_Paced_dearest K E { nx := fun _ H' => Q .non H', rt := Q } (start N_Paced_dearest vs) H
theorem i_Paced_dearest {K : PySem.W.Frag} {a0 : V} {H : Hp} {Q : VK} {E : XK} (h : t_Paced_dearest K E { nx := fun _ H' => Q .non H', rt := Q } [some a0] H) : sp_Paced_dearest K [a0] H Q E := ⟨rfl, h⟩
def t_Paced_most_held (K : PySem.W.Frag) (E : XK) : TS :=
 (tRet (tFd [He.ga K "Paced"] "held_top" (tVar 0)))
abbrev N_Paced_most_held : List Str := ["self"]
def sp_Paced_most_held (K : PySem.W.Frag) : Sp := fun vs H Q E => vs.length = 1 ∧ t_Paced_most_held K E { nx := fun _ H' => Q .non H', rt := Q } (start N_Paced_most_held vs) H
theorem i_Paced_most_held {K : PySem.W.Frag} {a0 : V} {H : Hp} {Q : VK} {E : XK} (h : t_Paced_most_held K E { nx := fun _ H' => Q .non H', rt := Q } [some a0] H) : sp_Paced_most_held K [a0] H Q E := ⟨rfl, h⟩
def t_Paced_rounds (K : PySem.W.Frag) (E : XK) : TS :=
 (tRet (tFd [He.ga K "Paced"] "rounds_ended" (tVar 0)))
abbrev N_Paced_rounds : List Str := ["self"]
def sp_Paced_rounds (K : PySem.W.Frag) : Sp := fun vs H Q E => vs.length = 1 ∧ t_Paced_rounds K E { nx := fun _ H' => Q .non H', rt := Q } (start N_Paced_rounds vs) H
theorem i_Paced_rounds {K : PySem.W.Frag} {a0 : V} {H : Hp} {Q : VK} {E : XK} (h : t_Paced_rounds K E { nx := fun _ H' => Q .non H', rt := Q } [some a0] H) : sp_Paced_rounds K [a0] H Q E := ⟨rfl, h⟩
def t__law_fresh (K : PySem.W.Frag) (E : XK) : TS :=
 (tSeq (tIfS (tOr (tTest (tOp (rNeU K) (tMU [(He.ga K "Paced", He.ma K (He.ga K "Paced") "told", sp_Paced_told K)] "told" (WD E) (tVar 0) tNil) (tLst tNil))) (tOr (tTest (tOp oNotN (tMU [(He.ga K "Paced", He.ma K (He.ga K "Paced") "fault", sp_Paced_fault K)] "fault" (WD E) (tVar 0) tNil) (tC .non))) (tTest (tOp (rNeU K) (tMU [(He.ga K "Paced", He.ma K (He.ga K "Paced") "dearest", sp_Paced_dearest K)] "dearest" (WD E) (tVar 0) tNil) (tTup (tCons (tC (.int 0)) (tCons (tC (.int 0)) tNil))))))) (tRet (tC (.bl false))) tNext)
 (tRet (tOp (rEqU K) (tLst (tCons (tMU [(He.ga K "Paced", He.ma K (He.ga K "Paced") "most_held", sp_Paced_most_held K)] "most_held" (WD E) (tVar 0) tNil) (tCons (tMU [(He.ga K "Paced", He.ma K (He.ga K "Paced") "rounds", sp_Paced_rounds K)] "rounds" (WD E) (tVar 0) tNil) tNil))) (tLst (tCons (tC (.int 0)) (tCons (tC (.int 0)) tNil))))))
abbrev N__law_fresh : List Str := ["paced"]
def sp__law_fresh (K : PySem.W.Frag) : Sp := fun vs H Q E => vs.length = 1 ∧ t__law_fresh K E { nx := fun _ H' => Q .non H', rt := Q } (start N__law_fresh vs) H
theorem i__law_fresh {K : PySem.W.Frag} {a0 : V} {H : Hp} {Q : VK} {E : XK} (h : t__law_fresh K E { nx := fun _ H' => Q .non H', rt := Q } [some a0] H) : sp__law_fresh K [a0] H Q E := ⟨rfl, h⟩
def t__law_right (K : PySem.W.Frag) (E : XK) : TS :=
 (tSeq (tAsg (tCallS (sp__law_number K) (WE (WD E)) (tCons (tVar 0) (tCons (tC (.int 0)) (tCons (tC (.int 400)) tNil)))) (gName 1))
 (tSeq (tAsg (tCallS (sp__law_number K) (WE (WD E)) (tCons (tOp oFdv (tVar 0) (tC (.int 8))) (tCons (tC (.int 1)) (tCons (tC (.int 100)) tNil)))) (gName 2))
 (tSeq (tAsg (tCallS (sp__law_number K) (WE (WD E)) (tCons (tOp oFdv (tVar 0) (tC (.int 64))) (tCons (tC (.int 1)) (tCons (tC (.int 2000)) tNil)))) (gName 3))
 (tSeq (tAsg (tC (.str "refused")) (gName 4))
 (tSeq (tIfS (tAnd (tTest (tChain oLe oLe (tC (.int 0)) (tVar 1) (tC (.int 400)))) (tTest (tChain oLe oLe (tC (.int 1)) (tVar 2) (tC (.int 100))))) (tAsg (tOp oAdd (tVar 1) (tOp oMul (tC (.int 2)) (tOp oAdd (tOp oFdv (tVar 1) (tVar 2)) (tC (.int 16))))) (gName 4)) tNext)
 (tSeq (tAsg (tCallS (sp__law_word K) (WE (WD E)) (tCons (tC (.int 0)) (tCons (tVar 1) (tCons (tVar 2) (tCons (tVar 3) tNil))))) (gName 5))
 (tSeq (tIfS (tOr (tTest (tOp (rNeU K) (tVar 5) (tVar 4))) (tB (tCB (rIsiF K) (tCons (tVar 5) (tCons (tC (.ty "bool")) tNil))))) (tRet (tC (.bl false))) tNext)
 (tSeq (tAsg (tCallS (sp__law_word K) (WE (WD E)) (tCons (tC (.int 1)) (tCons (tVar 1) (tCons (tVar 2) (tCons (tVar 3) tNil))))) (gName 5))
 (tSeq (tIfS (tTest (tOp (rNeU K) (tVar 5) (tOp (rIxL K) (tLst (tCons (tTup (tCons (tC (.int 3)) (tCons (tC (.int 1)) tNil))) (tCons (tC (.str "refused")) tNil))) (tCB cInt1 (tCons (tNotV (tChain oLe oLe (tC (.int 1)) (tVar 3) (tC (.int 2000)))) tNil))))) (tRet (tC (.bl false))) tNext)
 (tSeq (tAsg (tCallS (sp__law_word K) (WE (WD E)) (tCons (tC (.int 2)) (tCons (tVar 1) (tCons (tVar 2) (tCons (tVar 3) tNil))))) (gName 5))
 (tSeq (tIfS (tNot (tTest (tChain oLe oLe (tC (.int 1)) (tVar 2) (tC (.int 100))))) (tRet (tOp (rEqU K) (tVar 5) (tC (.str "refused")))) tNext)
 (tRet (tAndV (tCB (rIsiF K) (tCons (tVar 5) (tCons (tC (.ref (He.ga K "Paced"))) tNil))) (tCallS (sp__law_fresh K) (WE (WD E)) (tCons (tVar 5) tNil)))))))))))))))
abbrev N__law_right : List Str := ["cell", "most", "pace", "rows", "due", "told"]
def sp__law_right (K : PySem.W.Frag) : Sp := fun vs H Q E => vs.length = 1 ∧ t__law_right K E { nx := fun _ H' => Q .non H', rt := Q } (start N__law_right vs) H
theorem i__law_right {K : PySem.W.Frag} {a0 : V} {H : Hp} {Q : VK} {E : XK} (h : t__law_right K E { nx := fun _ H' => Q .non H', rt := Q } [some a0, none, none, none, none, none] H) : sp__law_right K [a0] H Q E := ⟨rfl, h⟩
def t_law (K : PySem.W.Frag) (E : XK) : TS :=
 (tSeq (tFor (iList K (tOp (rCatS K) (tLstRg (tRg1 (tC (.int 13)))) (tVar 0))) (gName 1) (tIfS (tNot (tB (tCallS (sp__law_right K) (WE (WD E)) (tCons (tVar 1) tNil)))) (tRet (tC (.bl false))) tNext))
 (tRet (tC (.bl true))))
abbrev N_law : List Str := ["script", "cell"]
def sp_law (K : PySem.W.Frag) : Sp := fun vs H Q E => vs.length = 1 ∧ t_law K E { nx := fun _ H' => Q .non H', rt := Q } (start N_law vs) H
theorem i_law {K : PySem.W.Frag} {a0 : V} {H : Hp} {Q : VK} {E : XK} (h : t_law K E { nx := fun _ H' => Q .non H', rt := Q } [some a0, none] H) : sp_law K [a0] H Q E := ⟨rfl, h⟩
/-- what the pure part leans on -/
structure PF (K : PySem.W.Frag) : Prop where
  oex_BadText : OexC K (He.ga K "BadText")
  noat_BadText_row : PySem.W.findIn K (.ref (He.ga K "BadText")) "row" = some none
  excC_TooManyWords : ExcC K (He.ga K "TooManyWords")
  excC_RoundOn : ExcC K (He.ga K "RoundOn")
  excC_NoRound : ExcC K (He.ga K "NoRound")
  excC_NoRoom : ExcC K (He.ga K "NoRoom")
  excC_HeapError : ExcC K (He.ga K "HeapError")
  excC_BadView : ExcC K (He.ga K "BadView")
  excC_BadText : ExcC K (He.ga K "BadText")
  excC_BadName : ExcC K (He.ga K "BadName")
  excC_BadHand : ExcC K (He.ga K "BadHand")
  excC_BadField : ExcC K (He.ga K "BadField")
  excC_BadCount : ExcC K (He.ga K "BadCount")
  excC_BadAddress : ExcC K (He.ga K "BadAddress")
  exm_HeapError_HeapError : PySem.W.exmOne K (.ref (He.ga K "HeapError")) (.ref (He.ga K "HeapError")) = some true
  exm_BadAddress_HeapError : PySem.W.exmOne K (.ref (He.ga K "BadAddress")) (.ref (He.ga K "HeapError")) = some true
  exm_BadCount_HeapError : PySem.W.exmOne K (.ref (He.ga K "BadCount")) (.ref (He.ga K "HeapError")) = some true
  exm_BadField_HeapError : PySem.W.exmOne K (.ref (He.ga K "BadField")) (.ref (He.ga K "HeapError")) = some true
  exm_BadHand_HeapError : PySem.W.exmOne K (.ref (He.ga K "BadHand")) (.ref (He.ga K "HeapError")) = some true
  exm_BadName_HeapError : PySem.W.exmOne K (.ref (He.ga K "BadName")) (.ref (He.ga K "HeapError")) = some true
  exm_BadText_HeapError : PySem.W.exmOne K (.ref (He.ga K "BadText")) (.ref (He.ga K "HeapError")) = some true
  exm_BadView_HeapError : PySem.W.exmOne K (.ref (He.ga K "BadView")) (.ref (He.ga K "HeapError")) = some true
  exm_NoRoom_HeapError : PySem.W.exmOne K (.ref (He.ga K "NoRoom")) (.ref (He.ga K "HeapError")) = some true
  exm_NoRound_HeapError : PySem.W.exmOne K (.ref (He.ga K "NoRound")) (.ref (He.ga K "HeapError")) = some true
  exm_RoundOn_HeapError : PySem.W.exmOne K (.ref (He.ga K "RoundOn")) (.ref (He.ga K "HeapError")) = some true
  exm_TooManyWords_HeapError : PySem.W.exmOne K (.ref (He.ga K "TooManyWords")) (.ref (He.ga K "HeapError")) = some true
  kit_BadCount_BadCount : PySem.W.kitOne K (.ref (He.ga K "BadCount")) (.ref (He.ga K "BadCount")) = some true
  kit_BadCount_ValueError : PySem.W.kitOne K (.ref (He.ga K "BadCount")) (.type "ValueError") = some true
  kit_BadCount_BadText : PySem.W.kitOne K (.ref (He.ga K "BadCount")) (.ref (He.ga K "BadText")) = some false
  kit_BadCount_BadHand : PySem.W.kitOne K (.ref (He.ga K "BadCount")) (.ref (He.ga K "BadHand")) = some false
  kit_Paced_Paced : PySem.W.kitOne K (.ref (He.ga K "Paced")) (.ref (He.ga K "Paced")) = some true
  insC_Paced : InsC K (He.ga K "Paced")
end R_k82

set_option Elab.async false
set_option linter.all false
set_option maxRecDepth 100000
set_option maxHeartbeats 0
namespace D_k82
open PySem PySem.Spec PyProof.Rows L2 SX0 R_k82
theorem sc__law_number : FnScope N__law_number ["cell", "least", "most"] (defScope s__law_number) := ⟨rfl, rfl, rfl, by decide +kernel, rfl, by decide +kernel, by decide +kernel⟩
theorem sc_parts_due : FnScope N_parts_due ["word"] (defScope s_parts_due) := ⟨rfl, rfl, rfl, by decide +kernel, rfl, by decide +kernel, by decide +kernel⟩
theorem sc_are_all_in : FnScope N_are_all_in ["text", "signs"] (defScope s_are_all_in) := ⟨rfl, rfl, rfl, by decide +kernel, rfl, by decide +kernel, by decide +kernel⟩
theorem sc_is_mark : FnScope N_is_mark ["text"] (defScope s_is_mark) := ⟨rfl, rfl, rfl, by decide +kernel, rfl, by decide +kernel, by decide +kernel⟩
theorem sc_is_plain : FnScope N_is_plain ["text"] (defScope s_is_plain) := ⟨rfl, rfl, rfl, by decide +kernel, rfl, by decide +kernel, by decide +kernel⟩
theorem sc_part_in : FnScope N_part_in ["text", "kind"] (defScope s_part_in) := ⟨rfl, rfl, rfl, by decide +kernel, rfl, by decide +kernel, by decide +kernel⟩
theorem sc_row_in : FnScope N_row_in ["text"] (defScope s_row_in) := ⟨rfl, rfl, rfl, by decide +kernel, rfl, by decide +kernel, by decide +kernel⟩
theorem sc_marks_in : FnScope N_marks_in ["rows"] (defScope s_marks_in) := ⟨rfl, rfl, rfl, by decide +kernel, rfl, by decide +kernel, by decide +kernel⟩
theorem sc_BadText___init__ : FnScope N_BadText___init__ ["self", "words", "row"] (defScope s_BadText___init__) := ⟨rfl, rfl, rfl, by decide +kernel, rfl, by decide +kernel, by decide +kernel⟩
theorem sc_mark_of : FnScope N_mark_of ["row"] (defScope s_mark_of) := ⟨rfl, rfl, rfl, by decide +kernel, rfl, by decide +kernel, by decide +kernel⟩
theorem sc_read_program : FnScope N_read_program ["text"] (defScope s_read_program) := ⟨rfl, rfl, rfl, by decide +kernel, rfl, by decide +kernel, by decide +kernel⟩
theorem sc_look_at_pace : FnScope N_look_at_pace ["pace"] (defScope s_look_at_pace) := ⟨rfl, rfl, rfl, by decide +kernel, rfl, by decide +kernel, by decide +kernel⟩
theorem sc_room_needed : FnScope N_room_needed ["most", "pace"] (defScope s_room_needed) := ⟨rfl, rfl, rfl, by decide +kernel, rfl, by decide +kernel, by decide +kernel⟩
theorem sc_look_at_limits : FnScope N_look_at_limits ["young", "limit"] (defScope s_look_at_limits) := ⟨rfl, rfl, rfl, by decide +kernel, rfl, by decide +kernel, by decide +kernel⟩
theorem sc_IdealHeap___init__ : FnScope N_IdealHeap___init__ ["self", "young", "limit"] (defScope s_IdealHeap___init__) := ⟨rfl, rfl, rfl, by decide +kernel, rfl, by decide +kernel, by decide +kernel⟩
theorem sc_Running___init__ : FnScope N_Running___init__ ["self", "program", "hall"] (defScope s_Running___init__) := ⟨rfl, rfl, rfl, by decide +kernel, rfl, by decide +kernel, by decide +kernel⟩
theorem sc_Running_at : FnScope N_Running_at ["self"] (defScope s_Running_at) := ⟨rfl, rfl, rfl, by decide +kernel, rfl, by decide +kernel, by decide +kernel⟩
theorem sc_Running_steps : FnScope N_Running_steps ["self"] (defScope s_Running_steps) := ⟨rfl, rfl, rfl, by decide +kernel, rfl, by decide +kernel, by decide +kernel⟩
theorem sc_kind_of : FnScope N_kind_of ["value"] (defScope s_kind_of) := ⟨rfl, rfl, rfl, by decide +kernel, rfl, by decide +kernel, by decide +kernel⟩
theorem sc_thing_of : FnScope N_thing_of ["value"] (defScope s_thing_of) := ⟨rfl, rfl, rfl, by decide +kernel, rfl, by decide +kernel, by decide +kernel⟩
theorem sc_things_of : FnScope N_things_of ["values"] (defScope s_things_of) := ⟨rfl, rfl, rfl, by decide +kernel, rfl, by decide +kernel, by decide +kernel⟩
theorem sc_led_within : FnScope N_led_within ["held", "starts", "some"] (defScope s_led_within) := ⟨rfl, rfl, rfl, by decide +kernel, rfl, by decide +kernel, by decide +kernel⟩
theorem sc_young_things : FnScope N_young_things ["held"] (defScope s_young_things) := ⟨rfl, rfl, rfl, by decide +kernel, rfl, by decide +kernel, by decide +kernel⟩
theorem sc_young_kept : FnScope N_young_kept ["held", "hands"] (defScope s_young_kept) := ⟨rfl, rfl, rfl, by decide +kernel, rfl, by decide +kernel, by decide +kernel⟩
theorem sc_IdealHeap_settle : FnScope N_IdealHeap_settle ["self", "gone"] (defScope s_IdealHeap_settle) := ⟨rfl, rfl, rfl, by decide +kernel, rfl, by decide +kernel, by decide +kernel⟩
theorem sc_IdealHeap_small : FnScope N_IdealHeap_small ["self"] (defScope s_IdealHeap_small) := ⟨rfl, rfl, rfl, by decide +kernel, rfl, by decide +kernel, by decide +kernel⟩
theorem sc_IdealHeap_begin : FnScope N_IdealHeap_begin ["self"] (defScope s_IdealHeap_begin) := ⟨rfl, rfl, rfl, by decide +kernel, rfl, by decide +kernel, by decide +kernel⟩
theorem sc_IdealHeap_end : FnScope N_IdealHeap_end ["self"] (defScope s_IdealHeap_end) := ⟨rfl, rfl, rfl, by decide +kernel, rfl, by decide +kernel, by decide +kernel⟩
theorem sc_look_at_hand : FnScope N_look_at_hand ["h"] (defScope s_look_at_hand) := ⟨rfl, rfl, rfl, by decide +kernel, rfl, by decide +kernel, by decide +kernel⟩
theorem sc_IdealHeap_kind : FnScope N_IdealHeap_kind ["self", "h"] (defScope s_IdealHeap_kind) := ⟨rfl, rfl, rfl, by decide +kernel, rfl, by decide +kernel, by decide +kernel⟩
theorem sc_IdealHeap_value : FnScope N_IdealHeap_value ["self", "h"] (defScope s_IdealHeap_value) := ⟨rfl, rfl, rfl, by decide +kernel, rfl, by decide +kernel, by decide +kernel⟩
theorem sc_IdealHeap_thing_in : FnScope N_IdealHeap_thing_in ["self", "h"] (defScope s_IdealHeap_thing_in) := ⟨rfl, rfl, rfl, by decide +kernel, rfl, by decide +kernel, by decide +kernel⟩
theorem sc_IdealHeap_fields : FnScope N_IdealHeap_fields ["self", "h"] (defScope s_IdealHeap_fields) := ⟨rfl, rfl, rfl, by decide +kernel, rfl, by decide +kernel, by decide +kernel⟩
theorem sc_said_of : FnScope N_said_of ["hall", "h"] (defScope s_said_of) := ⟨rfl, rfl, rfl, by decide +kernel, rfl, by decide +kernel, by decide +kernel⟩
theorem sc_IdealHeap_same : FnScope N_IdealHeap_same ["self", "h", "g"] (defScope s_IdealHeap_same) := ⟨rfl, rfl, rfl, by decide +kernel, rfl, by decide +kernel, by decide +kernel⟩
theorem sc_goes_on : FnScope N_goes_on ["hall", "row"] (defScope s_goes_on) := ⟨rfl, rfl, rfl, by decide +kernel, rfl, by decide +kernel, by decide +kernel⟩
theorem sc_words_of : FnScope N_words_of ["fields"] (defScope s_words_of) := ⟨rfl, rfl, rfl, by decide +kernel, rfl, by decide +kernel, by decide +kernel⟩
theorem sc_words_in : FnScope N_words_in ["held", "some"] (defScope s_words_in) := ⟨rfl, rfl, rfl, by decide +kernel, rfl, by decide +kernel, by decide +kernel⟩
theorem sc_IdealHeap_held : FnScope N_IdealHeap_held ["self"] (defScope s_IdealHeap_held) := ⟨rfl, rfl, rfl, by decide +kernel, rfl, by decide +kernel, by decide +kernel⟩
theorem sc_IdealThing___init__ : FnScope N_IdealThing___init__ ["self", "fields", "old"] (defScope s_IdealThing___init__) := ⟨rfl, rfl, rfl, by decide +kernel, rfl, by decide +kernel, by decide +kernel⟩
theorem sc_thing_value : FnScope N_thing_value ["t"] (defScope s_thing_value) := ⟨rfl, rfl, rfl, by decide +kernel, rfl, by decide +kernel, by decide +kernel⟩
theorem sc_IdealHeap_make : FnScope N_IdealHeap_make ["self", "h", "n"] (defScope s_IdealHeap_make) := ⟨rfl, rfl, rfl, by decide +kernel, rfl, by decide +kernel, by decide +kernel⟩
theorem sc_IdealHeap_field_due : FnScope N_IdealHeap_field_due ["self", "thing", "k"] (defScope s_IdealHeap_field_due) := ⟨rfl, rfl, rfl, by decide +kernel, rfl, by decide +kernel, by decide +kernel⟩
theorem sc_IdealHeap_load : FnScope N_IdealHeap_load ["self", "h", "g", "k"] (defScope s_IdealHeap_load) := ⟨rfl, rfl, rfl, by decide +kernel, rfl, by decide +kernel, by decide +kernel⟩
theorem sc_IdealHeap_store : FnScope N_IdealHeap_store ["self", "g", "k", "h"] (defScope s_IdealHeap_store) := ⟨rfl, rfl, rfl, by decide +kernel, rfl, by decide +kernel, by decide +kernel⟩
theorem sc_IdealHeap_copy : FnScope N_IdealHeap_copy ["self", "h", "g"] (defScope s_IdealHeap_copy) := ⟨rfl, rfl, rfl, by decide +kernel, rfl, by decide +kernel, by decide +kernel⟩
theorem sc_IdealHeap_drop : FnScope N_IdealHeap_drop ["self", "h"] (defScope s_IdealHeap_drop) := ⟨rfl, rfl, rfl, by decide +kernel, rfl, by decide +kernel, by decide +kernel⟩
theorem sc_number_value : FnScope N_number_value ["x"] (defScope s_number_value) := ⟨rfl, rfl, rfl, by decide +kernel, rfl, by decide +kernel, by decide +kernel⟩
theorem sc_IdealHeap_number : FnScope N_IdealHeap_number ["self", "h", "x"] (defScope s_IdealHeap_number) := ⟨rfl, rfl, rfl, by decide +kernel, rfl, by decide +kernel, by decide +kernel⟩
theorem sc_look_at_name : FnScope N_look_at_name ["w"] (defScope s_look_at_name) := ⟨rfl, rfl, rfl, by decide +kernel, rfl, by decide +kernel, by decide +kernel⟩
theorem sc_IdealHeap_name : FnScope N_IdealHeap_name ["self", "w", "h"] (defScope s_IdealHeap_name) := ⟨rfl, rfl, rfl, by decide +kernel, rfl, by decide +kernel, by decide +kernel⟩
theorem sc_IdealHeap_give_back : FnScope N_IdealHeap_give_back ["self", "thing"] (defScope s_IdealHeap_give_back) := ⟨rfl, rfl, rfl, by decide +kernel, rfl, by decide +kernel, by decide +kernel⟩
theorem sc_IdealHeap_read : FnScope N_IdealHeap_read ["self", "h", "w"] (defScope s_IdealHeap_read) := ⟨rfl, rfl, rfl, by decide +kernel, rfl, by decide +kernel, by decide +kernel⟩
theorem sc_IdealHeap_word : FnScope N_IdealHeap_word ["self", "h", "x"] (defScope s_IdealHeap_word) := ⟨rfl, rfl, rfl, by decide +kernel, rfl, by decide +kernel, by decide +kernel⟩
theorem sc_IdealHeap_take : FnScope N_IdealHeap_take ["self"] (defScope s_IdealHeap_take) := ⟨rfl, rfl, rfl, by decide +kernel, rfl, by decide +kernel, by decide +kernel⟩
theorem sc_do_value : FnScope N_do_value ["hall", "row"] (defScope s_do_value) := ⟨rfl, rfl, rfl, by decide +kernel, rfl, by decide +kernel, by decide +kernel⟩
theorem sc_do_plain : FnScope N_do_plain ["hall", "row"] (defScope s_do_plain) := ⟨rfl, rfl, rfl, by decide +kernel, rfl, by decide +kernel, by decide +kernel⟩
theorem sc_Running_do_row : FnScope N_Running_do_row ["self", "row"] (defScope s_Running_do_row) := ⟨rfl, rfl, rfl, by decide +kernel, rfl, by decide +kernel, by decide +kernel⟩
theorem sc_TooManyWords_called : FnScope N_TooManyWords_called ["self"] (defScope s_TooManyWords_called) := ⟨rfl, rfl, rfl, by decide +kernel, rfl, by decide +kernel, by decide +kernel⟩
theorem sc_RoundOn_called : FnScope N_RoundOn_called ["self"] (defScope s_RoundOn_called) := ⟨rfl, rfl, rfl, by decide +kernel, rfl, by decide +kernel, by decide +kernel⟩
theorem sc_NoRound_called : FnScope N_NoRound_called ["self"] (defScope s_NoRound_called) := ⟨rfl, rfl, rfl, by decide +kernel, rfl, by decide +kernel, by decide +kernel⟩
theorem sc_NoRoom_called : FnScope N_NoRoom_called ["self"] (defScope s_NoRoom_called) := ⟨rfl, rfl, rfl, by decide +kernel, rfl, by decide +kernel, by decide +kernel⟩
theorem sc_HeapError_called : FnScope N_HeapError_called ["self"] (defScope s_HeapError_called) := ⟨rfl, rfl, rfl, by decide +kernel, rfl, by decide +kernel, by decide +kernel⟩
theorem sc_BadView_called : FnScope N_BadView_called ["self"] (defScope s_BadView_called) := ⟨rfl, rfl, rfl, by decide +kernel, rfl, by decide +kernel, by decide +kernel⟩
theorem sc_BadText_called : FnScope N_BadText_called ["self"] (defScope s_BadText_called) := ⟨rfl, rfl, rfl, by decide +kernel, rfl, by decide +kernel, by decide +kernel⟩
theorem sc_BadName_called : FnScope N_BadName_called ["self"] (defScope s_BadName_called) := ⟨rfl, rfl, rfl, by decide +kernel, rfl, by decide +kernel, by decide +kernel⟩
theorem sc_BadHand_called : FnScope N_BadHand_called ["self"] (defScope s_BadHand_called) := ⟨rfl, rfl, rfl, by decide +kernel, rfl, by decide +kernel, by decide +kernel⟩
theorem sc_BadField_called : FnScope N_BadField_called ["self"] (defScope s_BadField_called) := ⟨rfl, rfl, rfl, by decide +kernel, rfl, by decide +kernel, by decide +kernel⟩
theorem sc_BadCount_called : FnScope N_BadCount_called ["self"] (defScope s_BadCount_called) := ⟨rfl, rfl, rfl, by decide +kernel, rfl, by decide +kernel, by decide +kernel⟩
theorem sc_BadAddress_called : FnScope N_BadAddress_called ["self"] (defScope s_BadAddress_called) := ⟨rfl, rfl, rfl, by decide +kernel, rfl, by decide +kernel, by decide +kernel⟩
theorem sc_Running_step : FnScope N_Running_step ["self"] (defScope s_Running_step) := ⟨rfl, rfl, rfl, by decide +kernel, rfl, by decide +kernel, by decide +kernel⟩
theorem sc_IdealHeap_things : FnScope N_IdealHeap_things ["self"] (defScope s_IdealHeap_things) := ⟨rfl, rfl, rfl, by decide +kernel, rfl, by decide +kernel, by decide +kernel⟩
theorem sc_IdealHeap_thing_due : FnScope N_IdealHeap_thing_due ["self", "t"] (defScope s_IdealHeap_thing_due) := ⟨rfl, rfl, rfl, by decide +kernel, rfl, by decide +kernel, by decide +kernel⟩
theorem sc_IdealHeap_fields_of : FnScope N_IdealHeap_fields_of ["self", "t"] (defScope s_IdealHeap_fields_of) := ⟨rfl, rfl, rfl, by decide +kernel, rfl, by decide +kernel, by decide +kernel⟩
theorem sc_thing_in : FnScope N_thing_in ["value"] (defScope s_thing_in) := ⟨rfl, rfl, rfl, by decide +kernel, rfl, by decide +kernel, by decide +kernel⟩
theorem sc_IdealHeap_hands : FnScope N_IdealHeap_hands ["self"] (defScope s_IdealHeap_hands) := ⟨rfl, rfl, rfl, by decide +kernel, rfl, by decide +kernel, by decide +kernel⟩
theorem sc_view_of : FnScope N_view_of ["hall"] (defScope s_view_of) := ⟨rfl, rfl, rfl, by decide +kernel, rfl, by decide +kernel, by decide +kernel⟩
theorem sc_look_at_told : FnScope N_look_at_told ["fields", "told"] (defScope s_look_at_told) := ⟨rfl, rfl, rfl, by decide +kernel, rfl, by decide +kernel, by decide +kernel⟩
theorem sc_look_at_view : FnScope N_look_at_view ["view"] (defScope s_look_at_view) := ⟨rfl, rfl, rfl, by decide +kernel, rfl, by decide +kernel, by decide +kernel⟩
theorem sc_grown_from : FnScope N_grown_from ["fields", "things"] (defScope s_grown_from) := ⟨rfl, rfl, rfl, by decide +kernel, rfl, by decide +kernel, by decide +kernel⟩
theorem sc_root_things : FnScope N_root_things ["view"] (defScope s_root_things) := ⟨rfl, rfl, rfl, by decide +kernel, rfl, by decide +kernel, by decide +kernel⟩
theorem sc_reached : FnScope N_reached ["view"] (defScope s_reached) := ⟨rfl, rfl, rfl, by decide +kernel, rfl, by decide +kernel, by decide +kernel⟩
theorem sc_words_reached : FnScope N_words_reached ["heap"] (defScope s_words_reached) := ⟨rfl, rfl, rfl, by decide +kernel, rfl, by decide +kernel, by decide +kernel⟩
theorem sc_most_reached : FnScope N_most_reached ["program", "steps"] (defScope s_most_reached) := ⟨rfl, rfl, rfl, by decide +kernel, rfl, by decide +kernel, by decide +kernel⟩
theorem sc_Paced___init__ : FnScope N_Paced___init__ ["self", "program", "hall", "pace"] (defScope s_Paced___init__) := ⟨rfl, rfl, rfl, by decide +kernel, rfl, by decide +kernel, by decide +kernel⟩
theorem sc_Memory___init__ : FnScope N_Memory___init__ ["self", "size"] (defScope s_Memory___init__) := ⟨rfl, rfl, rfl, by decide +kernel, rfl, by decide +kernel, by decide +kernel⟩
theorem sc_NameTable___init__ : FnScope N_NameTable___init__ ["self"] (defScope s_NameTable___init__) := ⟨rfl, rfl, rfl, by decide +kernel, rfl, by decide +kernel, by decide +kernel⟩
theorem sc_WordTable___init__ : FnScope N_WordTable___init__ ["self"] (defScope s_WordTable___init__) := ⟨rfl, rfl, rfl, by decide +kernel, rfl, by decide +kernel, by decide +kernel⟩
theorem sc_Halves___init__ : FnScope N_Halves___init__ ["self", "limit", "room", "young"] (defScope s_Halves___init__) := ⟨rfl, rfl, rfl, by decide +kernel, rfl, by decide +kernel, by decide +kernel⟩
theorem sc_OldMover___init__ : FnScope N_OldMover___init__ ["self", "limit"] (defScope s_OldMover___init__) := ⟨rfl, rfl, rfl, by decide +kernel, rfl, by decide +kernel, by decide +kernel⟩
theorem sc__law_word : FnScope N__law_word ["way", "most", "pace", "rows"] (defScope s__law_word) := ⟨rfl, rfl, rfl, by decide +kernel, rfl, by decide +kernel, by decide +kernel⟩
theorem sc_Running_told : FnScope N_Running_told ["self"] (defScope s_Running_told) := ⟨rfl, rfl, rfl, by decide +kernel, rfl, by decide +kernel, by decide +kernel⟩
theorem sc_Paced_told : FnScope N_Paced_told ["self"] (defScope s_Paced_told) := ⟨rfl, rfl, rfl, by decide +kernel, rfl, by decide +kernel, by decide +kernel⟩
theorem sc_Running_fault : FnScope N_Running_fault ["self"] (defScope s_Running_fault) := ⟨rfl, rfl, rfl, by decide +kernel, rfl, by decide +kernel, by decide +kernel⟩
theorem sc_Paced_fault : FnScope N_Paced_fault ["self"] (defScope s_Paced_fault) := ⟨rfl, rfl, rfl, by decide +kernel, rfl, by decide +kernel, by decide +kernel⟩
theorem sc_Paced_dearest : FnScope N_Paced_dearest ["self"] (defScope s_Paced_dearest) := ⟨rfl, rfl, rfl, by decide +kernel, rfl, by decide +kernel, by decide +kernel⟩
theorem sc_Paced_most_held : FnScope N_Paced_most_held ["self"] (defScope s_Paced_most_held) := ⟨rfl, rfl, rfl, by decide +kernel, rfl, by decide +kernel, by decide +kernel⟩
theorem sc_Paced_rounds : FnScope N_Paced_rounds ["self"] (defScope s_Paced_rounds) := ⟨rfl, rfl, rfl, by decide +kernel, rfl, by decide +kernel, by decide +kernel⟩
theorem sc__law_fresh : FnScope N__law_fresh ["paced"] (defScope s__law_fresh) := ⟨rfl, rfl, rfl, by decide +kernel, rfl, by decide +kernel, by decide +kernel⟩
theorem sc__law_right : FnScope N__law_right ["cell"] (defScope s__law_right) := ⟨rfl, rfl, rfl, by decide +kernel, rfl, by decide +kernel, by decide +kernel⟩
theorem sc_law : FnScope N_law ["script"] (defScope s_law) := ⟨rfl, rfl, rfl, by decide +kernel, rfl, by decide +kernel, by decide +kernel⟩
structure Tx (P : Program) (w : World) (K : PySem.W.Frag) (mg : Str → Option Value) (base : Heap) : Prop where
  X : K.In base
  G : base.Ns mainGlobals mg
  c : SaysY fa fn tabs ex w K
theorem Tx.t {P : Program} {w : World} {K : PySem.W.Frag} {mg : Str → Option Value} {base : Heap} (T : Tx P w K mg base) : He.SaysT fa fn tabs w K := T.c.t
theorem Tx.exf {P : Program} {w : World} {K : PySem.W.Frag} {mg : Str → Option Value} {base : Heap} (T : Tx P w K mg base) (i : Nat) {b : Bool} (h : (exl K)[i]? = some b) : b = true := by
  exact List.all_eq_true.mp T.c.more b (List.mem_of_getElem? h)
section
variable {P : Program} {w : World} {K : PySem.W.Frag} {mg : Str → Option Value} {base : Heap}
theorem ok__law_number (T : Tx P w K mg base) {f : Addr} {fd : FuncData} (F : FunD K "_law_number" "_law_number" (defArgs s__law_number) (defBody s__law_number) (defScope s__law_number) [] [] f fd) : GoodF P w K mg base 1 f fd ["cell", "least", "most"] (sp__law_number K) := by
  refine ⟨F.ok sc__law_number (fun vs H Q E h => h.1) (fun cdv A outer s H vs Q E hr h => ⟨t__law_number K E, ?_, h.2⟩), FunD.bindsN F fun _ _ _ _ _ _ us hl => match us, hl with | [_, _, _], _ => rfl, F.kp⟩
  have hu := hu_of hr
  have hdp := room_depth hr
  unfold t__law_number
  exact (pss_cons (ps_set (i := 3) sc__law_number.nd rfl (Or.inl rfl) (pe_op op_mod (pe_op op_fdivW (pv 0) pe_int) (pe_op op_pow pe_int pe_int)))
 (pss_one (ps_ret (pe_ix ix_list (pe_lst (pa_cons (pv 1) (pa_cons (pv 2) (pa_cons (pe_op op_add (pv 1) (pe_op op_mod (pv 3) (pe_op op_sub (pe_op op_add (pv 2) pe_int) (pv 1)))) (pa_cons (pe_op op_sub (pv 1) pe_int) (pa_cons (pe_op op_add (pv 2) pe_int) (pa_cons (pe_op op_sub (pe_op op_sub (pv 1) pe_int) (pv 3)) (pa_cons (pe_op op_add (pe_op op_add (pv 2) pe_int) (pv 3)) (pa_cons (pe_op op_add (pv 1) (pe_op op_mod (pe_op op_fdivW (pv 3) pe_int) (pe_op op_sub (pe_op op_add (pv 2) pe_int) (pv 1)))) pa_nil))))))))) (pe_op op_mod (pv 0) pe_int) (fun _ _ => rfl)))))
theorem gd__law_number (T : Tx P w K mg base) : Good P w K mg base 1 (He.fAd K (d__law_number).at_) ["cell", "least", "most"] (sp__law_number K) := by
  obtain ⟨fd, F⟩ := T.t.d.def_ 0 (d := d__law_number) rfl
  exact ⟨fd, ok__law_number T F⟩
theorem ok_parts_due (T : Tx P w K mg base) {f : Addr} {fd : FuncData} (F : FunD K "parts_due" "parts_due" (defArgs s_parts_due) (defBody s_parts_due) (defScope s_parts_due) [] [] f fd) : GoodF P w K mg base 1 f fd ["word"] (sp_parts_due K) := by
  refine ⟨F.ok sc_parts_due (fun vs H Q E h => h.1) (fun cdv A outer s H vs Q E hr h => ⟨t_parts_due K E, ?_, h.2⟩), FunD.bindsN F fun _ _ _ _ _ _ us hl => match us, hl with | [_], _ => rfl, F.kp⟩
  have hu := hu_of hr
  have hdp := room_depth hr
  unfold t_parts_due
  exact (pss_cons (ps_if (pt_cmpR op_in_seq (pv 0) (pe_tup (pa_cons pe_str (pa_cons pe_str (pa_cons pe_str (pa_cons pe_str (pa_cons pe_str (pa_cons pe_str (pa_cons pe_str pa_nil)))))))) (by first | exact nomark _ | with_unfolding_all rfl)) (pss_one (ps_ret pe_str)) pss_nil)
 (pss_cons (ps_if (pt_cmpR op_in_seq (pv 0) (pe_tup (pa_cons pe_str (pa_cons pe_str pa_nil))) (by first | exact nomark _ | with_unfolding_all rfl)) (pss_one (ps_ret pe_str)) pss_nil)
 (pss_cons (ps_if (pt_cmpR op_in_seq (pv 0) (pe_tup (pa_cons pe_str (pa_cons pe_str (pa_cons pe_str (pa_cons pe_str pa_nil))))) (by first | exact nomark _ | with_unfolding_all rfl)) (pss_one (ps_ret pe_str)) pss_nil)
 (pss_cons (ps_if (pt_cmpR op_eq (pv 0) pe_str (nomark _)) (pss_one (ps_ret pe_str)) pss_nil)
 (pss_cons (ps_if (pt_cmpR op_in_seq (pv 0) (pe_tup (pa_cons pe_str (pa_cons pe_str pa_nil))) (by first | exact nomark _ | with_unfolding_all rfl)) (pss_one (ps_ret pe_str)) pss_nil)
 (pss_cons (ps_if (pt_cmpR op_in_seq (pv 0) (pe_tup (pa_cons pe_str (pa_cons pe_str pa_nil))) (by first | exact nomark _ | with_unfolding_all rfl)) (pss_one (ps_ret pe_str)) pss_nil)
 (pss_cons (ps_if (pt_cmpR op_eq (pv 0) pe_str (nomark _)) (pss_one (ps_ret pe_str)) pss_nil)
 (pss_cons (ps_if (pt_cmpR op_eq (pv 0) pe_str (nomark _)) (pss_one (ps_ret pe_str)) pss_nil)
 (pss_one (ps_ret pe_non))))))))))
theorem gd_parts_due (T : Tx P w K mg base) : Good P w K mg base 1 (He.fAd K (d_parts_due).at_) ["word"] (sp_parts_due K) := by
  obtain ⟨fd, F⟩ := T.t.d.def_ 1 (d := d_parts_due) rfl
  exact ⟨fd, ok_parts_due T F⟩
theorem ok_are_all_in (T : Tx P w K mg base) {f : Addr} {fd : FuncData} (F : FunD K "are_all_in" "are_all_in" (defArgs s_are_all_in) (defBody s_are_all_in) (defScope s_are_all_in) [] [] f fd) : GoodF P w K mg base 1 f fd ["text", "signs"] (sp_are_all_in K) := by
  refine ⟨F.ok sc_are_all_in (fun vs H Q E h => h.1) (fun cdv A outer s H vs Q E hr h => ⟨t_are_all_in K E, ?_, h.2⟩), FunD.bindsN F fun _ _ _ _ _ _ us hl => match us, hl with | [_, _], _ => rfl, F.kp⟩
  have hu := hu_of hr
  have hdp := room_depth hr
  unfold t_are_all_in
  exact (pss_cons (ps_for (passes_of rfl) rfl (pi_str (pv 0)) (pg_name (i := 2) sc_are_all_in.nd rfl (Or.inl rfl)) (pss_one (ps_if (pt_cmpR op_notIn_sign (pv 2) (pv 1) (by first | exact nomark _ | with_unfolding_all rfl)) (pss_one (ps_ret pe_bl)) pss_nil)))
 (pss_one (ps_ret pe_bl)))
theorem gd_are_all_in (T : Tx P w K mg base) : Good P w K mg base 1 (He.fAd K (d_are_all_in).at_) ["text", "signs"] (sp_are_all_in K) := by
  obtain ⟨fd, F⟩ := T.t.d.def_ 2 (d := d_are_all_in) rfl
  exact ⟨fd, ok_are_all_in T F⟩
theorem ok_is_mark (T : Tx P w K mg base) {f : Addr} {fd : FuncData} (F : FunD K "is_mark" "is_mark" (defArgs s_is_mark) (defBody s_is_mark) (defScope s_is_mark) [] [] f fd) : GoodF P w K mg base 2 f fd ["text"] (sp_is_mark K) := by
  refine ⟨F.ok sc_is_mark (fun vs H Q E h => h.1) (fun cdv A outer s H vs Q E hr h => ⟨t_is_mark K E, ?_, h.2⟩), FunD.bindsN F fun _ _ _ _ _ _ us hl => match us, hl with | [_], _ => rfl, F.kp⟩
  have hu := hu_of hr
  have hdp := room_depth hr
  unfold t_is_mark
  exact (pss_one (ps_ret (pe_and (pe_chain op_le op_le pe_int (pe_callB call_len_str (by rfl) (He.free_ok T.X T.G (T.t.d.fact 4 (f := .free "len") rfl)) (by decide +kernel) (pa_cons (pv 0) pa_nil)) (pe_globI rfl (He.int_ok T.X T.G (T.t.d.fact 6 (f := .int "MOST_LETTERS" 8) rfl)))) (pe_one (pe_cU (gd_are_all_in T) (hr.mono (by decide)) (takes_of rfl rfl rfl rfl) rfl (He.glo_ok T.X T.G (T.t.d.fact 8 (f := .glo "are_all_in") rfl)) (pa_cons (pv 0) (pa_cons (pe_globS rfl (He.str_ok T.X T.G (T.t.d.fact 7 (f := .str "LETTERS" "abcdefghijklmnopqrstuvwxyz") rfl))) pa_nil)))))))
theorem gd_is_mark (T : Tx P w K mg base) : Good P w K mg base 2 (He.fAd K (d_is_mark).at_) ["text"] (sp_is_mark K) := by
  obtain ⟨fd, F⟩ := T.t.d.def_ 3 (d := d_is_mark) rfl
  exact ⟨fd, ok_is_mark T F⟩
theorem ok_is_plain (T : Tx P w K mg base) {f : Addr} {fd : FuncData} (F : FunD K "is_plain" "is_plain" (defArgs s_is_plain) (defBody s_is_plain) (defScope s_is_plain) [] [] f fd) : GoodF P w K mg base 2 f fd ["text"] (sp_is_plain K) := by
  refine ⟨F.ok sc_is_plain (fun vs H Q E h => h.1) (fun cdv A outer s H vs Q E hr h => ⟨t_is_plain K E, ?_, h.2⟩), FunD.bindsN F fun _ _ _ _ _ _ us hl => match us, hl with | [_], _ => rfl, F.kp⟩
  have hu := hu_of hr
  have hdp := room_depth hr
  unfold t_is_plain
  exact (pss_cons (ps_if (PW.pt (pw_or (pt_cmpR op_lt (pe_callB call_len_str (by rfl) (He.free_ok T.X T.G (T.t.d.fact 4 (f := .free "len") rfl)) (by decide +kernel) (pa_cons (pv 0) pa_nil)) pe_int (nomark _)) (pw_or (pt_cmpR op_gt (pe_callB call_len_str (by rfl) (He.free_ok T.X T.G (T.t.d.fact 4 (f := .free "len") rfl)) (by decide +kernel) (pa_cons (pv 0) pa_nil)) (pe_globI rfl (He.int_ok T.X T.G (T.t.d.fact 10 (f := .int "MOST_FIGURES" 61) rfl))) (nomark _)) (pw_or1 (pt_not (pt_val (pe_cU (gd_are_all_in T) (hr.mono (by decide)) (takes_of rfl rfl rfl rfl) rfl (He.glo_ok T.X T.G (T.t.d.fact 8 (f := .glo "are_all_in") rfl)) (pa_cons (pv 0) (pa_cons (pe_globS rfl (He.str_ok T.X T.G (T.t.d.fact 11 (f := .str "FIGURES" "0123456789") rfl))) pa_nil))))))))) (pss_one (ps_ret pe_bl)) pss_nil)
 (pss_one (ps_ret (pe_or (pe_cmpR op_eq (pv 0) pe_str (nomark _)) (pe_one (pe_cmpR op_ne (pe_ix ix_str (pv 0) pe_int (fun _ _ => rfl)) pe_str (nomark _)))))))
theorem gd_is_plain (T : Tx P w K mg base) : Good P w K mg base 2 (He.fAd K (d_is_plain).at_) ["text"] (sp_is_plain K) := by
  obtain ⟨fd, F⟩ := T.t.d.def_ 4 (d := d_is_plain) rfl
  exact ⟨fd, ok_is_plain T F⟩
theorem ok_part_in (T : Tx P w K mg base) {f : Addr} {fd : FuncData} (F : FunD K "part_in" "part_in" (defArgs s_part_in) (defBody s_part_in) (defScope s_part_in) [] [] f fd) : GoodF P w K mg base 3 f fd ["text", "kind"] (sp_part_in K) := by
  refine ⟨F.ok sc_part_in (fun vs H Q E h => h.1) (fun cdv A outer s H vs Q E hr h => ⟨t_part_in K E, ?_, h.2⟩), FunD.bindsN F fun _ _ _ _ _ _ us hl => match us, hl with | [_, _], _ => rfl, F.kp⟩
  have hu := hu_of hr
  have hdp := room_depth hr
  unfold t_part_in
  exact (pss_cons (ps_if (pt_cmpR op_eq (pv 1) pe_str (nomark _)) (pss_cons (ps_if (pt_val (pe_cU (gd_is_mark T) (hr.mono (by decide)) (takes_of rfl rfl rfl rfl) rfl (He.glo_ok T.X T.G (T.t.d.fact 9 (f := .glo "is_mark") rfl)) (pa_cons (pv 0) pa_nil))) (pss_one (ps_ret (pv 0))) pss_nil)
 (pss_one (ps_ret pe_non))) pss_nil)
 (pss_cons (ps_if (pt_val (pe_cU (gd_is_plain T) (hr.mono (by decide)) (takes_of rfl rfl rfl rfl) rfl (He.glo_ok T.X T.G (T.t.d.fact 12 (f := .glo "is_plain") rfl)) (pa_cons (pv 0) pa_nil))) (pss_one (ps_ret (pe_callTy call_int_str (by rfl) (He.free_ok T.X T.G (T.t.d.fact 13 (f := .free "int") rfl)) (by decide +kernel) (pa_cons (pv 0) pa_nil)))) pss_nil)
 (pss_cons (ps_if (PW.pt (pw_and (pt_cmpR op_eq (pv 1) pe_str (nomark _)) (pw_and (pt_cmpR op_eq (pe_slice sl_str (pv 0) po_none (po_some pe_int)) pe_str (nomark _)) (pw_and (pt_cmpR op_ne (pv 0) pe_str (nomark _)) (pw_and1 (pt_val (pe_cU (gd_is_plain T) (hr.mono (by decide)) (takes_of rfl rfl rfl rfl) rfl (He.glo_ok T.X T.G (T.t.d.fact 12 (f := .glo "is_plain") rfl)) (pa_cons (pe_slice sl_str (pv 0) (po_some pe_int) po_none) pa_nil)))))))) (pss_one (ps_ret (pe_un un_neg (pe_callTy call_int_str (by rfl) (He.free_ok T.X T.G (T.t.d.fact 13 (f := .free "int") rfl)) (by decide +kernel) (pa_cons (pe_slice sl_str (pv 0) (po_some pe_int) po_none) pa_nil))))) pss_nil)
 (pss_one (ps_ret pe_non)))))
theorem gd_part_in (T : Tx P w K mg base) : Good P w K mg base 3 (He.fAd K (d_part_in).at_) ["text", "kind"] (sp_part_in K) := by
  obtain ⟨fd, F⟩ := T.t.d.def_ 5 (d := d_part_in) rfl
  exact ⟨fd, ok_part_in T F⟩
theorem ok_row_in (T : Tx P w K mg base) {f : Addr} {fd : FuncData} (F : FunD K "row_in" "row_in" (defArgs s_row_in) (defBody s_row_in) (defScope s_row_in) [] [] f fd) : GoodF P w K mg base 4 f fd ["text"] (sp_row_in K) := by
  refine ⟨F.ok sc_row_in (fun vs H Q E h => h.1) (fun cdv A outer s H vs Q E hr h => ⟨t_row_in K E, ?_, h.2⟩), FunD.bindsN F fun _ _ _ _ _ _ us hl => match us, hl with | [_], _ => rfl, F.kp⟩
  have hu := hu_of hr
  have hdp := room_depth hr
  unfold t_row_in
  exact (pss_cons (ps_set (i := 1) sc_row_in.nd rfl (Or.inr rfl) (pe_split (pv 0) pe_str))
 (pss_cons (ps_set (i := 2) sc_row_in.nd rfl (Or.inl rfl) (pe_cU (gd_parts_due T) (hr.mono (by decide)) (takes_of rfl rfl rfl rfl) rfl (He.glo_ok T.X T.G (T.t.d.fact 3 (f := .glo "parts_due") rfl)) (pa_cons (pe_ix ix_list (pv 1) pe_int (fun _ _ => rfl)) pa_nil)))
 (pss_cons (ps_if (PW.pt (pw_or (pt_cmpR op_isN (pv 2) pe_non (nomark _)) (pw_or1 (pt_cmpR op_ne (pe_callB call_len_seq (by rfl) (He.free_ok T.X T.G (T.t.d.fact 4 (f := .free "len") rfl)) (by decide +kernel) (pa_cons (pv 1) pa_nil)) (pe_op op_add (pe_callB call_len_str (by rfl) (He.free_ok T.X T.G (T.t.d.fact 4 (f := .free "len") rfl)) (by decide +kernel) (pa_cons (pv 2) pa_nil)) pe_int) (nomark _))))) (pss_one (ps_ret pe_non)) pss_nil)
 (pss_cons (ps_setLc (i := 3) (own := [("place", 4), ("kind", 5)]) (g := (gTup K 2 (gCons (gName 4) (gCons (gName 5) gNil)))) (tt := tYes) (by rfl) sc_row_in.nd rfl rfl (sw_true rfl rfl rfl (by decide +kernel)) (pi_enumX (by rfl) (He.free_ok T.X T.G (T.t.d.fact 5 (f := .free "enumerate") rfl)) (pa_cons (pv 2) pa_nil)) (blkOk_by (own := [("place", 4), ("kind", 5)]) (N := N_row_in) (sc := defScope s_row_in) (by decide +kernel)) (fun _ _ _ _ _ => (pg_tup rfl (pgs_cons (pg_name (i := 4) sc_row_in.nd rfl (Or.inl rfl)) (pgs_cons (pg_name (i := 5) sc_row_in.nd rfl (Or.inl rfl)) pgs_nil)))) (fun _ _ _ _ _ => pts_nil) (fun _ _ _ _ _ => (pe_cU (gd_part_in T) (hr.mono (by decide)) takes0 rfl (He.glo_ok T.X T.G (T.t.d.fact 14 (f := .glo "part_in") rfl)) (pa_cons (pe_ix ix_list (pv 1) (pe_op op_add (pv 4) pe_int) (fun _ _ => rfl)) (pa_cons (pv 5) pa_nil)))))
 (pss_cons (ps_if (pt_cmpR op_in_seq pe_non (pv 3) (by first | exact nomark _ | with_unfolding_all rfl)) (pss_one (ps_ret pe_non)) pss_nil)
 (pss_one (ps_ret (pe_callTy call_tuple_of (by rfl) (He.free_ok T.X T.G (T.t.d.fact 15 (f := .free "tuple") rfl)) (by decide +kernel) (pa_cons (pe_op op_catS (pe_lst (pa_cons (pe_ix ix_list (pv 1) pe_int (fun _ _ => rfl)) pa_nil)) (pv 3)) pa_nil)))))))))
theorem gd_row_in (T : Tx P w K mg base) : Good P w K mg base 4 (He.fAd K (d_row_in).at_) ["text"] (sp_row_in K) := by
  obtain ⟨fd, F⟩ := T.t.d.def_ 6 (d := d_row_in) rfl
  exact ⟨fd, ok_row_in T F⟩
theorem ok_marks_in (T : Tx P w K mg base) {f : Addr} {fd : FuncData} (F : FunD K "marks_in" "marks_in" (defArgs s_marks_in) (defBody s_marks_in) (defScope s_marks_in) [] [] f fd) : GoodF P w K mg base 1 f fd ["rows"] (sp_marks_in K) := by
  refine ⟨F.ok sc_marks_in (fun vs H Q E h => h.1) (fun cdv A outer s H vs Q E hr h => ⟨t_marks_in K E, ?_, h.2⟩), FunD.bindsN F fun _ _ _ _ _ _ us hl => match us, hl with | [_], _ => rfl, F.kp⟩
  have hu := hu_of hr
  have hdp := room_depth hr
  unfold t_marks_in
  exact (pss_cons (ps_set (i := 1) sc_marks_in.nd rfl (Or.inl rfl) pe_dnewK)
 (pss_cons (ps_for (passes_of rfl) rfl (pi_enumX (by rfl) (He.free_ok T.X T.G (T.t.d.fact 5 (f := .free "enumerate") rfl)) (pa_cons (pv 0) pa_nil)) (pg_tup rfl (pgs_cons (pg_name (i := 2) sc_marks_in.nd rfl (Or.inl rfl)) (pgs_cons (pg_name (i := 3) sc_marks_in.nd rfl (Or.inl rfl)) pgs_nil))) (pss_one (ps_if (PW.pt (pw_and (pt_cmpR op_notN (pv 3) pe_non (nomark _)) (pw_and (pt_cmpR op_eq (pe_ix ix_tup (pv 3) pe_int (fun _ _ => rfl)) pe_str (nomark _)) (pw_and1 (pt_cmp (pc_dnotin hu (pe_ix ix_tup (pv 3) pe_int (fun _ _ => rfl)) (pv 1))))))) (pss_one (ps_dput hu (pv 1) (pe_ix ix_tup (pv 3) pe_int (fun _ _ => rfl)) (pv 2) rfl)) pss_nil)))
 (pss_one (ps_ret (pv 1)))))
theorem gd_marks_in (T : Tx P w K mg base) : Good P w K mg base 1 (He.fAd K (d_marks_in).at_) ["rows"] (sp_marks_in K) := by
  obtain ⟨fd, F⟩ := T.t.d.def_ 7 (d := d_marks_in) rfl
  exact ⟨fd, ok_marks_in T F⟩
theorem ok_BadText___init__ (T : Tx P w K mg base) {f : Addr} {fd : FuncData} (F : FunD K "__init__" "BadText.__init__" (defArgs s_BadText___init__) (defBody s_BadText___init__) (defScope s_BadText___init__) [] [] f fd) : GoodF P w K mg base 1 f fd ["self", "words", "row"] (sp_BadText___init__ K) := by
  refine ⟨F.ok sc_BadText___init__ (fun vs H Q E h => h.1) (fun cdv A outer s H vs Q E hr h => ⟨t_BadText___init__ K E, ?_, h.2⟩), FunD.bindsN F fun _ _ _ _ _ _ us hl => match us, hl with | [_, _, _], _ => rfl, F.kp⟩
  have hu := hu_of hr
  have hdp := room_depth hr
  unfold t_BadText___init__
  exact (pss_cons (ps_expr (pe_binit (baseInitB_ok (T.exf 0 rfl)) rfl (He.glo_ok T.X T.G (T.t.d.fact 19 (f := .glo "HeapError") rfl)) (pa_cons (pv 0) (pa_cons (pv 1) pa_nil))))
 (pss_one (ps_ost (pv 0) (pv 2))))
theorem gd_BadText___init__ (T : Tx P w K mg base) : Good P w K mg base 1 (He.fAd K (d_BadText___init__).at_) ["self", "words", "row"] (sp_BadText___init__ K) := by
  obtain ⟨fd, F⟩ := T.t.d.def_ 8 (d := d_BadText___init__) rfl
  exact ⟨fd, ok_BadText___init__ T F⟩
theorem ok_mark_of (T : Tx P w K mg base) {f : Addr} {fd : FuncData} (F : FunD K "mark_of" "mark_of" (defArgs s_mark_of) (defBody s_mark_of) (defScope s_mark_of) [] [] f fd) : GoodF P w K mg base 1 f fd ["row"] (sp_mark_of K) := by
  refine ⟨F.ok sc_mark_of (fun vs H Q E h => h.1) (fun cdv A outer s H vs Q E hr h => ⟨t_mark_of K E, ?_, h.2⟩), FunD.bindsN F fun _ _ _ _ _ _ us hl => match us, hl with | [_], _ => rfl, F.kp⟩
  have hu := hu_of hr
  have hdp := room_depth hr
  unfold t_mark_of
  exact (pss_cons (ps_if (pt_cmpR op_in_seq (pe_ix ix_tup (pv 0) pe_int (fun _ _ => rfl)) (pe_tup (pa_cons pe_str (pa_cons pe_str (pa_cons pe_str (pa_cons pe_str pa_nil))))) (by first | exact nomark _ | with_unfolding_all rfl)) (pss_one (ps_ret (pe_ix ix_tup (pv 0) (pe_un un_neg pe_int) (fun _ _ => rfl)))) pss_nil)
 (pss_one (ps_ret pe_non)))
theorem gd_mark_of (T : Tx P w K mg base) : Good P w K mg base 1 (He.fAd K (d_mark_of).at_) ["row"] (sp_mark_of K) := by
  obtain ⟨fd, F⟩ := T.t.d.def_ 9 (d := d_mark_of) rfl
  exact ⟨fd, ok_mark_of T F⟩
theorem ok_read_program (T : Tx P w K mg base) {f : Addr} {fd : FuncData} (F : FunD K "read_program" "read_program" (defArgs s_read_program) (defBody s_read_program) (defScope s_read_program) [] [] f fd) : GoodF P w K mg base 5 f fd ["text"] (sp_read_program K) := by
  refine ⟨F.ok sc_read_program (fun vs H Q E h => h.1) (fun cdv A outer s H vs Q E hr h => ⟨t_read_program K E, ?_, h.2⟩), FunD.bindsN F fun _ _ _ _ _ _ us hl => match us, hl with | [_], _ => rfl, F.kp⟩
  have hu := hu_of hr
  have hdp := room_depth hr
  unfold t_read_program
  exact (pss_cons (ps_set (i := 1) sc_read_program.nd rfl (Or.inl rfl) (pe_split (pv 0) pe_str))
 (pss_cons (ps_setLc (i := 2) (own := [("one", 6)]) (g := (gName 6)) (tt := tYes) (by rfl) sc_read_program.nd rfl rfl (sw_true rfl rfl rfl (by decide +kernel)) (pi_list (pv 1)) (blkOk_by (own := [("one", 6)]) (N := N_read_program) (sc := defScope s_read_program) (by decide +kernel)) (fun _ _ _ _ _ => (pg_name (i := 6) sc_read_program.nd rfl (Or.inl rfl))) (fun _ _ _ _ _ => pts_nil) (fun _ _ _ _ _ => (pe_cU (gd_row_in T) (hr.mono (by decide)) takes0 rfl (He.glo_ok T.X T.G (T.t.d.fact 16 (f := .glo "row_in") rfl)) (pa_cons (pv 6) pa_nil))))
 (pss_cons (ps_set (i := 3) sc_read_program.nd rfl (Or.inl rfl) (pe_cU (gd_marks_in T) (hr.mono (by decide)) (takes_of rfl rfl rfl rfl) rfl (He.glo_ok T.X T.G (T.t.d.fact 17 (f := .glo "marks_in") rfl)) (pa_cons (pv 2) pa_nil)))
 (pss_cons (ps_for (passes_of rfl) rfl (pi_enumX (by rfl) (He.free_ok T.X T.G (T.t.d.fact 5 (f := .free "enumerate") rfl)) (pa_cons (pv 2) pa_nil)) (pg_tup rfl (pgs_cons (pg_name (i := 4) sc_read_program.nd rfl (Or.inl rfl)) (pgs_cons (pg_name (i := 5) sc_read_program.nd rfl (Or.inl rfl)) pgs_nil))) (pss_cons (ps_if (PW.pt (pw_or (pt_cmpR op_isN (pv 5) pe_non (nomark _)) (pw_or1 (pt_cmpR op_ge (pv 4) (pe_globI rfl (He.int_ok T.X T.G (T.t.d.fact 18 (f := .int "MOST_ROWS" 200) rfl))) (nomark _))))) (pss_one (ps_rzo rfl (takes_of rfl rfl rfl rfl) (oexB_ok (T.exf 1 rfl)) (He.meth_ok (T.t.d.fact 21 (f := .meth "BadText" "__init__") rfl)).at_ (beq_iff_eq.mp (He.meth_ok (T.t.d.fact 21 (f := .meth "BadText" "__init__") rfl)).fn) (gd_BadText___init__ T) (hr.mono (by decide)) rfl (He.glo_ok T.X T.G (T.t.d.fact 22 (f := .glo "BadText") rfl)) (pa_cons pe_str (pa_cons (pe_op op_add (pv 4) pe_int) pa_nil)))) pss_nil)
 (pss_cons (ps_if (PW.pt (pw_and (pt_cmpR op_eq (pe_ix ix_tup (pv 5) pe_int (fun _ _ => rfl)) pe_str (nomark _)) (pw_and1 (pt_cmpR op_ne (pe_dget hu (pv 3) (pe_ix ix_tup (pv 5) pe_int (fun _ _ => rfl)) (fun _ _ => rfl)) (pv 4) (nomark _))))) (pss_one (ps_rzo rfl (takes_of rfl rfl rfl rfl) (oexB_ok (T.exf 1 rfl)) (He.meth_ok (T.t.d.fact 21 (f := .meth "BadText" "__init__") rfl)).at_ (beq_iff_eq.mp (He.meth_ok (T.t.d.fact 21 (f := .meth "BadText" "__init__") rfl)).fn) (gd_BadText___init__ T) (hr.mono (by decide)) rfl (He.glo_ok T.X T.G (T.t.d.fact 22 (f := .glo "BadText") rfl)) (pa_cons pe_str (pa_cons (pe_op op_add (pv 4) pe_int) pa_nil)))) pss_nil)
 (pss_one (ps_if (PW.pt (pw_and (pt_cmpR op_notN (pe_cU (gd_mark_of T) (hr.mono (by decide)) (takes_of rfl rfl rfl rfl) rfl (He.glo_ok T.X T.G (T.t.d.fact 23 (f := .glo "mark_of") rfl)) (pa_cons (pv 5) pa_nil)) pe_non (nomark _)) (pw_and1 (pt_cmp (pc_dnotin hu (pe_cU (gd_mark_of T) (hr.mono (by decide)) (takes_of rfl rfl rfl rfl) rfl (He.glo_ok T.X T.G (T.t.d.fact 23 (f := .glo "mark_of") rfl)) (pa_cons (pv 5) pa_nil)) (pv 3)))))) (pss_one (ps_rzo rfl (takes_of rfl rfl rfl rfl) (oexB_ok (T.exf 1 rfl)) (He.meth_ok (T.t.d.fact 21 (f := .meth "BadText" "__init__") rfl)).at_ (beq_iff_eq.mp (He.meth_ok (T.t.d.fact 21 (f := .meth "BadText" "__init__") rfl)).fn) (gd_BadText___init__ T) (hr.mono (by decide)) rfl (He.glo_ok T.X T.G (T.t.d.fact 22 (f := .glo "BadText") rfl)) (pa_cons pe_str (pa_cons (pe_op op_add (pv 4) pe_int) pa_nil)))) pss_nil)))))
 (pss_one (ps_ret (pe_callTy call_tuple_of (by rfl) (He.free_ok T.X T.G (T.t.d.fact 15 (f := .free "tuple") rfl)) (by decide +kernel) (pa_cons (pv 2) pa_nil))))))))
theorem gd_read_program (T : Tx P w K mg base) : Good P w K mg base 5 (He.fAd K (d_read_program).at_) ["text"] (sp_read_program K) := by
  obtain ⟨fd, F⟩ := T.t.d.def_ 10 (d := d_read_program) rfl
  exact ⟨fd, ok_read_program T F⟩
theorem ok_look_at_pace (T : Tx P w K mg base) {f : Addr} {fd : FuncData} (F : FunD K "look_at_pace" "look_at_pace" (defArgs s_look_at_pace) (defBody s_look_at_pace) (defScope s_look_at_pace) [] [] f fd) : GoodF P w K mg base 1 f fd ["pace"] (sp_look_at_pace K) := by
  refine ⟨F.ok sc_look_at_pace (fun vs H Q E h => h.1) (fun cdv A outer s H vs Q E hr h => ⟨t_look_at_pace K E, ?_, h.2⟩), FunD.bindsN F fun _ _ _ _ _ _ us hl => match us, hl with | [_], _ => rfl, F.kp⟩
  have hu := hu_of hr
  have hdp := room_depth hr
  unfold t_look_at_pace
  exact (pss_one (ps_if (PW.pt (pw_or (pt_cmpR op_lt (pv 0) pe_int (nomark _)) (pw_or1 (pt_cmpR op_gt (pv 0) (pe_globI rfl (He.int_ok T.X T.G (T.t.d.fact 28 (f := .int "MOST_PACE" 100) rfl))) (nomark _))))) (pss_one (ps_rz rfl (takes_of rfl rfl rfl rfl) (He.glo_ok T.X T.G (T.t.d.fact 26 (f := .glo "BadCount") rfl)) (He.exc_ok (T.t.d.fact 27 (f := .exc "BadCount") rfl)))) pss_nil))
theorem gd_look_at_pace (T : Tx P w K mg base) : Good P w K mg base 1 (He.fAd K (d_look_at_pace).at_) ["pace"] (sp_look_at_pace K) := by
  obtain ⟨fd, F⟩ := T.t.d.def_ 11 (d := d_look_at_pace) rfl
  exact ⟨fd, ok_look_at_pace T F⟩
theorem ok_room_needed (T : Tx P w K mg base) {f : Addr} {fd : FuncData} (F : FunD K "room_needed" "room_needed" (defArgs s_room_needed) (defBody s_room_needed) (defScope s_room_needed) [] [] f fd) : GoodF P w K mg base 2 f fd ["most", "pace"] (sp_room_needed K) := by
  refine ⟨F.ok sc_room_needed (fun vs H Q E h => h.1) (fun cdv A outer s H vs Q E hr h => ⟨t_room_needed K E, ?_, h.2⟩), FunD.bindsN F fun _ _ _ _ _ _ us hl => match us, hl with | [_, _], _ => rfl, F.kp⟩
  have hu := hu_of hr
  have hdp := room_depth hr
  unfold t_room_needed
  exact (pss_cons (ps_if (PW.pt (pw_or (pt_cmpR op_lt (pv 0) pe_int (nomark _)) (pw_or1 (pt_cmpR op_gt (pv 0) (pe_globI rfl (He.int_ok T.X T.G (T.t.d.fact 25 (f := .int "MOST_LIMIT_pace" 400) rfl))) (nomark _))))) (pss_one (ps_rz rfl (takes_of rfl rfl rfl rfl) (He.glo_ok T.X T.G (T.t.d.fact 26 (f := .glo "BadCount") rfl)) (He.exc_ok (T.t.d.fact 27 (f := .exc "BadCount") rfl)))) pss_nil)
 (pss_cons (ps_expr (pe_cU (gd_look_at_pace T) (hr.mono (by decide)) (takes_of rfl rfl rfl rfl) rfl (He.glo_ok T.X T.G (T.t.d.fact 29 (f := .glo "look_at_pace") rfl)) (pa_cons (pv 1) pa_nil)))
 (pss_one (ps_ret (pe_op op_add (pv 0) (pe_op op_mul pe_int (pe_op op_add (pe_op op_fdivW (pv 0) (pv 1)) (pe_globI rfl (He.int_ok T.X T.G (T.t.d.fact 30 (f := .int "SPARE" 16) rfl))))))))))
theorem gd_room_needed (T : Tx P w K mg base) : Good P w K mg base 2 (He.fAd K (d_room_needed).at_) ["most", "pace"] (sp_room_needed K) := by
  obtain ⟨fd, F⟩ := T.t.d.def_ 12 (d := d_room_needed) rfl
  exact ⟨fd, ok_room_needed T F⟩
theorem ok_look_at_limits (T : Tx P w K mg base) {f : Addr} {fd : FuncData} (F : FunD K "look_at_limits" "look_at_limits" (defArgs s_look_at_limits) (defBody s_look_at_limits) (defScope s_look_at_limits) [] [] f fd) : GoodF P w K mg base 1 f fd ["young", "limit"] (sp_look_at_limits K) := by
  refine ⟨F.ok sc_look_at_limits (fun vs H Q E h => h.1) (fun cdv A outer s H vs Q E hr h => ⟨t_look_at_limits K E, ?_, h.2⟩), FunD.bindsN F fun _ _ _ _ _ _ us hl => match us, hl with | [_, _], _ => rfl, F.kp⟩
  have hu := hu_of hr
  have hdp := room_depth hr
  unfold t_look_at_limits
  exact (pss_cons (ps_if (PW.pt (pw_and (pt_cmpR op_ne (pv 0) pe_int (nomark _)) (pw_and1 (PW.pt (pw_or (pt_cmpR op_lt (pv 0) (pe_globI rfl (He.int_ok T.X T.G (T.t.d.fact 33 (f := .int "LEAST_ROOM" 7) rfl))) (nomark _)) (pw_or1 (pt_cmpR op_gt (pv 0) (pe_globI rfl (He.int_ok T.X T.G (T.t.d.fact 34 (f := .int "MOST_YOUNG" 64) rfl))) (nomark _)))))))) (pss_one (ps_rz rfl (takes_of rfl rfl rfl rfl) (He.glo_ok T.X T.G (T.t.d.fact 26 (f := .glo "BadCount") rfl)) (He.exc_ok (T.t.d.fact 27 (f := .exc "BadCount") rfl)))) pss_nil)
 (pss_one (ps_if (PW.pt (pw_or (pt_cmpR op_lt (pv 1) (pe_globI rfl (He.int_ok T.X T.G (T.t.d.fact 33 (f := .int "LEAST_ROOM" 7) rfl))) (nomark _)) (pw_or1 (pt_cmpR op_gt (pv 1) (pe_globI rfl (He.int_ok T.X T.G (T.t.d.fact 35 (f := .int "MOST_LIMIT_values" 400) rfl))) (nomark _))))) (pss_one (ps_rz rfl (takes_of rfl rfl rfl rfl) (He.glo_ok T.X T.G (T.t.d.fact 26 (f := .glo "BadCount") rfl)) (He.exc_ok (T.t.d.fact 27 (f := .exc "BadCount") rfl)))) pss_nil)))
theorem gd_look_at_limits (T : Tx P w K mg base) : Good P w K mg base 1 (He.fAd K (d_look_at_limits).at_) ["young", "limit"] (sp_look_at_limits K) := by
  obtain ⟨fd, F⟩ := T.t.d.def_ 13 (d := d_look_at_limits) rfl
  exact ⟨fd, ok_look_at_limits T F⟩
theorem ok_IdealHeap___init__ (T : Tx P w K mg base) {f : Addr} {fd : FuncData} (F : FunD K "__init__" "IdealHeap.__init__" (defArgs s_IdealHeap___init__) (defBody s_IdealHeap___init__) (defScope s_IdealHeap___init__) [] [] f fd) : GoodF P w K mg base 2 f fd ["self", "young", "limit"] (sp_IdealHeap___init__ K) := by
  refine ⟨F.ok sc_IdealHeap___init__ (fun vs H Q E h => h.1) (fun cdv A outer s H vs Q E hr h => ⟨t_IdealHeap___init__ K E, ?_, h.2⟩), FunD.bindsN F fun _ _ _ _ _ _ us hl => match us, hl with | [_, _, _], _ => rfl, F.kp⟩
  have hu := hu_of hr
  have hdp := room_depth hr
  unfold t_IdealHeap___init__
  exact (pss_cons (ps_expr (pe_cU (gd_look_at_limits T) (hr.mono (by decide)) (takes_of rfl rfl rfl rfl) rfl (He.glo_ok T.X T.G (T.t.d.fact 36 (f := .glo "look_at_limits") rfl)) (pa_cons (pv 1) (pa_cons (pv 2) pa_nil))))
 (pss_cons (ps_fd (fdok_cons (He.cls_ok (T.t.d.fact 37 (f := .cls "IdealHeap") rfl)) (He.noat_ok (T.t.d.fact 38 (f := .noat "IdealHeap" "room") rfl)) fdok_nil) (pv 0) (pv 1) rfl)
 (pss_cons (ps_fd (fdok_cons (He.cls_ok (T.t.d.fact 37 (f := .cls "IdealHeap") rfl)) (He.noat_ok (T.t.d.fact 39 (f := .noat "IdealHeap" "limit") rfl)) fdok_nil) (pv 0) (pv 2) rfl)
 (pss_cons (ps_fd (fdok_cons (He.cls_ok (T.t.d.fact 37 (f := .cls "IdealHeap") rfl)) (He.noat_ok (T.t.d.fact 41 (f := .noat "IdealHeap" "in_hands") rfl)) fdok_nil) (pv 0) (pe_lc (own := [("hand", 3)]) (g := (gName 3)) (tt := tYes) (by rfl) sc_IdealHeap___init__.nd (pi_range1 (by rfl) (He.free_ok T.X T.G (T.t.d.fact 0 (f := .free "range") rfl)) (pa_cons (pe_globI rfl (He.int_ok T.X T.G (T.t.d.fact 40 (f := .int "HANDS" 8) rfl))) pa_nil)) (blkOk_by (own := [("hand", 3)]) (N := N_IdealHeap___init__) (sc := defScope s_IdealHeap___init__) (by decide +kernel)) (fun _ _ _ _ _ => (pg_name (i := 3) sc_IdealHeap___init__.nd rfl (Or.inl rfl))) (fun _ _ _ _ _ => pts_nil) (fun _ _ _ _ _ => pe_non)) rfl)
 (pss_cons (ps_fd (fdok_cons (He.cls_ok (T.t.d.fact 37 (f := .cls "IdealHeap") rfl)) (He.noat_ok (T.t.d.fact 43 (f := .noat "IdealHeap" "naming") rfl)) fdok_nil) (pv 0) (pe_lc (own := [("name", 4)]) (g := (gName 4)) (tt := tYes) (by rfl) sc_IdealHeap___init__.nd (pi_range1 (by rfl) (He.free_ok T.X T.G (T.t.d.fact 0 (f := .free "range") rfl)) (pa_cons (pe_globI rfl (He.int_ok T.X T.G (T.t.d.fact 42 (f := .int "NAMES" 8) rfl))) pa_nil)) (blkOk_by (own := [("name", 4)]) (N := N_IdealHeap___init__) (sc := defScope s_IdealHeap___init__) (by decide +kernel)) (fun _ _ _ _ _ => (pg_name (i := 4) sc_IdealHeap___init__.nd rfl (Or.inl rfl))) (fun _ _ _ _ _ => pts_nil) (fun _ _ _ _ _ => pe_non)) rfl)
 (pss_cons (ps_fd (fdok_cons (He.cls_ok (T.t.d.fact 37 (f := .cls "IdealHeap") rfl)) (He.noat_ok (T.t.d.fact 44 (f := .noat "IdealHeap" "kept") rfl)) fdok_nil) (pv 0) pe_dnewK rfl)
 (pss_cons (ps_fd (fdok_cons (He.cls_ok (T.t.d.fact 37 (f := .cls "IdealHeap") rfl)) (He.noat_ok (T.t.d.fact 45 (f := .noat "IdealHeap" "count") rfl)) fdok_nil) (pv 0) pe_int rfl)
 (pss_cons (ps_fd (fdok_cons (He.cls_ok (T.t.d.fact 37 (f := .cls "IdealHeap") rfl)) (He.noat_ok (T.t.d.fact 46 (f := .noat "IdealHeap" "going") rfl)) fdok_nil) (pv 0) pe_non rfl)
 (pss_one (ps_fd (fdok_cons (He.cls_ok (T.t.d.fact 37 (f := .cls "IdealHeap") rfl)) (He.noat_ok (T.t.d.fact 47 (f := .noat "IdealHeap" "spoken") rfl)) fdok_nil) (pv 0) (pe_lst pa_nil) rfl))))))))))
theorem gd_IdealHeap___init__ (T : Tx P w K mg base) : Good P w K mg base 2 (He.fAd K (d_IdealHeap___init__).at_) ["self", "young", "limit"] (sp_IdealHeap___init__ K) := by
  obtain ⟨fd, F⟩ := T.t.d.def_ 14 (d := d_IdealHeap___init__) rfl
  exact ⟨fd, ok_IdealHeap___init__ T F⟩
theorem ok_Running___init__ (T : Tx P w K mg base) {f : Addr} {fd : FuncData} (F : FunD K "__init__" "Running.__init__" (defArgs s_Running___init__) (defBody s_Running___init__) (defScope s_Running___init__) [] [] f fd) : GoodF P w K mg base 2 f fd ["self", "program", "hall"] (sp_Running___init__ K) := by
  refine ⟨F.ok sc_Running___init__ (fun vs H Q E h => h.1) (fun cdv A outer s H vs Q E hr h => ⟨t_Running___init__ K E, ?_, h.2⟩), FunD.bindsN F fun _ _ _ _ _ _ us hl => match us, hl with | [_, _, _], _ => rfl, F.kp⟩
  have hu := hu_of hr
  have hdp := room_depth hr
  unfold t_Running___init__
  exact (pss_cons (ps_fd (fdok_cons (He.cls_ok (T.t.d.fact 50 (f := .cls "Running") rfl)) (He.noat_ok (T.t.d.fact 51 (f := .noat "Running" "program") rfl)) fdok_nil) (pv 0) (pe_callTy call_tuple_of (by rfl) (He.free_ok T.X T.G (T.t.d.fact 15 (f := .free "tuple") rfl)) (by decide +kernel) (pa_cons (pv 1) pa_nil)) rfl)
 (pss_cons (ps_fd (fdok_cons (He.cls_ok (T.t.d.fact 50 (f := .cls "Running") rfl)) (He.noat_ok (T.t.d.fact 52 (f := .noat "Running" "hall") rfl)) fdok_nil) (pv 0) (pv 2) rfl)
 (pss_cons (ps_fd (fdok_cons (He.cls_ok (T.t.d.fact 50 (f := .cls "Running") rfl)) (He.noat_ok (T.t.d.fact 53 (f := .noat "Running" "places") rfl)) fdok_nil) (pv 0) (pe_cU (gd_marks_in T) (hr.mono (by decide)) (takes_of rfl rfl rfl rfl) rfl (He.glo_ok T.X T.G (T.t.d.fact 17 (f := .glo "marks_in") rfl)) (pa_cons (pe_fd (fdok_cons (He.cls_ok (T.t.d.fact 50 (f := .cls "Running") rfl)) (He.noat_ok (T.t.d.fact 51 (f := .noat "Running" "program") rfl)) fdok_nil) (pv 0) rfl) pa_nil)) rfl)
 (pss_cons (ps_fd (fdok_cons (He.cls_ok (T.t.d.fact 50 (f := .cls "Running") rfl)) (He.noat_ok (T.t.d.fact 54 (f := .noat "Running" "spot") rfl)) fdok_nil) (pv 0) pe_int rfl)
 (pss_cons (ps_fd (fdok_cons (He.cls_ok (T.t.d.fact 50 (f := .cls "Running") rfl)) (He.noat_ok (T.t.d.fact 55 (f := .noat "Running" "rows_done") rfl)) fdok_nil) (pv 0) pe_int rfl)
 (pss_cons (ps_fd (fdok_cons (He.cls_ok (T.t.d.fact 50 (f := .cls "Running") rfl)) (He.noat_ok (T.t.d.fact 56 (f := .noat "Running" "lines") rfl)) fdok_nil) (pv 0) (pe_lst pa_nil) rfl)
 (pss_one (ps_fd (fdok_cons (He.cls_ok (T.t.d.fact 50 (f := .cls "Running") rfl)) (He.noat_ok (T.t.d.fact 57 (f := .noat "Running" "broken") rfl)) fdok_nil) (pv 0) pe_non rfl))))))))
theorem gd_Running___init__ (T : Tx P w K mg base) : Good P w K mg base 2 (He.fAd K (d_Running___init__).at_) ["self", "program", "hall"] (sp_Running___init__ K) := by
  obtain ⟨fd, F⟩ := T.t.d.def_ 15 (d := d_Running___init__) rfl
  exact ⟨fd, ok_Running___init__ T F⟩
theorem ok_Running_at (T : Tx P w K mg base) {f : Addr} {fd : FuncData} (F : FunD K "at" "Running.at" (defArgs s_Running_at) (defBody s_Running_at) (defScope s_Running_at) [] [] f fd) : GoodF P w K mg base 1 f fd ["self"] (sp_Running_at K) := by
  refine ⟨F.ok sc_Running_at (fun vs H Q E h => h.1) (fun cdv A outer s H vs Q E hr h => ⟨t_Running_at K E, ?_, h.2⟩), FunD.bindsN F fun _ _ _ _ _ _ us hl => match us, hl with | [_], _ => rfl, F.kp⟩
  have hu := hu_of hr
  have hdp := room_depth hr
  unfold t_Running_at
  exact (pss_cons (ps_if (PW.pt (pw_or (pt_cmpR op_notN (pe_fd (fdok_cons (He.cls_ok (T.t.d.fact 50 (f := .cls "Running") rfl)) (He.noat_ok (T.t.d.fact 57 (f := .noat "Running" "broken") rfl)) fdok_nil) (pv 0) rfl) pe_non (nomark _)) (pw_or1 (pt_cmpR op_ge (pe_fd (fdok_cons (He.cls_ok (T.t.d.fact 50 (f := .cls "Running") rfl)) (He.noat_ok (T.t.d.fact 54 (f := .noat "Running" "spot") rfl)) fdok_nil) (pv 0) rfl) (pe_callB call_len_seq (by rfl) (He.free_ok T.X T.G (T.t.d.fact 4 (f := .free "len") rfl)) (by decide +kernel) (pa_cons (pe_fd (fdok_cons (He.cls_ok (T.t.d.fact 50 (f := .cls "Running") rfl)) (He.noat_ok (T.t.d.fact 51 (f := .noat "Running" "program") rfl)) fdok_nil) (pv 0) rfl) pa_nil)) (nomark _))))) (pss_one (ps_ret pe_non)) pss_nil)
 (pss_one (ps_ret (pe_fd (fdok_cons (He.cls_ok (T.t.d.fact 50 (f := .cls "Running") rfl)) (He.noat_ok (T.t.d.fact 54 (f := .noat "Running" "spot") rfl)) fdok_nil) (pv 0) rfl))))
theorem gd_Running_at (T : Tx P w K mg base) : Good P w K mg base 1 (He.fAd K (d_Running_at).at_) ["self"] (sp_Running_at K) := by
  obtain ⟨fd, F⟩ := T.t.d.def_ 16 (d := d_Running_at) rfl
  exact ⟨fd, ok_Running_at T F⟩
theorem ok_Running_steps (T : Tx P w K mg base) {f : Addr} {fd : FuncData} (F : FunD K "steps" "Running.steps" (defArgs s_Running_steps) (defBody s_Running_steps) (defScope s_Running_steps) [] [] f fd) : GoodF P w K mg base 1 f fd ["self"] (sp_Running_steps K) := by
  refine ⟨F.ok sc_Running_steps (fun vs H Q E h => h.1) (fun cdv A outer s H vs Q E hr h => ⟨t_Running_steps K E, ?_, h.2⟩), FunD.bindsN F fun _ _ _ _ _ _ us hl => match us, hl with | [_], _ => rfl, F.kp⟩
  have hu := hu_of hr
  have hdp := room_depth hr
  unfold t_Running_steps
  exact (pss_one (ps_ret (pe_fd (fdok_cons (He.cls_ok (T.t.d.fact 50 (f := .cls "Running") rfl)) (He.noat_ok (T.t.d.fact 55 (f := .noat "Running" "rows_done") rfl)) fdok_nil) (pv 0) rfl)))
theorem gd_Running_steps (T : Tx P w K mg base) : Good P w K mg base 1 (He.fAd K (d_Running_steps).at_) ["self"] (sp_Running_steps K) := by
  obtain ⟨fd, F⟩ := T.t.d.def_ 17 (d := d_Running_steps) rfl
  exact ⟨fd, ok_Running_steps T F⟩
theorem ok_kind_of (T : Tx P w K mg base) {f : Addr} {fd : FuncData} (F : FunD K "kind_of" "kind_of" (defArgs s_kind_of) (defBody s_kind_of) (defScope s_kind_of) [] [] f fd) : GoodF P w K mg base 1 f fd ["value"] (sp_kind_of K) := by
  refine ⟨F.ok sc_kind_of (fun vs H Q E h => h.1) (fun cdv A outer s H vs Q E hr h => ⟨t_kind_of K E, ?_, h.2⟩), FunD.bindsN F fun _ _ _ _ _ _ us hl => match us, hl with | [_], _ => rfl, F.kp⟩
  have hu := hu_of hr
  have hdp := room_depth hr
  unfold t_kind_of
  exact (pss_cons (ps_if (pt_cmpR op_isN (pv 0) pe_non (nomark _)) (pss_one (ps_ret pe_str)) pss_nil)
 (pss_one (ps_ret (pe_ix ix_tup (pv 0) pe_int (fun _ _ => rfl)))))
theorem gd_kind_of (T : Tx P w K mg base) : Good P w K mg base 1 (He.fAd K (d_kind_of).at_) ["value"] (sp_kind_of K) := by
  obtain ⟨fd, F⟩ := T.t.d.def_ 18 (d := d_kind_of) rfl
  exact ⟨fd, ok_kind_of T F⟩
theorem ok_thing_of (T : Tx P w K mg base) {f : Addr} {fd : FuncData} (F : FunD K "thing_of" "thing_of" (defArgs s_thing_of) (defBody s_thing_of) (defScope s_thing_of) [] [] f fd) : GoodF P w K mg base 2 f fd ["value"] (sp_thing_of K) := by
  refine ⟨F.ok sc_thing_of (fun vs H Q E h => h.1) (fun cdv A outer s H vs Q E hr h => ⟨t_thing_of K E, ?_, h.2⟩), FunD.bindsN F fun _ _ _ _ _ _ us hl => match us, hl with | [_], _ => rfl, F.kp⟩
  have hu := hu_of hr
  have hdp := room_depth hr
  unfold t_thing_of
  exact (pss_cons (ps_if (pt_cmpR op_eq (pe_cU (gd_kind_of T) (hr.mono (by decide)) (takes_of rfl rfl rfl rfl) rfl (He.glo_ok T.X T.G (T.t.d.fact 64 (f := .glo "kind_of") rfl)) (pa_cons (pv 0) pa_nil)) pe_str (nomark _)) (pss_one (ps_ret (pe_ix ix_tup (pv 0) pe_int (fun _ _ => rfl)))) pss_nil)
 (pss_one (ps_ret pe_non)))
theorem gd_thing_of (T : Tx P w K mg base) : Good P w K mg base 2 (He.fAd K (d_thing_of).at_) ["value"] (sp_thing_of K) := by
  obtain ⟨fd, F⟩ := T.t.d.def_ 19 (d := d_thing_of) rfl
  exact ⟨fd, ok_thing_of T F⟩
theorem ok_things_of (T : Tx P w K mg base) {f : Addr} {fd : FuncData} (F : FunD K "things_of" "things_of" (defArgs s_things_of) (defBody s_things_of) (defScope s_things_of) [] [] f fd) : GoodF P w K mg base 3 f fd ["values"] (sp_things_of K) := by
  refine ⟨F.ok sc_things_of (fun vs H Q E h => h.1) (fun cdv A outer s H vs Q E hr h => ⟨t_things_of K E, ?_, h.2⟩), FunD.bindsN F fun _ _ _ _ _ _ us hl => match us, hl with | [_], _ => rfl, F.kp⟩
  have hu := hu_of hr
  have hdp := room_depth hr
  unfold t_things_of
  exact (pss_cons (ps_set (i := 1) sc_things_of.nd rfl (Or.inl rfl) pe_dnewK)
 (pss_cons (ps_for (passes_of rfl) rfl (pi_list (pv 0)) (pg_name (i := 2) sc_things_of.nd rfl (Or.inl rfl)) (pss_cons (ps_set (i := 3) sc_things_of.nd rfl (Or.inl rfl) (pe_cU (gd_thing_of T) (hr.mono (by decide)) (takes_of rfl rfl rfl rfl) rfl (He.glo_ok T.X T.G (T.t.d.fact 65 (f := .glo "thing_of") rfl)) (pa_cons (pv 2) pa_nil)))
 (pss_one (ps_if (pt_cmpR op_notN (pv 3) pe_non (nomark _)) (pss_one (ps_dput hu (pv 1) (pv 3) pe_bl rfl)) pss_nil))))
 (pss_one (ps_ret (pe_callTy (call_listD rfl) (by rfl) (He.free_ok T.X T.G (T.t.d.fact 1 (f := .free "list") rfl)) (by decide +kernel) (pa_cons (pv 1) pa_nil))))))
theorem gd_things_of (T : Tx P w K mg base) : Good P w K mg base 3 (He.fAd K (d_things_of).at_) ["values"] (sp_things_of K) := by
  obtain ⟨fd, F⟩ := T.t.d.def_ 20 (d := d_things_of) rfl
  exact ⟨fd, ok_things_of T F⟩
theorem ok_led_within (T : Tx P w K mg base) {f : Addr} {fd : FuncData} (F : FunD K "led_within" "led_within" (defArgs s_led_within) (defBody s_led_within) (defScope s_led_within) [] [] f fd) : GoodF P w K mg base 4 f fd ["held", "starts", "some"] (sp_led_within K) := by
  refine ⟨F.ok sc_led_within (fun vs H Q E h => h.1) (fun cdv A outer s H vs Q E hr h => ⟨t_led_within K E, ?_, h.2⟩), FunD.bindsN F fun _ _ _ _ _ _ us hl => match us, hl with | [_, _, _], _ => rfl, F.kp⟩
  have hu := hu_of hr
  have hdp := room_depth hr
  unfold t_led_within
  exact (pss_cons (ps_set (i := 3) sc_led_within.nd rfl (Or.inl rfl) pe_dnewK)
 (pss_cons (ps_setLc (i := 4) (own := [("thing", 5)]) (g := (gName 5)) (tt := (tB (tDIn (tVar 5) (tVar 2)))) (by rfl) sc_led_within.nd rfl rfl (sw_true rfl rfl rfl (by decide +kernel)) (pi_list (pv 1)) (blkOk_by (own := [("thing", 5)]) (N := N_led_within) (sc := defScope s_led_within) (by decide +kernel)) (fun _ _ _ _ _ => (pg_name (i := 5) sc_led_within.nd rfl (Or.inl rfl))) (fun _ _ _ _ _ => (pts_one (pt_cmp (pc_din hu (pv 5) (pv 2))))) (fun _ _ _ _ _ => (pv 5)))
 (pss_cons (ps_while (passes_of rfl) (pt_truth (pv 4) (by intro _; rfl)) (pss_cons (ps_set (i := 5) sc_led_within.nd rfl (Or.inl rfl) (pe_bm0 PySem.F.plainAttrs_list PySem.F.slot_list_pop PySem.F.type_list_pop mt_pop (pv 4)))
 (pss_one (ps_if (pt_cmp (pc_dnotin hu (pv 5) (pv 3))) (pss_cons (ps_dput hu (pv 3) (pv 5) pe_bl rfl)
 (pss_one (ps_expr (pe_bm PySem.F.plainAttrs_list PySem.F.slot_list_extend PySem.F.type_list_extend mt_extend (pv 4) (pa_cons (pe_lc (own := [("other", 6)]) (g := (gName 6)) (tt := (tB (tDIn (tVar 6) (tVar 2)))) (by rfl) sc_led_within.nd (pi_list (pe_cU (gd_things_of T) (hr.mono (by decide)) (takes_of rfl rfl rfl rfl) rfl (He.glo_ok T.X T.G (T.t.d.fact 66 (f := .glo "things_of") rfl)) (pa_cons (pe_fd (fdok_cons (He.cls_ok (T.t.d.fact 67 (f := .cls "IdealThing") rfl)) (He.noat_ok (T.t.d.fact 69 (f := .noat "IdealThing" "inside") rfl)) fdok_nil) (pe_dget hu (pv 0) (pv 5) (fun _ _ => rfl)) rfl) pa_nil))) (blkOk_by (own := [("other", 6)]) (N := N_led_within) (sc := defScope s_led_within) (by decide +kernel)) (fun _ _ _ _ _ => (pg_name (i := 6) sc_led_within.nd rfl (Or.inl rfl))) (fun _ _ _ _ _ => (pts_one (pt_cmp (pc_din hu (pv 6) (pv 2))))) (fun _ _ _ _ _ => (pv 6))) pa_nil))))) pss_nil))))
 (pss_one (ps_ret (pv 3))))))
theorem gd_led_within (T : Tx P w K mg base) : Good P w K mg base 4 (He.fAd K (d_led_within).at_) ["held", "starts", "some"] (sp_led_within K) := by
  obtain ⟨fd, F⟩ := T.t.d.def_ 22 (d := d_led_within) rfl
  exact ⟨fd, ok_led_within T F⟩
theorem ok_young_things (T : Tx P w K mg base) {f : Addr} {fd : FuncData} (F : FunD K "young_things" "young_things" (defArgs s_young_things) (defBody s_young_things) (defScope s_young_things) [] [] f fd) : GoodF P w K mg base 1 f fd ["held"] (sp_young_things K) := by
  refine ⟨F.ok sc_young_things (fun vs H Q E h => h.1) (fun cdv A outer s H vs Q E hr h => ⟨t_young_things K E, ?_, h.2⟩), FunD.bindsN F fun _ _ _ _ _ _ us hl => match us, hl with | [_], _ => rfl, F.kp⟩
  have hu := hu_of hr
  have hdp := room_depth hr
  unfold t_young_things
  exact (pss_cons (ps_set (i := 1) sc_young_things.nd rfl (Or.inl rfl) pe_dnewK)
 (pss_cons (ps_lock2 (ps_for (passes_of rfl) rfl (pi_keys (pv 0)) (pg_name (i := 2) sc_young_things.nd rfl (Or.inl rfl)) (pss_one (ps_if (pt_not (pt_val (pe_fd (fdok_cons (He.cls_ok (T.t.d.fact 67 (f := .cls "IdealThing") rfl)) (He.noat_ok (T.t.d.fact 68 (f := .noat "IdealThing" "aged") rfl)) fdok_nil) (pe_dget hu (pv 0) (pv 2) (fun _ _ => rfl)) rfl))) (pss_one (ps_dput hu (pv 1) (pv 2) pe_bl rfl)) pss_nil))))
 (pss_one (ps_ret (pv 1)))))
theorem gd_young_things (T : Tx P w K mg base) : Good P w K mg base 1 (He.fAd K (d_young_things).at_) ["held"] (sp_young_things K) := by
  obtain ⟨fd, F⟩ := T.t.d.def_ 21 (d := d_young_things) rfl
  exact ⟨fd, ok_young_things T F⟩
theorem ok_young_kept (T : Tx P w K mg base) {f : Addr} {fd : FuncData} (F : FunD K "young_kept" "young_kept" (defArgs s_young_kept) (defBody s_young_kept) (defScope s_young_kept) [] [] f fd) : GoodF P w K mg base 5 f fd ["held", "hands"] (sp_young_kept K) := by
  refine ⟨F.ok sc_young_kept (fun vs H Q E h => h.1) (fun cdv A outer s H vs Q E hr h => ⟨t_young_kept K E, ?_, h.2⟩), FunD.bindsN F fun _ _ _ _ _ _ us hl => match us, hl with | [_, _], _ => rfl, F.kp⟩
  have hu := hu_of hr
  have hdp := room_depth hr
  unfold t_young_kept
  exact (pss_cons (ps_set (i := 2) sc_young_kept.nd rfl (Or.inl rfl) (pe_cU (gd_things_of T) (hr.mono (by decide)) (takes_of rfl rfl rfl rfl) rfl (He.glo_ok T.X T.G (T.t.d.fact 66 (f := .glo "things_of") rfl)) (pa_cons (pv 1) pa_nil)))
 (pss_cons (ps_lock2 (ps_for (passes_of rfl) rfl (pi_keys (pv 0)) (pg_name (i := 3) sc_young_kept.nd rfl (Or.inl rfl)) (pss_one (ps_if (pt_val (pe_fd (fdok_cons (He.cls_ok (T.t.d.fact 67 (f := .cls "IdealThing") rfl)) (He.noat_ok (T.t.d.fact 68 (f := .noat "IdealThing" "aged") rfl)) fdok_nil) (pe_dget hu (pv 0) (pv 3) (fun _ _ => rfl)) rfl)) (pss_one (ps_expr (pe_bm PySem.F.plainAttrs_list PySem.F.slot_list_extend PySem.F.type_list_extend mt_extend (pv 2) (pa_cons (pe_cU (gd_things_of T) (hr.mono (by decide)) (takes_of rfl rfl rfl rfl) rfl (He.glo_ok T.X T.G (T.t.d.fact 66 (f := .glo "things_of") rfl)) (pa_cons (pe_fd (fdok_cons (He.cls_ok (T.t.d.fact 67 (f := .cls "IdealThing") rfl)) (He.noat_ok (T.t.d.fact 69 (f := .noat "IdealThing" "inside") rfl)) fdok_nil) (pe_dget hu (pv 0) (pv 3) (fun _ _ => rfl)) rfl) pa_nil)) pa_nil)))) pss_nil))))
 (pss_one (ps_ret (pe_cU (gd_led_within T) (hr.mono (by decide)) (takes_of rfl rfl rfl rfl) rfl (He.glo_ok T.X T.G (T.t.d.fact 71 (f := .glo "led_within") rfl)) (pa_cons (pv 0) (pa_cons (pv 2) (pa_cons (pe_cU (gd_young_things T) (hr.mono (by decide)) (takes_of rfl rfl rfl rfl) rfl (He.glo_ok T.X T.G (T.t.d.fact 70 (f := .glo "young_things") rfl)) (pa_cons (pv 0) pa_nil)) pa_nil))))))))
theorem gd_young_kept (T : Tx P w K mg base) : Good P w K mg base 5 (He.fAd K (d_young_kept).at_) ["held", "hands"] (sp_young_kept K) := by
  obtain ⟨fd, F⟩ := T.t.d.def_ 23 (d := d_young_kept) rfl
  exact ⟨fd, ok_young_kept T F⟩
theorem ok_IdealHeap_settle (T : Tx P w K mg base) {f : Addr} {fd : FuncData} (F : FunD K "settle" "IdealHeap.settle" (defArgs s_IdealHeap_settle) (defBody s_IdealHeap_settle) (defScope s_IdealHeap_settle) [] [] f fd) : GoodF P w K mg base 1 f fd ["self", "gone"] (sp_IdealHeap_settle K) := by
  refine ⟨F.ok sc_IdealHeap_settle (fun vs H Q E h => h.1) (fun cdv A outer s H vs Q E hr h => ⟨t_IdealHeap_settle K E, ?_, h.2⟩), FunD.bindsN F fun _ _ _ _ _ _ us hl => match us, hl with | [_, _], _ => rfl, F.kp⟩
  have hu := hu_of hr
  have hdp := room_depth hr
  unfold t_IdealHeap_settle
  exact (pss_cons (ps_for (passes_of rfl) rfl (pi_list (pe_callB cr_sortedI (by rfl) (He.free_ok T.X T.G (T.t.d.fact 73 (f := .free "sorted") rfl)) (by decide +kernel) (pa_cons (pv 1) pa_nil))) (pg_name (i := 2) sc_IdealHeap_settle.nd rfl (Or.inl rfl)) (pss_cons (ps_if (pt_cmpR op_notN (pe_fd (fdok_cons (He.cls_ok (T.t.d.fact 67 (f := .cls "IdealThing") rfl)) (He.noat_ok (T.t.d.fact 74 (f := .noat "IdealThing" "last_word") rfl)) fdok_nil) (pe_dget hu (pe_fd (fdok_cons (He.cls_ok (T.t.d.fact 37 (f := .cls "IdealHeap") rfl)) (He.noat_ok (T.t.d.fact 44 (f := .noat "IdealHeap" "kept") rfl)) fdok_nil) (pv 0) rfl) (pv 2) (fun _ _ => rfl)) rfl) pe_non (nomark _)) (pss_one (ps_expr (pe_bm PySem.F.plainAttrs_list PySem.F.slot_list_append PySem.F.type_list_append mt_append (pe_fd (fdok_cons (He.cls_ok (T.t.d.fact 37 (f := .cls "IdealHeap") rfl)) (He.noat_ok (T.t.d.fact 47 (f := .noat "IdealHeap" "spoken") rfl)) fdok_nil) (pv 0) rfl) (pa_cons (pe_fd (fdok_cons (He.cls_ok (T.t.d.fact 67 (f := .cls "IdealThing") rfl)) (He.noat_ok (T.t.d.fact 74 (f := .noat "IdealThing" "last_word") rfl)) fdok_nil) (pe_dget hu (pe_fd (fdok_cons (He.cls_ok (T.t.d.fact 37 (f := .cls "IdealHeap") rfl)) (He.noat_ok (T.t.d.fact 44 (f := .noat "IdealHeap" "kept") rfl)) fdok_nil) (pv 0) rfl) (pv 2) (fun _ _ => rfl)) rfl) pa_nil)))) pss_nil)
 (pss_one (ps_expr (pe_dpop1 (pe_fd (fdok_cons (He.cls_ok (T.t.d.fact 37 (f := .cls "IdealHeap") rfl)) (He.noat_ok (T.t.d.fact 44 (f := .noat "IdealHeap" "kept") rfl)) fdok_nil) (pv 0) rfl) (pv 2) (by constructor <;> rfl))))))
 (pss_one (ps_fd (fdok_cons (He.cls_ok (T.t.d.fact 37 (f := .cls "IdealHeap") rfl)) (He.noat_ok (T.t.d.fact 43 (f := .noat "IdealHeap" "naming") rfl)) fdok_nil) (pv 0) (pe_lc (own := [("thing", 2)]) (g := (gName 2)) (tt := tYes) (by rfl) sc_IdealHeap_settle.nd (pi_list (pe_fd (fdok_cons (He.cls_ok (T.t.d.fact 37 (f := .cls "IdealHeap") rfl)) (He.noat_ok (T.t.d.fact 43 (f := .noat "IdealHeap" "naming") rfl)) fdok_nil) (pv 0) rfl)) (blkOk_by (own := [("thing", 2)]) (N := N_IdealHeap_settle) (sc := defScope s_IdealHeap_settle) (by decide +kernel)) (fun _ _ _ _ _ => (pg_name (i := 2) sc_IdealHeap_settle.nd rfl (Or.inl rfl))) (fun _ _ _ _ _ => pts_nil) (fun _ _ _ _ _ => (pe_ifExp (pt_cmpR op_in_seq (pv 2) (pv 1) (by first | exact nomark _ | with_unfolding_all rfl)) pe_non (pv 2)))) rfl)))
theorem gd_IdealHeap_settle (T : Tx P w K mg base) : Good P w K mg base 1 (He.fAd K (d_IdealHeap_settle).at_) ["self", "gone"] (sp_IdealHeap_settle K) := by
  obtain ⟨fd, F⟩ := T.t.d.def_ 24 (d := d_IdealHeap_settle) rfl
  exact ⟨fd, ok_IdealHeap_settle T F⟩
theorem ok_IdealHeap_small (T : Tx P w K mg base) {f : Addr} {fd : FuncData} (F : FunD K "small" "IdealHeap.small" (defArgs s_IdealHeap_small) (defBody s_IdealHeap_small) (defScope s_IdealHeap_small) [] [] f fd) : GoodF P w K mg base 6 f fd ["self"] (sp_IdealHeap_small K) := by
  refine ⟨F.ok sc_IdealHeap_small (fun vs H Q E h => h.1) (fun cdv A outer s H vs Q E hr h => ⟨t_IdealHeap_small K E, ?_, h.2⟩), FunD.bindsN F fun _ _ _ _ _ _ us hl => match us, hl with | [_], _ => rfl, F.kp⟩
  have hu := hu_of hr
  have hdp := room_depth hr
  unfold t_IdealHeap_small
  exact (pss_cons (ps_set (i := 1) sc_IdealHeap_small.nd rfl (Or.inr rfl) (pe_cU (gd_young_kept T) (hr.mono (by decide)) (takes_of rfl rfl rfl rfl) rfl (He.glo_ok T.X T.G (T.t.d.fact 72 (f := .glo "young_kept") rfl)) (pa_cons (pe_fd (fdok_cons (He.cls_ok (T.t.d.fact 37 (f := .cls "IdealHeap") rfl)) (He.noat_ok (T.t.d.fact 44 (f := .noat "IdealHeap" "kept") rfl)) fdok_nil) (pv 0) rfl) (pa_cons (pe_fd (fdok_cons (He.cls_ok (T.t.d.fact 37 (f := .cls "IdealHeap") rfl)) (He.noat_ok (T.t.d.fact 41 (f := .noat "IdealHeap" "in_hands") rfl)) fdok_nil) (pv 0) rfl) pa_nil))))
 (pss_cons (ps_expr (pe_mU (k := 1) (pv 0) (altok_cons ⟨He.cls_ok (T.t.d.fact 37 (f := .cls "IdealHeap") rfl), He.meth_ok (T.t.d.fact 75 (f := .meth "IdealHeap" "settle") rfl), (gd_IdealHeap_settle T).mono (by decide)⟩ altok_nil) (hr.mono (by decide)) (takes_of rfl rfl rfl rfl) (pa_cons (pe_lc (own := [("thing", 2)]) (g := (gName 2)) (tt := (tB (tDNotIn (tVar 2) (tVar 1)))) (by rfl) sc_IdealHeap_small.nd (pi_keysL (pe_cU (gd_young_things T) (hr.mono (by decide)) (takes_of rfl rfl rfl rfl) rfl (He.glo_ok T.X T.G (T.t.d.fact 70 (f := .glo "young_things") rfl)) (pa_cons (pe_fd (fdok_cons (He.cls_ok (T.t.d.fact 37 (f := .cls "IdealHeap") rfl)) (He.noat_ok (T.t.d.fact 44 (f := .noat "IdealHeap" "kept") rfl)) fdok_nil) (pv 0) rfl) pa_nil))) (blkOk_by (own := [("thing", 2)]) (N := N_IdealHeap_small) (sc := defScope s_IdealHeap_small) (by decide +kernel)) (fun _ _ _ _ _ => (pg_name (i := 2) sc_IdealHeap_small.nd rfl (Or.inl rfl))) (fun _ _ _ _ _ => (pts_one (pt_cmp (pc_dnotin hu (pv 2) (pv 1))))) (fun _ _ _ _ _ => (pv 2))) pa_nil)))
 (pss_one (ps_lock2 (ps_for (passes_of rfl) rfl (pi_keys (pv 1)) (pg_name (i := 2) sc_IdealHeap_small.nd rfl (Or.inl rfl)) (pss_one (ps_fd (fdok_cons (He.cls_ok (T.t.d.fact 67 (f := .cls "IdealThing") rfl)) (He.noat_ok (T.t.d.fact 68 (f := .noat "IdealThing" "aged") rfl)) fdok_nil) (pe_dget hu (pe_fd (fdok_cons (He.cls_ok (T.t.d.fact 37 (f := .cls "IdealHeap") rfl)) (He.noat_ok (T.t.d.fact 44 (f := .noat "IdealHeap" "kept") rfl)) fdok_nil) (pv 0) rfl) (pv 2) (fun _ _ => rfl)) pe_bl rfl)))))))
theorem gd_IdealHeap_small (T : Tx P w K mg base) : Good P w K mg base 6 (He.fAd K (d_IdealHeap_small).at_) ["self"] (sp_IdealHeap_small K) := by
  obtain ⟨fd, F⟩ := T.t.d.def_ 25 (d := d_IdealHeap_small) rfl
  exact ⟨fd, ok_IdealHeap_small T F⟩
theorem ok_IdealHeap_begin (T : Tx P w K mg base) {f : Addr} {fd : FuncData} (F : FunD K "begin" "IdealHeap.begin" (defArgs s_IdealHeap_begin) (defBody s_IdealHeap_begin) (defScope s_IdealHeap_begin) [] [] f fd) : GoodF P w K mg base 7 f fd ["self"] (sp_IdealHeap_begin K) := by
  refine ⟨F.ok sc_IdealHeap_begin (fun vs H Q E h => h.1) (fun cdv A outer s H vs Q E hr h => ⟨t_IdealHeap_begin K E, ?_, h.2⟩), FunD.bindsN F fun _ _ _ _ _ _ us hl => match us, hl with | [_], _ => rfl, F.kp⟩
  have hu := hu_of hr
  have hdp := room_depth hr
  unfold t_IdealHeap_begin
  exact (pss_cons (ps_if (pt_cmpR op_notN (pe_fd (fdok_cons (He.cls_ok (T.t.d.fact 37 (f := .cls "IdealHeap") rfl)) (He.noat_ok (T.t.d.fact 46 (f := .noat "IdealHeap" "going") rfl)) fdok_nil) (pv 0) rfl) pe_non (nomark _)) (pss_one (ps_rz rfl (takes_of rfl rfl rfl rfl) (He.glo_ok T.X T.G (T.t.d.fact 62 (f := .glo "RoundOn") rfl)) (He.exc_ok (T.t.d.fact 63 (f := .exc "RoundOn") rfl)))) pss_nil)
 (pss_cons (ps_expr (pe_mU0 (k := 6) (pv 0) (altok_cons ⟨He.cls_ok (T.t.d.fact 37 (f := .cls "IdealHeap") rfl), He.meth_ok (T.t.d.fact 76 (f := .meth "IdealHeap" "small") rfl), (gd_IdealHeap_small T).mono (by decide)⟩ altok_nil) (hr.mono (by decide)) (takes_of rfl rfl rfl rfl)))
 (pss_cons (ps_set (i := 1) sc_IdealHeap_begin.nd rfl (Or.inl rfl) (pe_cU (gd_led_within T) (hr.mono (by decide)) (takes_of rfl rfl rfl rfl) rfl (He.glo_ok T.X T.G (T.t.d.fact 71 (f := .glo "led_within") rfl)) (pa_cons (pe_fd (fdok_cons (He.cls_ok (T.t.d.fact 37 (f := .cls "IdealHeap") rfl)) (He.noat_ok (T.t.d.fact 44 (f := .noat "IdealHeap" "kept") rfl)) fdok_nil) (pv 0) rfl) (pa_cons (pe_cU (gd_things_of T) (hr.mono (by decide)) (takes_of rfl rfl rfl rfl) rfl (He.glo_ok T.X T.G (T.t.d.fact 66 (f := .glo "things_of") rfl)) (pa_cons (pe_fd (fdok_cons (He.cls_ok (T.t.d.fact 37 (f := .cls "IdealHeap") rfl)) (He.noat_ok (T.t.d.fact 41 (f := .noat "IdealHeap" "in_hands") rfl)) fdok_nil) (pv 0) rfl) pa_nil)) (pa_cons (pe_fd (fdok_cons (He.cls_ok (T.t.d.fact 37 (f := .cls "IdealHeap") rfl)) (He.noat_ok (T.t.d.fact 44 (f := .noat "IdealHeap" "kept") rfl)) fdok_nil) (pv 0) rfl) pa_nil)))))
 (pss_cons (ps_fd (fdok_cons (He.cls_ok (T.t.d.fact 37 (f := .cls "IdealHeap") rfl)) (He.noat_ok (T.t.d.fact 46 (f := .noat "IdealHeap" "going") rfl)) fdok_nil) (pv 0) pe_dnewK rfl)
 (pss_one (ps_lock2 (ps_for (passes_of rfl) rfl (pi_keys (pe_fd (fdok_cons (He.cls_ok (T.t.d.fact 37 (f := .cls "IdealHeap") rfl)) (He.noat_ok (T.t.d.fact 44 (f := .noat "IdealHeap" "kept") rfl)) fdok_nil) (pv 0) rfl)) (pg_name (i := 2) sc_IdealHeap_begin.nd rfl (Or.inl rfl)) (pss_one (ps_if (pt_cmp (pc_dnotin hu (pv 2) (pv 1))) (pss_one (ps_dput hu (pe_fd (fdok_cons (He.cls_ok (T.t.d.fact 37 (f := .cls "IdealHeap") rfl)) (He.noat_ok (T.t.d.fact 46 (f := .noat "IdealHeap" "going") rfl)) fdok_nil) (pv 0) rfl) (pv 2) pe_bl rfl)) pss_nil)))))))))
theorem gd_IdealHeap_begin (T : Tx P w K mg base) : Good P w K mg base 7 (He.fAd K (d_IdealHeap_begin).at_) ["self"] (sp_IdealHeap_begin K) := by
  obtain ⟨fd, F⟩ := T.t.d.def_ 26 (d := d_IdealHeap_begin) rfl
  exact ⟨fd, ok_IdealHeap_begin T F⟩
theorem ok_IdealHeap_end (T : Tx P w K mg base) {f : Addr} {fd : FuncData} (F : FunD K "end" "IdealHeap.end" (defArgs s_IdealHeap_end) (defBody s_IdealHeap_end) (defScope s_IdealHeap_end) [] [] f fd) : GoodF P w K mg base 2 f fd ["self"] (sp_IdealHeap_end K) := by
  refine ⟨F.ok sc_IdealHeap_end (fun vs H Q E h => h.1) (fun cdv A outer s H vs Q E hr h => ⟨t_IdealHeap_end K E, ?_, h.2⟩), FunD.bindsN F fun _ _ _ _ _ _ us hl => match us, hl with | [_], _ => rfl, F.kp⟩
  have hu := hu_of hr
  have hdp := room_depth hr
  unfold t_IdealHeap_end
  exact (pss_cons (ps_if (pt_cmpR op_isN (pe_fd (fdok_cons (He.cls_ok (T.t.d.fact 37 (f := .cls "IdealHeap") rfl)) (He.noat_ok (T.t.d.fact 46 (f := .noat "IdealHeap" "going") rfl)) fdok_nil) (pv 0) rfl) pe_non (nomark _)) (pss_one (ps_rz rfl (takes_of rfl rfl rfl rfl) (He.glo_ok T.X T.G (T.t.d.fact 78 (f := .glo "NoRound") rfl)) (He.exc_ok (T.t.d.fact 79 (f := .exc "NoRound") rfl)))) pss_nil)
 (pss_cons (ps_set (i := 1) sc_IdealHeap_end.nd rfl (Or.inl rfl) (pe_callTy (call_listD rfl) (by rfl) (He.free_ok T.X T.G (T.t.d.fact 1 (f := .free "list") rfl)) (by decide +kernel) (pa_cons (pe_fd (fdok_cons (He.cls_ok (T.t.d.fact 37 (f := .cls "IdealHeap") rfl)) (He.noat_ok (T.t.d.fact 46 (f := .noat "IdealHeap" "going") rfl)) fdok_nil) (pv 0) rfl) pa_nil)))
 (pss_cons (ps_fd (fdok_cons (He.cls_ok (T.t.d.fact 37 (f := .cls "IdealHeap") rfl)) (He.noat_ok (T.t.d.fact 46 (f := .noat "IdealHeap" "going") rfl)) fdok_nil) (pv 0) pe_non rfl)
 (pss_one (ps_expr (pe_mU (k := 1) (pv 0) (altok_cons ⟨He.cls_ok (T.t.d.fact 37 (f := .cls "IdealHeap") rfl), He.meth_ok (T.t.d.fact 75 (f := .meth "IdealHeap" "settle") rfl), (gd_IdealHeap_settle T).mono (by decide)⟩ altok_nil) (hr.mono (by decide)) (takes_of rfl rfl rfl rfl) (pa_cons (pv 1) pa_nil)))))))
theorem gd_IdealHeap_end (T : Tx P w K mg base) : Good P w K mg base 2 (He.fAd K (d_IdealHeap_end).at_) ["self"] (sp_IdealHeap_end K) := by
  obtain ⟨fd, F⟩ := T.t.d.def_ 27 (d := d_IdealHeap_end) rfl
  exact ⟨fd, ok_IdealHeap_end T F⟩
theorem ok_look_at_hand (T : Tx P w K mg base) {f : Addr} {fd : FuncData} (F : FunD K "look_at_hand" "look_at_hand" (defArgs s_look_at_hand) (defBody s_look_at_hand) (defScope s_look_at_hand) [] [] f fd) : GoodF P w K mg base 1 f fd ["h"] (sp_look_at_hand K) := by
  refine ⟨F.ok sc_look_at_hand (fun vs H Q E h => h.1) (fun cdv A outer s H vs Q E hr h => ⟨t_look_at_hand K E, ?_, h.2⟩), FunD.bindsN F fun _ _ _ _ _ _ us hl => match us, hl with | [_], _ => rfl, F.kp⟩
  have hu := hu_of hr
  have hdp := room_depth hr
  unfold t_look_at_hand
  exact (pss_one (ps_if (PW.pt (pw_or (pt_cmpR op_lt (pv 0) pe_int (nomark _)) (pw_or1 (pt_cmpR op_ge (pv 0) (pe_globI rfl (He.int_ok T.X T.G (T.t.d.fact 40 (f := .int "HANDS" 8) rfl))) (nomark _))))) (pss_one (ps_rz rfl (takes_of rfl rfl rfl rfl) (He.glo_ok T.X T.G (T.t.d.fact 81 (f := .glo "BadHand") rfl)) (He.exc_ok (T.t.d.fact 82 (f := .exc "BadHand") rfl)))) pss_nil))
theorem gd_look_at_hand (T : Tx P w K mg base) : Good P w K mg base 1 (He.fAd K (d_look_at_hand).at_) ["h"] (sp_look_at_hand K) := by
  obtain ⟨fd, F⟩ := T.t.d.def_ 28 (d := d_look_at_hand) rfl
  exact ⟨fd, ok_look_at_hand T F⟩
theorem ok_IdealHeap_kind (T : Tx P w K mg base) {f : Addr} {fd : FuncData} (F : FunD K "kind" "IdealHeap.kind" (defArgs s_IdealHeap_kind) (defBody s_IdealHeap_kind) (defScope s_IdealHeap_kind) [] [] f fd) : GoodF P w K mg base 2 f fd ["self", "h"] (sp_IdealHeap_kind K) := by
  refine ⟨F.ok sc_IdealHeap_kind (fun vs H Q E h => h.1) (fun cdv A outer s H vs Q E hr h => ⟨t_IdealHeap_kind K E, ?_, h.2⟩), FunD.bindsN F fun _ _ _ _ _ _ us hl => match us, hl with | [_, _], _ => rfl, F.kp⟩
  have hu := hu_of hr
  have hdp := room_depth hr
  unfold t_IdealHeap_kind
  exact (pss_cons (ps_expr (pe_cU (gd_look_at_hand T) (hr.mono (by decide)) (takes_of rfl rfl rfl rfl) rfl (He.glo_ok T.X T.G (T.t.d.fact 83 (f := .glo "look_at_hand") rfl)) (pa_cons (pv 1) pa_nil)))
 (pss_one (ps_ret (pe_cU (gd_kind_of T) (hr.mono (by decide)) (takes_of rfl rfl rfl rfl) rfl (He.glo_ok T.X T.G (T.t.d.fact 64 (f := .glo "kind_of") rfl)) (pa_cons (pe_ix ix_list (pe_fd (fdok_cons (He.cls_ok (T.t.d.fact 37 (f := .cls "IdealHeap") rfl)) (He.noat_ok (T.t.d.fact 41 (f := .noat "IdealHeap" "in_hands") rfl)) fdok_nil) (pv 0) rfl) (pv 1) (fun _ _ => rfl)) pa_nil)))))
theorem gd_IdealHeap_kind (T : Tx P w K mg base) : Good P w K mg base 2 (He.fAd K (d_IdealHeap_kind).at_) ["self", "h"] (sp_IdealHeap_kind K) := by
  obtain ⟨fd, F⟩ := T.t.d.def_ 29 (d := d_IdealHeap_kind) rfl
  exact ⟨fd, ok_IdealHeap_kind T F⟩
theorem ok_IdealHeap_value (T : Tx P w K mg base) {f : Addr} {fd : FuncData} (F : FunD K "value" "IdealHeap.value" (defArgs s_IdealHeap_value) (defBody s_IdealHeap_value) (defScope s_IdealHeap_value) [] [] f fd) : GoodF P w K mg base 2 f fd ["self", "h"] (sp_IdealHeap_value K) := by
  refine ⟨F.ok sc_IdealHeap_value (fun vs H Q E h => h.1) (fun cdv A outer s H vs Q E hr h => ⟨t_IdealHeap_value K E, ?_, h.2⟩), FunD.bindsN F fun _ _ _ _ _ _ us hl => match us, hl with | [_, _], _ => rfl, F.kp⟩
  have hu := hu_of hr
  have hdp := room_depth hr
  unfold t_IdealHeap_value
  exact (pss_cons (ps_expr (pe_cU (gd_look_at_hand T) (hr.mono (by decide)) (takes_of rfl rfl rfl rfl) rfl (He.glo_ok T.X T.G (T.t.d.fact 83 (f := .glo "look_at_hand") rfl)) (pa_cons (pv 1) pa_nil)))
 (pss_cons (ps_if (pt_cmpR op_ne (pe_cU (gd_kind_of T) (hr.mono (by decide)) (takes_of rfl rfl rfl rfl) rfl (He.glo_ok T.X T.G (T.t.d.fact 64 (f := .glo "kind_of") rfl)) (pa_cons (pe_ix ix_list (pe_fd (fdok_cons (He.cls_ok (T.t.d.fact 37 (f := .cls "IdealHeap") rfl)) (He.noat_ok (T.t.d.fact 41 (f := .noat "IdealHeap" "in_hands") rfl)) fdok_nil) (pv 0) rfl) (pv 1) (fun _ _ => rfl)) pa_nil)) pe_str (nomark _)) (pss_one (ps_rz rfl (takes_of rfl rfl rfl rfl) (He.glo_ok T.X T.G (T.t.d.fact 81 (f := .glo "BadHand") rfl)) (He.exc_ok (T.t.d.fact 82 (f := .exc "BadHand") rfl)))) pss_nil)
 (pss_one (ps_ret (pe_ix ix_tup (pe_ix ix_list (pe_fd (fdok_cons (He.cls_ok (T.t.d.fact 37 (f := .cls "IdealHeap") rfl)) (He.noat_ok (T.t.d.fact 41 (f := .noat "IdealHeap" "in_hands") rfl)) fdok_nil) (pv 0) rfl) (pv 1) (fun _ _ => rfl)) pe_int (fun _ _ => rfl))))))
theorem gd_IdealHeap_value (T : Tx P w K mg base) : Good P w K mg base 2 (He.fAd K (d_IdealHeap_value).at_) ["self", "h"] (sp_IdealHeap_value K) := by
  obtain ⟨fd, F⟩ := T.t.d.def_ 30 (d := d_IdealHeap_value) rfl
  exact ⟨fd, ok_IdealHeap_value T F⟩
theorem ok_IdealHeap_thing_in (T : Tx P w K mg base) {f : Addr} {fd : FuncData} (F : FunD K "thing_in" "IdealHeap.thing_in" (defArgs s_IdealHeap_thing_in) (defBody s_IdealHeap_thing_in) (defScope s_IdealHeap_thing_in) [] [] f fd) : GoodF P w K mg base 3 f fd ["self", "h"] (sp_IdealHeap_thing_in K) := by
  refine ⟨F.ok sc_IdealHeap_thing_in (fun vs H Q E h => h.1) (fun cdv A outer s H vs Q E hr h => ⟨t_IdealHeap_thing_in K E, ?_, h.2⟩), FunD.bindsN F fun _ _ _ _ _ _ us hl => match us, hl with | [_, _], _ => rfl, F.kp⟩
  have hu := hu_of hr
  have hdp := room_depth hr
  unfold t_IdealHeap_thing_in
  exact (pss_cons (ps_expr (pe_cU (gd_look_at_hand T) (hr.mono (by decide)) (takes_of rfl rfl rfl rfl) rfl (He.glo_ok T.X T.G (T.t.d.fact 83 (f := .glo "look_at_hand") rfl)) (pa_cons (pv 1) pa_nil)))
 (pss_cons (ps_set (i := 2) sc_IdealHeap_thing_in.nd rfl (Or.inl rfl) (pe_cU (gd_thing_of T) (hr.mono (by decide)) (takes_of rfl rfl rfl rfl) rfl (He.glo_ok T.X T.G (T.t.d.fact 65 (f := .glo "thing_of") rfl)) (pa_cons (pe_ix ix_list (pe_fd (fdok_cons (He.cls_ok (T.t.d.fact 37 (f := .cls "IdealHeap") rfl)) (He.noat_ok (T.t.d.fact 41 (f := .noat "IdealHeap" "in_hands") rfl)) fdok_nil) (pv 0) rfl) (pv 1) (fun _ _ => rfl)) pa_nil)))
 (pss_cons (ps_if (pt_cmpR op_isN (pv 2) pe_non (nomark _)) (pss_one (ps_rz rfl (takes_of rfl rfl rfl rfl) (He.glo_ok T.X T.G (T.t.d.fact 81 (f := .glo "BadHand") rfl)) (He.exc_ok (T.t.d.fact 82 (f := .exc "BadHand") rfl)))) pss_nil)
 (pss_one (ps_ret (pv 2))))))
theorem gd_IdealHeap_thing_in (T : Tx P w K mg base) : Good P w K mg base 3 (He.fAd K (d_IdealHeap_thing_in).at_) ["self", "h"] (sp_IdealHeap_thing_in K) := by
  obtain ⟨fd, F⟩ := T.t.d.def_ 31 (d := d_IdealHeap_thing_in) rfl
  exact ⟨fd, ok_IdealHeap_thing_in T F⟩
theorem ok_IdealHeap_fields (T : Tx P w K mg base) {f : Addr} {fd : FuncData} (F : FunD K "fields" "IdealHeap.fields" (defArgs s_IdealHeap_fields) (defBody s_IdealHeap_fields) (defScope s_IdealHeap_fields) [] [] f fd) : GoodF P w K mg base 4 f fd ["self", "h"] (sp_IdealHeap_fields K) := by
  refine ⟨F.ok sc_IdealHeap_fields (fun vs H Q E h => h.1) (fun cdv A outer s H vs Q E hr h => ⟨t_IdealHeap_fields K E, ?_, h.2⟩), FunD.bindsN F fun _ _ _ _ _ _ us hl => match us, hl with | [_, _], _ => rfl, F.kp⟩
  have hu := hu_of hr
  have hdp := room_depth hr
  unfold t_IdealHeap_fields
  exact (pss_one (ps_ret (pe_callB call_len_seq (by rfl) (He.free_ok T.X T.G (T.t.d.fact 4 (f := .free "len") rfl)) (by decide +kernel) (pa_cons (pe_fd (fdok_cons (He.cls_ok (T.t.d.fact 67 (f := .cls "IdealThing") rfl)) (He.noat_ok (T.t.d.fact 69 (f := .noat "IdealThing" "inside") rfl)) fdok_nil) (pe_dget hu (pe_fd (fdok_cons (He.cls_ok (T.t.d.fact 37 (f := .cls "IdealHeap") rfl)) (He.noat_ok (T.t.d.fact 44 (f := .noat "IdealHeap" "kept") rfl)) fdok_nil) (pv 0) rfl) (pe_mU (k := 3) (pv 0) (altok_cons ⟨He.cls_ok (T.t.d.fact 37 (f := .cls "IdealHeap") rfl), He.meth_ok (T.t.d.fact 86 (f := .meth "IdealHeap" "thing_in") rfl), (gd_IdealHeap_thing_in T).mono (by decide)⟩ altok_nil) (hr.mono (by decide)) (takes_of rfl rfl rfl rfl) (pa_cons (pv 1) pa_nil)) (fun _ _ => rfl)) rfl) pa_nil))))
theorem gd_IdealHeap_fields (T : Tx P w K mg base) : Good P w K mg base 4 (He.fAd K (d_IdealHeap_fields).at_) ["self", "h"] (sp_IdealHeap_fields K) := by
  obtain ⟨fd, F⟩ := T.t.d.def_ 32 (d := d_IdealHeap_fields) rfl
  exact ⟨fd, ok_IdealHeap_fields T F⟩
theorem ok_said_of (T : Tx P w K mg base) {f : Addr} {fd : FuncData} (F : FunD K "said_of" "said_of" (defArgs s_said_of) (defBody s_said_of) (defScope s_said_of) [] [] f fd) : GoodF P w K mg base 5 f fd ["hall", "h"] (sp_said_of K) := by
  refine ⟨F.ok sc_said_of (fun vs H Q E h => h.1) (fun cdv A outer s H vs Q E hr h => ⟨t_said_of K E, ?_, h.2⟩), FunD.bindsN F fun _ _ _ _ _ _ us hl => match us, hl with | [_, _], _ => rfl, F.kp⟩
  have hu := hu_of hr
  have hdp := room_depth hr
  unfold t_said_of
  exact (pss_cons (ps_set (i := 2) sc_said_of.nd rfl (Or.inl rfl) (pe_mU (k := 2) (pv 0) (altok_cons ⟨He.cls_ok (T.t.d.fact 37 (f := .cls "IdealHeap") rfl), He.meth_ok (T.t.d.fact 84 (f := .meth "IdealHeap" "kind") rfl), (gd_IdealHeap_kind T).mono (by decide)⟩ altok_nil) (hr.mono (by decide)) (takes_of rfl rfl rfl rfl) (pa_cons (pv 1) pa_nil)))
 (pss_cons (ps_if (pt_cmpR op_eq (pv 2) pe_str (nomark _)) (pss_one (ps_ret (pe_tup (pa_cons pe_str (pa_cons (pe_mU (k := 2) (pv 0) (altok_cons ⟨He.cls_ok (T.t.d.fact 37 (f := .cls "IdealHeap") rfl), He.meth_ok (T.t.d.fact 85 (f := .meth "IdealHeap" "value") rfl), (gd_IdealHeap_value T).mono (by decide)⟩ altok_nil) (hr.mono (by decide)) (takes_of rfl rfl rfl rfl) (pa_cons (pv 1) pa_nil)) pa_nil))))) pss_nil)
 (pss_cons (ps_if (pt_cmpR op_eq (pv 2) pe_str (nomark _)) (pss_one (ps_ret (pe_tup (pa_cons pe_str (pa_cons (pe_mU (k := 4) (pv 0) (altok_cons ⟨He.cls_ok (T.t.d.fact 37 (f := .cls "IdealHeap") rfl), He.meth_ok (T.t.d.fact 87 (f := .meth "IdealHeap" "fields") rfl), (gd_IdealHeap_fields T).mono (by decide)⟩ altok_nil) (hr.mono (by decide)) (takes_of rfl rfl rfl rfl) (pa_cons (pv 1) pa_nil)) pa_nil))))) pss_nil)
 (pss_one (ps_ret (pe_tup (pa_cons pe_str pa_nil)))))))
theorem gd_said_of (T : Tx P w K mg base) : Good P w K mg base 5 (He.fAd K (d_said_of).at_) ["hall", "h"] (sp_said_of K) := by
  obtain ⟨fd, F⟩ := T.t.d.def_ 33 (d := d_said_of) rfl
  exact ⟨fd, ok_said_of T F⟩
theorem ok_IdealHeap_same (T : Tx P w K mg base) {f : Addr} {fd : FuncData} (F : FunD K "same" "IdealHeap.same" (defArgs s_IdealHeap_same) (defBody s_IdealHeap_same) (defScope s_IdealHeap_same) [] [] f fd) : GoodF P w K mg base 2 f fd ["self", "h", "g"] (sp_IdealHeap_same K) := by
  refine ⟨F.ok sc_IdealHeap_same (fun vs H Q E h => h.1) (fun cdv A outer s H vs Q E hr h => ⟨t_IdealHeap_same K E, ?_, h.2⟩), FunD.bindsN F fun _ _ _ _ _ _ us hl => match us, hl with | [_, _, _], _ => rfl, F.kp⟩
  have hu := hu_of hr
  have hdp := room_depth hr
  unfold t_IdealHeap_same
  exact (pss_cons (ps_expr (pe_cU (gd_look_at_hand T) (hr.mono (by decide)) (takes_of rfl rfl rfl rfl) rfl (He.glo_ok T.X T.G (T.t.d.fact 83 (f := .glo "look_at_hand") rfl)) (pa_cons (pv 1) pa_nil)))
 (pss_cons (ps_expr (pe_cU (gd_look_at_hand T) (hr.mono (by decide)) (takes_of rfl rfl rfl rfl) rfl (He.glo_ok T.X T.G (T.t.d.fact 83 (f := .glo "look_at_hand") rfl)) (pa_cons (pv 2) pa_nil)))
 (pss_one (ps_ret (pe_cmpR (op_eqU hr.units) (pe_ix ix_list (pe_fd (fdok_cons (He.cls_ok (T.t.d.fact 37 (f := .cls "IdealHeap") rfl)) (He.noat_ok (T.t.d.fact 41 (f := .noat "IdealHeap" "in_hands") rfl)) fdok_nil) (pv 0) rfl) (pv 1) (fun _ _ => rfl)) (pe_ix ix_list (pe_fd (fdok_cons (He.cls_ok (T.t.d.fact 37 (f := .cls "IdealHeap") rfl)) (He.noat_ok (T.t.d.fact 41 (f := .noat "IdealHeap" "in_hands") rfl)) fdok_nil) (pv 0) rfl) (pv 2) (fun _ _ => rfl)) (nomark _))))))
theorem gd_IdealHeap_same (T : Tx P w K mg base) : Good P w K mg base 2 (He.fAd K (d_IdealHeap_same).at_) ["self", "h", "g"] (sp_IdealHeap_same K) := by
  obtain ⟨fd, F⟩ := T.t.d.def_ 34 (d := d_IdealHeap_same) rfl
  exact ⟨fd, ok_IdealHeap_same T F⟩
theorem ok_goes_on (T : Tx P w K mg base) {f : Addr} {fd : FuncData} (F : FunD K "goes_on" "goes_on" (defArgs s_goes_on) (defBody s_goes_on) (defScope s_goes_on) [] [] f fd) : GoodF P w K mg base 3 f fd ["hall", "row"] (sp_goes_on K) := by
  refine ⟨F.ok sc_goes_on (fun vs H Q E h => h.1) (fun cdv A outer s H vs Q E hr h => ⟨t_goes_on K E, ?_, h.2⟩), FunD.bindsN F fun _ _ _ _ _ _ us hl => match us, hl with | [_, _], _ => rfl, F.kp⟩
  have hu := hu_of hr
  have hdp := room_depth hr
  unfold t_goes_on
  exact (pss_cons (ps_if (pt_cmpR op_eq (pe_ix ix_tup (pv 1) pe_int (fun _ _ => rfl)) pe_str (nomark _)) (pss_one (ps_ret (pe_mU (k := 2) (pv 0) (altok_cons ⟨He.cls_ok (T.t.d.fact 37 (f := .cls "IdealHeap") rfl), He.meth_ok (T.t.d.fact 89 (f := .meth "IdealHeap" "same") rfl), (gd_IdealHeap_same T).mono (by decide)⟩ altok_nil) (hr.mono (by decide)) (takes_of rfl rfl rfl rfl) (pa_cons (pe_ix ix_tup (pv 1) pe_int (fun _ _ => rfl)) (pa_cons (pe_ix ix_tup (pv 1) pe_int (fun _ _ => rfl)) pa_nil))))) pss_nil)
 (pss_cons (ps_if (pt_cmpR op_eq (pe_ix ix_tup (pv 1) pe_int (fun _ _ => rfl)) pe_str (nomark _)) (pss_one (ps_ret (pe_cmpR op_lt (pe_mU (k := 2) (pv 0) (altok_cons ⟨He.cls_ok (T.t.d.fact 37 (f := .cls "IdealHeap") rfl), He.meth_ok (T.t.d.fact 85 (f := .meth "IdealHeap" "value") rfl), (gd_IdealHeap_value T).mono (by decide)⟩ altok_nil) (hr.mono (by decide)) (takes_of rfl rfl rfl rfl) (pa_cons (pe_ix ix_tup (pv 1) pe_int (fun _ _ => rfl)) pa_nil)) (pe_mU (k := 2) (pv 0) (altok_cons ⟨He.cls_ok (T.t.d.fact 37 (f := .cls "IdealHeap") rfl), He.meth_ok (T.t.d.fact 85 (f := .meth "IdealHeap" "value") rfl), (gd_IdealHeap_value T).mono (by decide)⟩ altok_nil) (hr.mono (by decide)) (takes_of rfl rfl rfl rfl) (pa_cons (pe_ix ix_tup (pv 1) pe_int (fun _ _ => rfl)) pa_nil)) (nomark _)))) pss_nil)
 (pss_cons (ps_if (pt_cmpR op_eq (pe_ix ix_tup (pv 1) pe_int (fun _ _ => rfl)) pe_str (nomark _)) (pss_one (ps_ret (pe_cmpR op_eq (pe_mU (k := 2) (pv 0) (altok_cons ⟨He.cls_ok (T.t.d.fact 37 (f := .cls "IdealHeap") rfl), He.meth_ok (T.t.d.fact 84 (f := .meth "IdealHeap" "kind") rfl), (gd_IdealHeap_kind T).mono (by decide)⟩ altok_nil) (hr.mono (by decide)) (takes_of rfl rfl rfl rfl) (pa_cons (pe_ix ix_tup (pv 1) pe_int (fun _ _ => rfl)) pa_nil)) pe_str (nomark _)))) pss_nil)
 (pss_one (ps_ret pe_bl)))))
theorem gd_goes_on (T : Tx P w K mg base) : Good P w K mg base 3 (He.fAd K (d_goes_on).at_) ["hall", "row"] (sp_goes_on K) := by
  obtain ⟨fd, F⟩ := T.t.d.def_ 35 (d := d_goes_on) rfl
  exact ⟨fd, ok_goes_on T F⟩
theorem ok_words_of (T : Tx P w K mg base) {f : Addr} {fd : FuncData} (F : FunD K "words_of" "words_of" (defArgs s_words_of) (defBody s_words_of) (defScope s_words_of) [] [] f fd) : GoodF P w K mg base 1 f fd ["fields"] (sp_words_of K) := by
  refine ⟨F.ok sc_words_of (fun vs H Q E h => h.1) (fun cdv A outer s H vs Q E hr h => ⟨t_words_of K E, ?_, h.2⟩), FunD.bindsN F fun _ _ _ _ _ _ us hl => match us, hl with | [_], _ => rfl, F.kp⟩
  have hu := hu_of hr
  have hdp := room_depth hr
  unfold t_words_of
  exact (pss_cons (ps_if (PW.pt (pw_or (pt_cmpR op_lt (pv 0) pe_int (nomark _)) (pw_or1 (pt_cmpR op_gt (pv 0) (pe_globI rfl (He.int_ok T.X T.G (T.t.d.fact 91 (f := .int "MOST_FIELDS" 6) rfl))) (nomark _))))) (pss_one (ps_rz rfl (takes_of rfl rfl rfl rfl) (He.glo_ok T.X T.G (T.t.d.fact 26 (f := .glo "BadCount") rfl)) (He.exc_ok (T.t.d.fact 27 (f := .exc "BadCount") rfl)))) pss_nil)
 (pss_one (ps_ret (pe_op op_add (pv 0) pe_int))))
theorem gd_words_of (T : Tx P w K mg base) : Good P w K mg base 1 (He.fAd K (d_words_of).at_) ["fields"] (sp_words_of K) := by
  obtain ⟨fd, F⟩ := T.t.d.def_ 36 (d := d_words_of) rfl
  exact ⟨fd, ok_words_of T F⟩
theorem ok_words_in (T : Tx P w K mg base) {f : Addr} {fd : FuncData} (F : FunD K "words_in" "words_in" (defArgs s_words_in) (defBody s_words_in) (defScope s_words_in) [] [] f fd) : GoodF P w K mg base 2 f fd ["held", "some"] (sp_words_in K) := by
  refine ⟨F.ok sc_words_in (fun vs H Q E h => h.1) (fun cdv A outer s H vs Q E hr h => ⟨t_words_in K E, ?_, h.2⟩), FunD.bindsN F fun _ _ _ _ _ _ us hl => match us, hl with | [_, _], _ => rfl, F.kp⟩
  have hu := hu_of hr
  have hdp := room_depth hr
  unfold t_words_in
  exact (pss_one (ps_ret (pe_callB (cr_sum rfl) (by rfl) (He.free_ok T.X T.G (T.t.d.fact 93 (f := .free "sum") rfl)) (by decide +kernel) (pa_cons (pe_lock2 (pe_lc (own := [("thing", 2)]) (g := (gName 2)) (tt := tYes) (by rfl) sc_words_in.nd (pi_keys (pv 1)) (blkOk_by (own := [("thing", 2)]) (N := N_words_in) (sc := defScope s_words_in) (by decide +kernel)) (fun _ _ _ _ _ => (pg_name (i := 2) sc_words_in.nd rfl (Or.inl rfl))) (fun _ _ _ _ _ => pts_nil) (fun _ _ _ _ _ => (pe_cU (gd_words_of T) (hr.mono (by decide)) takes0 rfl (He.glo_ok T.X T.G (T.t.d.fact 92 (f := .glo "words_of") rfl)) (pa_cons (pe_callB call_len_seq (by rfl) (He.free_ok T.X T.G (T.t.d.fact 4 (f := .free "len") rfl)) (by decide +kernel) (pa_cons (pe_fd (fdok_cons (He.cls_ok (T.t.d.fact 67 (f := .cls "IdealThing") rfl)) (He.noat_ok (T.t.d.fact 69 (f := .noat "IdealThing" "inside") rfl)) fdok_nil) (pe_dget hu (pv 0) (pv 2) (fun _ _ => rfl)) rfl) pa_nil)) pa_nil))))) pa_nil))))
theorem gd_words_in (T : Tx P w K mg base) : Good P w K mg base 2 (He.fAd K (d_words_in).at_) ["held", "some"] (sp_words_in K) := by
  obtain ⟨fd, F⟩ := T.t.d.def_ 37 (d := d_words_in) rfl
  exact ⟨fd, ok_words_in T F⟩
theorem ok_IdealHeap_held (T : Tx P w K mg base) {f : Addr} {fd : FuncData} (F : FunD K "held" "IdealHeap.held" (defArgs s_IdealHeap_held) (defBody s_IdealHeap_held) (defScope s_IdealHeap_held) [] [] f fd) : GoodF P w K mg base 3 f fd ["self"] (sp_IdealHeap_held K) := by
  refine ⟨F.ok sc_IdealHeap_held (fun vs H Q E h => h.1) (fun cdv A outer s H vs Q E hr h => ⟨t_IdealHeap_held K E, ?_, h.2⟩), FunD.bindsN F fun _ _ _ _ _ _ us hl => match us, hl with | [_], _ => rfl, F.kp⟩
  have hu := hu_of hr
  have hdp := room_depth hr
  unfold t_IdealHeap_held
  exact (pss_one (ps_ret (pe_cU (gd_words_in T) (hr.mono (by decide)) (takes_of rfl rfl rfl rfl) rfl (He.glo_ok T.X T.G (T.t.d.fact 94 (f := .glo "words_in") rfl)) (pa_cons (pe_fd (fdok_cons (He.cls_ok (T.t.d.fact 37 (f := .cls "IdealHeap") rfl)) (He.noat_ok (T.t.d.fact 44 (f := .noat "IdealHeap" "kept") rfl)) fdok_nil) (pv 0) rfl) (pa_cons (pe_fd (fdok_cons (He.cls_ok (T.t.d.fact 37 (f := .cls "IdealHeap") rfl)) (He.noat_ok (T.t.d.fact 44 (f := .noat "IdealHeap" "kept") rfl)) fdok_nil) (pv 0) rfl) pa_nil)))))
theorem gd_IdealHeap_held (T : Tx P w K mg base) : Good P w K mg base 3 (He.fAd K (d_IdealHeap_held).at_) ["self"] (sp_IdealHeap_held K) := by
  obtain ⟨fd, F⟩ := T.t.d.def_ 38 (d := d_IdealHeap_held) rfl
  exact ⟨fd, ok_IdealHeap_held T F⟩
theorem ok_IdealThing___init__ (T : Tx P w K mg base) {f : Addr} {fd : FuncData} (F : FunD K "__init__" "IdealThing.__init__" (defArgs s_IdealThing___init__) (defBody s_IdealThing___init__) (defScope s_IdealThing___init__) [] [] f fd) : GoodF P w K mg base 1 f fd ["self", "fields", "old"] (sp_IdealThing___init__ K) := by
  refine ⟨F.ok sc_IdealThing___init__ (fun vs H Q E h => h.1) (fun cdv A outer s H vs Q E hr h => ⟨t_IdealThing___init__ K E, ?_, h.2⟩), FunD.bindsN F fun _ _ _ _ _ _ us hl => match us, hl with | [_, _, _], _ => rfl, F.kp⟩
  have hu := hu_of hr
  have hdp := room_depth hr
  unfold t_IdealThing___init__
  exact (pss_cons (ps_fd (fdok_cons (He.cls_ok (T.t.d.fact 67 (f := .cls "IdealThing") rfl)) (He.noat_ok (T.t.d.fact 69 (f := .noat "IdealThing" "inside") rfl)) fdok_nil) (pv 0) (pe_lc (own := [("place", 3)]) (g := (gName 3)) (tt := tYes) (by rfl) sc_IdealThing___init__.nd (pi_range1 (by rfl) (He.free_ok T.X T.G (T.t.d.fact 0 (f := .free "range") rfl)) (pa_cons (pv 1) pa_nil)) (blkOk_by (own := [("place", 3)]) (N := N_IdealThing___init__) (sc := defScope s_IdealThing___init__) (by decide +kernel)) (fun _ _ _ _ _ => (pg_name (i := 3) sc_IdealThing___init__.nd rfl (Or.inl rfl))) (fun _ _ _ _ _ => pts_nil) (fun _ _ _ _ _ => pe_non)) rfl)
 (pss_cons (ps_fd (fdok_cons (He.cls_ok (T.t.d.fact 67 (f := .cls "IdealThing") rfl)) (He.noat_ok (T.t.d.fact 68 (f := .noat "IdealThing" "aged") rfl)) fdok_nil) (pv 0) (pv 2) rfl)
 (pss_one (ps_fd (fdok_cons (He.cls_ok (T.t.d.fact 67 (f := .cls "IdealThing") rfl)) (He.noat_ok (T.t.d.fact 74 (f := .noat "IdealThing" "last_word") rfl)) fdok_nil) (pv 0) pe_non rfl))))
theorem gd_IdealThing___init__ (T : Tx P w K mg base) : Good P w K mg base 1 (He.fAd K (d_IdealThing___init__).at_) ["self", "fields", "old"] (sp_IdealThing___init__ K) := by
  obtain ⟨fd, F⟩ := T.t.d.def_ 39 (d := d_IdealThing___init__) rfl
  exact ⟨fd, ok_IdealThing___init__ T F⟩
theorem ok_thing_value (T : Tx P w K mg base) {f : Addr} {fd : FuncData} (F : FunD K "thing_value" "thing_value" (defArgs s_thing_value) (defBody s_thing_value) (defScope s_thing_value) [] [] f fd) : GoodF P w K mg base 1 f fd ["t"] (sp_thing_value K) := by
  refine ⟨F.ok sc_thing_value (fun vs H Q E h => h.1) (fun cdv A outer s H vs Q E hr h => ⟨t_thing_value K E, ?_, h.2⟩), FunD.bindsN F fun _ _ _ _ _ _ us hl => match us, hl with | [_], _ => rfl, F.kp⟩
  have hu := hu_of hr
  have hdp := room_depth hr
  unfold t_thing_value
  exact (pss_one (ps_ret (pe_tup (pa_cons pe_str (pa_cons (pv 0) pa_nil)))))
theorem gd_thing_value (T : Tx P w K mg base) : Good P w K mg base 1 (He.fAd K (d_thing_value).at_) ["t"] (sp_thing_value K) := by
  obtain ⟨fd, F⟩ := T.t.d.def_ 40 (d := d_thing_value) rfl
  exact ⟨fd, ok_thing_value T F⟩
theorem ok_IdealHeap_make (T : Tx P w K mg base) {f : Addr} {fd : FuncData} (F : FunD K "make" "IdealHeap.make" (defArgs s_IdealHeap_make) (defBody s_IdealHeap_make) (defScope s_IdealHeap_make) [] [] f fd) : GoodF P w K mg base 7 f fd ["self", "h", "n"] (sp_IdealHeap_make K) := by
  refine ⟨F.ok sc_IdealHeap_make (fun vs H Q E h => h.1) (fun cdv A outer s H vs Q E hr h => ⟨t_IdealHeap_make K E, ?_, h.2⟩), FunD.bindsN F fun _ _ _ _ _ _ us hl => match us, hl with | [_, _, _], _ => rfl, F.kp⟩
  have hu := hu_of hr
  have hdp := room_depth hr
  unfold t_IdealHeap_make
  exact (pss_cons (ps_expr (pe_cU (gd_look_at_hand T) (hr.mono (by decide)) (takes_of rfl rfl rfl rfl) rfl (He.glo_ok T.X T.G (T.t.d.fact 83 (f := .glo "look_at_hand") rfl)) (pa_cons (pv 1) pa_nil)))
 (pss_cons (ps_set (i := 3) sc_IdealHeap_make.nd rfl (Or.inl rfl) (pe_cU (gd_words_of T) (hr.mono (by decide)) (takes_of rfl rfl rfl rfl) rfl (He.glo_ok T.X T.G (T.t.d.fact 92 (f := .glo "words_of") rfl)) (pa_cons (pv 2) pa_nil)))
 (pss_cons (ps_if (PW.pt (pw_and (pt_cmpR op_gt (pe_fd (fdok_cons (He.cls_ok (T.t.d.fact 37 (f := .cls "IdealHeap") rfl)) (He.noat_ok (T.t.d.fact 38 (f := .noat "IdealHeap" "room") rfl)) fdok_nil) (pv 0) rfl) pe_int (nomark _)) (pw_and1 (pt_cmpR op_gt (pe_op op_add (pe_cU (gd_words_in T) (hr.mono (by decide)) (takes_of rfl rfl rfl rfl) rfl (He.glo_ok T.X T.G (T.t.d.fact 94 (f := .glo "words_in") rfl)) (pa_cons (pe_fd (fdok_cons (He.cls_ok (T.t.d.fact 37 (f := .cls "IdealHeap") rfl)) (He.noat_ok (T.t.d.fact 44 (f := .noat "IdealHeap" "kept") rfl)) fdok_nil) (pv 0) rfl) (pa_cons (pe_cU (gd_young_things T) (hr.mono (by decide)) (takes_of rfl rfl rfl rfl) rfl (He.glo_ok T.X T.G (T.t.d.fact 70 (f := .glo "young_things") rfl)) (pa_cons (pe_fd (fdok_cons (He.cls_ok (T.t.d.fact 37 (f := .cls "IdealHeap") rfl)) (He.noat_ok (T.t.d.fact 44 (f := .noat "IdealHeap" "kept") rfl)) fdok_nil) (pv 0) rfl) pa_nil)) pa_nil))) (pv 3)) (pe_fd (fdok_cons (He.cls_ok (T.t.d.fact 37 (f := .cls "IdealHeap") rfl)) (He.noat_ok (T.t.d.fact 38 (f := .noat "IdealHeap" "room") rfl)) fdok_nil) (pv 0) rfl) (nomark _))))) (pss_one (ps_expr (pe_mU0 (k := 6) (pv 0) (altok_cons ⟨He.cls_ok (T.t.d.fact 37 (f := .cls "IdealHeap") rfl), He.meth_ok (T.t.d.fact 76 (f := .meth "IdealHeap" "small") rfl), (gd_IdealHeap_small T).mono (by decide)⟩ altok_nil) (hr.mono (by decide)) (takes_of rfl rfl rfl rfl)))) pss_nil)
 (pss_cons (ps_if (pt_cmpR op_gt (pe_op op_add (pe_mU0 (k := 3) (pv 0) (altok_cons ⟨He.cls_ok (T.t.d.fact 37 (f := .cls "IdealHeap") rfl), He.meth_ok (T.t.d.fact 95 (f := .meth "IdealHeap" "held") rfl), (gd_IdealHeap_held T).mono (by decide)⟩ altok_nil) (hr.mono (by decide)) (takes_of rfl rfl rfl rfl)) (pv 3)) (pe_fd (fdok_cons (He.cls_ok (T.t.d.fact 37 (f := .cls "IdealHeap") rfl)) (He.noat_ok (T.t.d.fact 39 (f := .noat "IdealHeap" "limit") rfl)) fdok_nil) (pv 0) rfl) (nomark _)) (pss_one (ps_rz rfl (takes_of rfl rfl rfl rfl) (He.glo_ok T.X T.G (T.t.d.fact 96 (f := .glo "NoRoom") rfl)) (He.exc_ok (T.t.d.fact 97 (f := .exc "NoRoom") rfl)))) pss_nil)
 (pss_cons (ps_dput hu (pe_fd (fdok_cons (He.cls_ok (T.t.d.fact 37 (f := .cls "IdealHeap") rfl)) (He.noat_ok (T.t.d.fact 44 (f := .noat "IdealHeap" "kept") rfl)) fdok_nil) (pv 0) rfl) (pe_fd (fdok_cons (He.cls_ok (T.t.d.fact 37 (f := .cls "IdealHeap") rfl)) (He.noat_ok (T.t.d.fact 45 (f := .noat "IdealHeap" "count") rfl)) fdok_nil) (pv 0) rfl) (pe_mkU (He.mkr_ok (T.t.d.fact 98 (f := .mkr "IdealThing") rfl)) (gd_IdealThing___init__ T) (hr.mono (by decide)) (takes_of rfl rfl rfl rfl) rfl (He.glo_ok T.X T.G (T.t.d.fact 99 (f := .glo "IdealThing") rfl)) (pa_cons (pv 2) (pa_cons (pe_cmpR op_eq (pe_fd (fdok_cons (He.cls_ok (T.t.d.fact 37 (f := .cls "IdealHeap") rfl)) (He.noat_ok (T.t.d.fact 38 (f := .noat "IdealHeap" "room") rfl)) fdok_nil) (pv 0) rfl) pe_int (nomark _)) pa_nil))) rfl)
 (pss_cons (ps_asg (pe_cU (gd_thing_value T) (hr.mono (by decide)) (takes_of rfl rfl rfl rfl) rfl (He.glo_ok T.X T.G (T.t.d.fact 100 (f := .glo "thing_value") rfl)) (pa_cons (pe_fd (fdok_cons (He.cls_ok (T.t.d.fact 37 (f := .cls "IdealHeap") rfl)) (He.noat_ok (T.t.d.fact 45 (f := .noat "IdealHeap" "count") rfl)) fdok_nil) (pv 0) rfl) pa_nil)) (pg_sub (pe_fd (fdok_cons (He.cls_ok (T.t.d.fact 37 (f := .cls "IdealHeap") rfl)) (He.noat_ok (T.t.d.fact 41 (f := .noat "IdealHeap" "in_hands") rfl)) fdok_nil) (pv 0) rfl) (pv 1) set_list))
 (pss_one (ps_fd (fdok_cons (He.cls_ok (T.t.d.fact 37 (f := .cls "IdealHeap") rfl)) (He.noat_ok (T.t.d.fact 45 (f := .noat "IdealHeap" "count") rfl)) fdok_nil) (pv 0) (pe_op op_add (pe_fd (fdok_cons (He.cls_ok (T.t.d.fact 37 (f := .cls "IdealHeap") rfl)) (He.noat_ok (T.t.d.fact 45 (f := .noat "IdealHeap" "count") rfl)) fdok_nil) (pv 0) rfl) pe_int) rfl))))))))
theorem gd_IdealHeap_make (T : Tx P w K mg base) : Good P w K mg base 7 (He.fAd K (d_IdealHeap_make).at_) ["self", "h", "n"] (sp_IdealHeap_make K) := by
  obtain ⟨fd, F⟩ := T.t.d.def_ 41 (d := d_IdealHeap_make) rfl
  exact ⟨fd, ok_IdealHeap_make T F⟩
theorem ok_IdealHeap_field_due (T : Tx P w K mg base) {f : Addr} {fd : FuncData} (F : FunD K "field_due" "IdealHeap.field_due" (defArgs s_IdealHeap_field_due) (defBody s_IdealHeap_field_due) (defScope s_IdealHeap_field_due) [] [] f fd) : GoodF P w K mg base 1 f fd ["self", "thing", "k"] (sp_IdealHeap_field_due K) := by
  refine ⟨F.ok sc_IdealHeap_field_due (fun vs H Q E h => h.1) (fun cdv A outer s H vs Q E hr h => ⟨t_IdealHeap_field_due K E, ?_, h.2⟩), FunD.bindsN F fun _ _ _ _ _ _ us hl => match us, hl with | [_, _, _], _ => rfl, F.kp⟩
  have hu := hu_of hr
  have hdp := room_depth hr
  unfold t_IdealHeap_field_due
  exact (pss_one (ps_if (PW.pt (pw_or (pt_cmpR op_lt (pv 2) pe_int (nomark _)) (pw_or1 (pt_cmpR op_ge (pv 2) (pe_callB call_len_seq (by rfl) (He.free_ok T.X T.G (T.t.d.fact 4 (f := .free "len") rfl)) (by decide +kernel) (pa_cons (pe_fd (fdok_cons (He.cls_ok (T.t.d.fact 67 (f := .cls "IdealThing") rfl)) (He.noat_ok (T.t.d.fact 69 (f := .noat "IdealThing" "inside") rfl)) fdok_nil) (pe_dget hu (pe_fd (fdok_cons (He.cls_ok (T.t.d.fact 37 (f := .cls "IdealHeap") rfl)) (He.noat_ok (T.t.d.fact 44 (f := .noat "IdealHeap" "kept") rfl)) fdok_nil) (pv 0) rfl) (pv 1) (fun _ _ => rfl)) rfl) pa_nil)) (nomark _))))) (pss_one (ps_rz rfl (takes_of rfl rfl rfl rfl) (He.glo_ok T.X T.G (T.t.d.fact 102 (f := .glo "BadField") rfl)) (He.exc_ok (T.t.d.fact 103 (f := .exc "BadField") rfl)))) pss_nil))
theorem gd_IdealHeap_field_due (T : Tx P w K mg base) : Good P w K mg base 1 (He.fAd K (d_IdealHeap_field_due).at_) ["self", "thing", "k"] (sp_IdealHeap_field_due K) := by
  obtain ⟨fd, F⟩ := T.t.d.def_ 42 (d := d_IdealHeap_field_due) rfl
  exact ⟨fd, ok_IdealHeap_field_due T F⟩
theorem ok_IdealHeap_load (T : Tx P w K mg base) {f : Addr} {fd : FuncData} (F : FunD K "load" "IdealHeap.load" (defArgs s_IdealHeap_load) (defBody s_IdealHeap_load) (defScope s_IdealHeap_load) [] [] f fd) : GoodF P w K mg base 4 f fd ["self", "h", "g", "k"] (sp_IdealHeap_load K) := by
  refine ⟨F.ok sc_IdealHeap_load (fun vs H Q E h => h.1) (fun cdv A outer s H vs Q E hr h => ⟨t_IdealHeap_load K E, ?_, h.2⟩), FunD.bindsN F fun _ _ _ _ _ _ us hl => match us, hl with | [_, _, _, _], _ => rfl, F.kp⟩
  have hu := hu_of hr
  have hdp := room_depth hr
  unfold t_IdealHeap_load
  exact (pss_cons (ps_expr (pe_cU (gd_look_at_hand T) (hr.mono (by decide)) (takes_of rfl rfl rfl rfl) rfl (He.glo_ok T.X T.G (T.t.d.fact 83 (f := .glo "look_at_hand") rfl)) (pa_cons (pv 1) pa_nil)))
 (pss_cons (ps_set (i := 4) sc_IdealHeap_load.nd rfl (Or.inl rfl) (pe_mU (k := 3) (pv 0) (altok_cons ⟨He.cls_ok (T.t.d.fact 37 (f := .cls "IdealHeap") rfl), He.meth_ok (T.t.d.fact 86 (f := .meth "IdealHeap" "thing_in") rfl), (gd_IdealHeap_thing_in T).mono (by decide)⟩ altok_nil) (hr.mono (by decide)) (takes_of rfl rfl rfl rfl) (pa_cons (pv 2) pa_nil)))
 (pss_cons (ps_expr (pe_mU (k := 1) (pv 0) (altok_cons ⟨He.cls_ok (T.t.d.fact 37 (f := .cls "IdealHeap") rfl), He.meth_ok (T.t.d.fact 104 (f := .meth "IdealHeap" "field_due") rfl), (gd_IdealHeap_field_due T).mono (by decide)⟩ altok_nil) (hr.mono (by decide)) (takes_of rfl rfl rfl rfl) (pa_cons (pv 4) (pa_cons (pv 3) pa_nil))))
 (pss_one (ps_asg (pe_ix ix_list (pe_fd (fdok_cons (He.cls_ok (T.t.d.fact 67 (f := .cls "IdealThing") rfl)) (He.noat_ok (T.t.d.fact 69 (f := .noat "IdealThing" "inside") rfl)) fdok_nil) (pe_dget hu (pe_fd (fdok_cons (He.cls_ok (T.t.d.fact 37 (f := .cls "IdealHeap") rfl)) (He.noat_ok (T.t.d.fact 44 (f := .noat "IdealHeap" "kept") rfl)) fdok_nil) (pv 0) rfl) (pv 4) (fun _ _ => rfl)) rfl) (pv 3) (fun _ _ => rfl)) (pg_sub (pe_fd (fdok_cons (He.cls_ok (T.t.d.fact 37 (f := .cls "IdealHeap") rfl)) (He.noat_ok (T.t.d.fact 41 (f := .noat "IdealHeap" "in_hands") rfl)) fdok_nil) (pv 0) rfl) (pv 1) set_list))))))
theorem gd_IdealHeap_load (T : Tx P w K mg base) : Good P w K mg base 4 (He.fAd K (d_IdealHeap_load).at_) ["self", "h", "g", "k"] (sp_IdealHeap_load K) := by
  obtain ⟨fd, F⟩ := T.t.d.def_ 43 (d := d_IdealHeap_load) rfl
  exact ⟨fd, ok_IdealHeap_load T F⟩
theorem ok_IdealHeap_store (T : Tx P w K mg base) {f : Addr} {fd : FuncData} (F : FunD K "store" "IdealHeap.store" (defArgs s_IdealHeap_store) (defBody s_IdealHeap_store) (defScope s_IdealHeap_store) [] [] f fd) : GoodF P w K mg base 4 f fd ["self", "g", "k", "h"] (sp_IdealHeap_store K) := by
  refine ⟨F.ok sc_IdealHeap_store (fun vs H Q E h => h.1) (fun cdv A outer s H vs Q E hr h => ⟨t_IdealHeap_store K E, ?_, h.2⟩), FunD.bindsN F fun _ _ _ _ _ _ us hl => match us, hl with | [_, _, _, _], _ => rfl, F.kp⟩
  have hu := hu_of hr
  have hdp := room_depth hr
  unfold t_IdealHeap_store
  exact (pss_cons (ps_set (i := 4) sc_IdealHeap_store.nd rfl (Or.inl rfl) (pe_mU (k := 3) (pv 0) (altok_cons ⟨He.cls_ok (T.t.d.fact 37 (f := .cls "IdealHeap") rfl), He.meth_ok (T.t.d.fact 86 (f := .meth "IdealHeap" "thing_in") rfl), (gd_IdealHeap_thing_in T).mono (by decide)⟩ altok_nil) (hr.mono (by decide)) (takes_of rfl rfl rfl rfl) (pa_cons (pv 1) pa_nil)))
 (pss_cons (ps_expr (pe_cU (gd_look_at_hand T) (hr.mono (by decide)) (takes_of rfl rfl rfl rfl) rfl (He.glo_ok T.X T.G (T.t.d.fact 83 (f := .glo "look_at_hand") rfl)) (pa_cons (pv 3) pa_nil)))
 (pss_cons (ps_expr (pe_mU (k := 1) (pv 0) (altok_cons ⟨He.cls_ok (T.t.d.fact 37 (f := .cls "IdealHeap") rfl), He.meth_ok (T.t.d.fact 104 (f := .meth "IdealHeap" "field_due") rfl), (gd_IdealHeap_field_due T).mono (by decide)⟩ altok_nil) (hr.mono (by decide)) (takes_of rfl rfl rfl rfl) (pa_cons (pv 4) (pa_cons (pv 2) pa_nil))))
 (pss_one (ps_asg (pe_ix ix_list (pe_fd (fdok_cons (He.cls_ok (T.t.d.fact 37 (f := .cls "IdealHeap") rfl)) (He.noat_ok (T.t.d.fact 41 (f := .noat "IdealHeap" "in_hands") rfl)) fdok_nil) (pv 0) rfl) (pv 3) (fun _ _ => rfl)) (pg_sub (pe_fd (fdok_cons (He.cls_ok (T.t.d.fact 67 (f := .cls "IdealThing") rfl)) (He.noat_ok (T.t.d.fact 69 (f := .noat "IdealThing" "inside") rfl)) fdok_nil) (pe_dget hu (pe_fd (fdok_cons (He.cls_ok (T.t.d.fact 37 (f := .cls "IdealHeap") rfl)) (He.noat_ok (T.t.d.fact 44 (f := .noat "IdealHeap" "kept") rfl)) fdok_nil) (pv 0) rfl) (pv 4) (fun _ _ => rfl)) rfl) (pv 2) set_list))))))
theorem gd_IdealHeap_store (T : Tx P w K mg base) : Good P w K mg base 4 (He.fAd K (d_IdealHeap_store).at_) ["self", "g", "k", "h"] (sp_IdealHeap_store K) := by
  obtain ⟨fd, F⟩ := T.t.d.def_ 44 (d := d_IdealHeap_store) rfl
  exact ⟨fd, ok_IdealHeap_store T F⟩
theorem ok_IdealHeap_copy (T : Tx P w K mg base) {f : Addr} {fd : FuncData} (F : FunD K "copy" "IdealHeap.copy" (defArgs s_IdealHeap_copy) (defBody s_IdealHeap_copy) (defScope s_IdealHeap_copy) [] [] f fd) : GoodF P w K mg base 2 f fd ["self", "h", "g"] (sp_IdealHeap_copy K) := by
  refine ⟨F.ok sc_IdealHeap_copy (fun vs H Q E h => h.1) (fun cdv A outer s H vs Q E hr h => ⟨t_IdealHeap_copy K E, ?_, h.2⟩), FunD.bindsN F fun _ _ _ _ _ _ us hl => match us, hl with | [_, _, _], _ => rfl, F.kp⟩
  have hu := hu_of hr
  have hdp := room_depth hr
  unfold t_IdealHeap_copy
  exact (pss_cons (ps_expr (pe_cU (gd_look_at_hand T) (hr.mono (by decide)) (takes_of rfl rfl rfl rfl) rfl (He.glo_ok T.X T.G (T.t.d.fact 83 (f := .glo "look_at_hand") rfl)) (pa_cons (pv 1) pa_nil)))
 (pss_cons (ps_expr (pe_cU (gd_look_at_hand T) (hr.mono (by decide)) (takes_of rfl rfl rfl rfl) rfl (He.glo_ok T.X T.G (T.t.d.fact 83 (f := .glo "look_at_hand") rfl)) (pa_cons (pv 2) pa_nil)))
 (pss_one (ps_asg (pe_ix ix_list (pe_fd (fdok_cons (He.cls_ok (T.t.d.fact 37 (f := .cls "IdealHeap") rfl)) (He.noat_ok (T.t.d.fact 41 (f := .noat "IdealHeap" "in_hands") rfl)) fdok_nil) (pv 0) rfl) (pv 2) (fun _ _ => rfl)) (pg_sub (pe_fd (fdok_cons (He.cls_ok (T.t.d.fact 37 (f := .cls "IdealHeap") rfl)) (He.noat_ok (T.t.d.fact 41 (f := .noat "IdealHeap" "in_hands") rfl)) fdok_nil) (pv 0) rfl) (pv 1) set_list)))))
theorem gd_IdealHeap_copy (T : Tx P w K mg base) : Good P w K mg base 2 (He.fAd K (d_IdealHeap_copy).at_) ["self", "h", "g"] (sp_IdealHeap_copy K) := by
  obtain ⟨fd, F⟩ := T.t.d.def_ 45 (d := d_IdealHeap_copy) rfl
  exact ⟨fd, ok_IdealHeap_copy T F⟩
theorem ok_IdealHeap_drop (T : Tx P w K mg base) {f : Addr} {fd : FuncData} (F : FunD K "drop" "IdealHeap.drop" (defArgs s_IdealHeap_drop) (defBody s_IdealHeap_drop) (defScope s_IdealHeap_drop) [] [] f fd) : GoodF P w K mg base 2 f fd ["self", "h"] (sp_IdealHeap_drop K) := by
  refine ⟨F.ok sc_IdealHeap_drop (fun vs H Q E h => h.1) (fun cdv A outer s H vs Q E hr h => ⟨t_IdealHeap_drop K E, ?_, h.2⟩), FunD.bindsN F fun _ _ _ _ _ _ us hl => match us, hl with | [_, _], _ => rfl, F.kp⟩
  have hu := hu_of hr
  have hdp := room_depth hr
  unfold t_IdealHeap_drop
  exact (pss_cons (ps_expr (pe_cU (gd_look_at_hand T) (hr.mono (by decide)) (takes_of rfl rfl rfl rfl) rfl (He.glo_ok T.X T.G (T.t.d.fact 83 (f := .glo "look_at_hand") rfl)) (pa_cons (pv 1) pa_nil)))
 (pss_one (ps_asg pe_non (pg_sub (pe_fd (fdok_cons (He.cls_ok (T.t.d.fact 37 (f := .cls "IdealHeap") rfl)) (He.noat_ok (T.t.d.fact 41 (f := .noat "IdealHeap" "in_hands") rfl)) fdok_nil) (pv 0) rfl) (pv 1) set_list))))
theorem gd_IdealHeap_drop (T : Tx P w K mg base) : Good P w K mg base 2 (He.fAd K (d_IdealHeap_drop).at_) ["self", "h"] (sp_IdealHeap_drop K) := by
  obtain ⟨fd, F⟩ := T.t.d.def_ 46 (d := d_IdealHeap_drop) rfl
  exact ⟨fd, ok_IdealHeap_drop T F⟩
theorem ok_number_value (T : Tx P w K mg base) {f : Addr} {fd : FuncData} (F : FunD K "number_value" "number_value" (defArgs s_number_value) (defBody s_number_value) (defScope s_number_value) [] [] f fd) : GoodF P w K mg base 1 f fd ["x"] (sp_number_value K) := by
  refine ⟨F.ok sc_number_value (fun vs H Q E h => h.1) (fun cdv A outer s H vs Q E hr h => ⟨t_number_value K E, ?_, h.2⟩), FunD.bindsN F fun _ _ _ _ _ _ us hl => match us, hl with | [_], _ => rfl, F.kp⟩
  have hu := hu_of hr
  have hdp := room_depth hr
  unfold t_number_value
  exact (pss_cons (ps_if (PW.pt (pw_or (pt_cmpR op_lt (pv 0) (pe_un un_neg (pe_globI rfl (He.int_ok T.X T.G (T.t.d.fact 109 (f := .int "FAR" 1000000000000000000000000000000000000000000000000000000000000) rfl)))) (nomark _)) (pw_or1 (pt_cmpR op_gt (pv 0) (pe_globI rfl (He.int_ok T.X T.G (T.t.d.fact 109 (f := .int "FAR" 1000000000000000000000000000000000000000000000000000000000000) rfl))) (nomark _))))) (pss_one (ps_rz rfl (takes_of rfl rfl rfl rfl) (He.glo_ok T.X T.G (T.t.d.fact 26 (f := .glo "BadCount") rfl)) (He.exc_ok (T.t.d.fact 27 (f := .exc "BadCount") rfl)))) pss_nil)
 (pss_one (ps_ret (pe_tup (pa_cons pe_str (pa_cons (pv 0) pa_nil))))))
theorem gd_number_value (T : Tx P w K mg base) : Good P w K mg base 1 (He.fAd K (d_number_value).at_) ["x"] (sp_number_value K) := by
  obtain ⟨fd, F⟩ := T.t.d.def_ 47 (d := d_number_value) rfl
  exact ⟨fd, ok_number_value T F⟩
theorem ok_IdealHeap_number (T : Tx P w K mg base) {f : Addr} {fd : FuncData} (F : FunD K "number" "IdealHeap.number" (defArgs s_IdealHeap_number) (defBody s_IdealHeap_number) (defScope s_IdealHeap_number) [] [] f fd) : GoodF P w K mg base 2 f fd ["self", "h", "x"] (sp_IdealHeap_number K) := by
  refine ⟨F.ok sc_IdealHeap_number (fun vs H Q E h => h.1) (fun cdv A outer s H vs Q E hr h => ⟨t_IdealHeap_number K E, ?_, h.2⟩), FunD.bindsN F fun _ _ _ _ _ _ us hl => match us, hl with | [_, _, _], _ => rfl, F.kp⟩
  have hu := hu_of hr
  have hdp := room_depth hr
  unfold t_IdealHeap_number
  exact (pss_cons (ps_expr (pe_cU (gd_look_at_hand T) (hr.mono (by decide)) (takes_of rfl rfl rfl rfl) rfl (He.glo_ok T.X T.G (T.t.d.fact 83 (f := .glo "look_at_hand") rfl)) (pa_cons (pv 1) pa_nil)))
 (pss_one (ps_asg (pe_cU (gd_number_value T) (hr.mono (by decide)) (takes_of rfl rfl rfl rfl) rfl (He.glo_ok T.X T.G (T.t.d.fact 110 (f := .glo "number_value") rfl)) (pa_cons (pv 2) pa_nil)) (pg_sub (pe_fd (fdok_cons (He.cls_ok (T.t.d.fact 37 (f := .cls "IdealHeap") rfl)) (He.noat_ok (T.t.d.fact 41 (f := .noat "IdealHeap" "in_hands") rfl)) fdok_nil) (pv 0) rfl) (pv 1) set_list))))
theorem gd_IdealHeap_number (T : Tx P w K mg base) : Good P w K mg base 2 (He.fAd K (d_IdealHeap_number).at_) ["self", "h", "x"] (sp_IdealHeap_number K) := by
  obtain ⟨fd, F⟩ := T.t.d.def_ 48 (d := d_IdealHeap_number) rfl
  exact ⟨fd, ok_IdealHeap_number T F⟩
theorem ok_look_at_name (T : Tx P w K mg base) {f : Addr} {fd : FuncData} (F : FunD K "look_at_name" "look_at_name" (defArgs s_look_at_name) (defBody s_look_at_name) (defScope s_look_at_name) [] [] f fd) : GoodF P w K mg base 1 f fd ["w"] (sp_look_at_name K) := by
  refine ⟨F.ok sc_look_at_name (fun vs H Q E h => h.1) (fun cdv A outer s H vs Q E hr h => ⟨t_look_at_name K E, ?_, h.2⟩), FunD.bindsN F fun _ _ _ _ _ _ us hl => match us, hl with | [_], _ => rfl, F.kp⟩
  have hu := hu_of hr
  have hdp := room_depth hr
  unfold t_look_at_name
  exact (pss_one (ps_if (PW.pt (pw_or (pt_cmpR op_lt (pv 0) pe_int (nomark _)) (pw_or1 (pt_cmpR op_ge (pv 0) (pe_globI rfl (He.int_ok T.X T.G (T.t.d.fact 42 (f := .int "NAMES" 8) rfl))) (nomark _))))) (pss_one (ps_rz rfl (takes_of rfl rfl rfl rfl) (He.glo_ok T.X T.G (T.t.d.fact 112 (f := .glo "BadName") rfl)) (He.exc_ok (T.t.d.fact 113 (f := .exc "BadName") rfl)))) pss_nil))
theorem gd_look_at_name (T : Tx P w K mg base) : Good P w K mg base 1 (He.fAd K (d_look_at_name).at_) ["w"] (sp_look_at_name K) := by
  obtain ⟨fd, F⟩ := T.t.d.def_ 49 (d := d_look_at_name) rfl
  exact ⟨fd, ok_look_at_name T F⟩
theorem ok_IdealHeap_name (T : Tx P w K mg base) {f : Addr} {fd : FuncData} (F : FunD K "name" "IdealHeap.name" (defArgs s_IdealHeap_name) (defBody s_IdealHeap_name) (defScope s_IdealHeap_name) [] [] f fd) : GoodF P w K mg base 4 f fd ["self", "w", "h"] (sp_IdealHeap_name K) := by
  refine ⟨F.ok sc_IdealHeap_name (fun vs H Q E h => h.1) (fun cdv A outer s H vs Q E hr h => ⟨t_IdealHeap_name K E, ?_, h.2⟩), FunD.bindsN F fun _ _ _ _ _ _ us hl => match us, hl with | [_, _, _], _ => rfl, F.kp⟩
  have hu := hu_of hr
  have hdp := room_depth hr
  unfold t_IdealHeap_name
  exact (pss_cons (ps_set (i := 3) sc_IdealHeap_name.nd rfl (Or.inl rfl) (pe_mU (k := 3) (pv 0) (altok_cons ⟨He.cls_ok (T.t.d.fact 37 (f := .cls "IdealHeap") rfl), He.meth_ok (T.t.d.fact 86 (f := .meth "IdealHeap" "thing_in") rfl), (gd_IdealHeap_thing_in T).mono (by decide)⟩ altok_nil) (hr.mono (by decide)) (takes_of rfl rfl rfl rfl) (pa_cons (pv 2) pa_nil)))
 (pss_cons (ps_expr (pe_cU (gd_look_at_name T) (hr.mono (by decide)) (takes_of rfl rfl rfl rfl) rfl (He.glo_ok T.X T.G (T.t.d.fact 114 (f := .glo "look_at_name") rfl)) (pa_cons (pv 1) pa_nil)))
 (pss_one (ps_asg (pv 3) (pg_sub (pe_fd (fdok_cons (He.cls_ok (T.t.d.fact 37 (f := .cls "IdealHeap") rfl)) (He.noat_ok (T.t.d.fact 43 (f := .noat "IdealHeap" "naming") rfl)) fdok_nil) (pv 0) rfl) (pv 1) set_list)))))
theorem gd_IdealHeap_name (T : Tx P w K mg base) : Good P w K mg base 4 (He.fAd K (d_IdealHeap_name).at_) ["self", "w", "h"] (sp_IdealHeap_name K) := by
  obtain ⟨fd, F⟩ := T.t.d.def_ 50 (d := d_IdealHeap_name) rfl
  exact ⟨fd, ok_IdealHeap_name T F⟩
theorem ok_IdealHeap_give_back (T : Tx P w K mg base) {f : Addr} {fd : FuncData} (F : FunD K "give_back" "IdealHeap.give_back" (defArgs s_IdealHeap_give_back) (defBody s_IdealHeap_give_back) (defScope s_IdealHeap_give_back) [] [] f fd) : GoodF P w K mg base 5 f fd ["self", "thing"] (sp_IdealHeap_give_back K) := by
  refine ⟨F.ok sc_IdealHeap_give_back (fun vs H Q E h => h.1) (fun cdv A outer s H vs Q E hr h => ⟨t_IdealHeap_give_back K E, ?_, h.2⟩), FunD.bindsN F fun _ _ _ _ _ _ us hl => match us, hl with | [_, _], _ => rfl, F.kp⟩
  have hu := hu_of hr
  have hdp := room_depth hr
  unfold t_IdealHeap_give_back
  exact (pss_one (ps_if (pt_cmpR op_notN (pe_fd (fdok_cons (He.cls_ok (T.t.d.fact 37 (f := .cls "IdealHeap") rfl)) (He.noat_ok (T.t.d.fact 46 (f := .noat "IdealHeap" "going") rfl)) fdok_nil) (pv 0) rfl) pe_non (nomark _)) (pss_one (ps_for (passes_of rfl) rfl (pi_keysL (pe_cU (gd_led_within T) (hr.mono (by decide)) (takes_of rfl rfl rfl rfl) rfl (He.glo_ok T.X T.G (T.t.d.fact 71 (f := .glo "led_within") rfl)) (pa_cons (pe_fd (fdok_cons (He.cls_ok (T.t.d.fact 37 (f := .cls "IdealHeap") rfl)) (He.noat_ok (T.t.d.fact 44 (f := .noat "IdealHeap" "kept") rfl)) fdok_nil) (pv 0) rfl) (pa_cons (pe_lst (pa_cons (pv 1) pa_nil)) (pa_cons (pe_fd (fdok_cons (He.cls_ok (T.t.d.fact 37 (f := .cls "IdealHeap") rfl)) (He.noat_ok (T.t.d.fact 46 (f := .noat "IdealHeap" "going") rfl)) fdok_nil) (pv 0) rfl) pa_nil))))) (pg_name (i := 2) sc_IdealHeap_give_back.nd rfl (Or.inl rfl)) (pss_one (ps_expr (pe_dpop1 (pe_fd (fdok_cons (He.cls_ok (T.t.d.fact 37 (f := .cls "IdealHeap") rfl)) (He.noat_ok (T.t.d.fact 46 (f := .noat "IdealHeap" "going") rfl)) fdok_nil) (pv 0) rfl) (pv 2) (by constructor <;> rfl)))))) pss_nil))
theorem gd_IdealHeap_give_back (T : Tx P w K mg base) : Good P w K mg base 5 (He.fAd K (d_IdealHeap_give_back).at_) ["self", "thing"] (sp_IdealHeap_give_back K) := by
  obtain ⟨fd, F⟩ := T.t.d.def_ 51 (d := d_IdealHeap_give_back) rfl
  exact ⟨fd, ok_IdealHeap_give_back T F⟩
theorem ok_IdealHeap_read (T : Tx P w K mg base) {f : Addr} {fd : FuncData} (F : FunD K "read" "IdealHeap.read" (defArgs s_IdealHeap_read) (defBody s_IdealHeap_read) (defScope s_IdealHeap_read) [] [] f fd) : GoodF P w K mg base 6 f fd ["self", "h", "w"] (sp_IdealHeap_read K) := by
  refine ⟨F.ok sc_IdealHeap_read (fun vs H Q E h => h.1) (fun cdv A outer s H vs Q E hr h => ⟨t_IdealHeap_read K E, ?_, h.2⟩), FunD.bindsN F fun _ _ _ _ _ _ us hl => match us, hl with | [_, _, _], _ => rfl, F.kp⟩
  have hu := hu_of hr
  have hdp := room_depth hr
  unfold t_IdealHeap_read
  exact (pss_cons (ps_expr (pe_cU (gd_look_at_hand T) (hr.mono (by decide)) (takes_of rfl rfl rfl rfl) rfl (He.glo_ok T.X T.G (T.t.d.fact 83 (f := .glo "look_at_hand") rfl)) (pa_cons (pv 1) pa_nil)))
 (pss_cons (ps_expr (pe_cU (gd_look_at_name T) (hr.mono (by decide)) (takes_of rfl rfl rfl rfl) rfl (He.glo_ok T.X T.G (T.t.d.fact 114 (f := .glo "look_at_name") rfl)) (pa_cons (pv 2) pa_nil)))
 (pss_cons (ps_set (i := 3) sc_IdealHeap_read.nd rfl (Or.inl rfl) (pe_ix ix_list (pe_fd (fdok_cons (He.cls_ok (T.t.d.fact 37 (f := .cls "IdealHeap") rfl)) (He.noat_ok (T.t.d.fact 43 (f := .noat "IdealHeap" "naming") rfl)) fdok_nil) (pv 0) rfl) (pv 2) (fun _ _ => rfl)))
 (pss_cons (ps_asg pe_non (pg_sub (pe_fd (fdok_cons (He.cls_ok (T.t.d.fact 37 (f := .cls "IdealHeap") rfl)) (He.noat_ok (T.t.d.fact 41 (f := .noat "IdealHeap" "in_hands") rfl)) fdok_nil) (pv 0) rfl) (pv 1) set_list))
 (pss_one (ps_if (pt_cmpR op_notN (pv 3) pe_non (nomark _)) (pss_cons (ps_asg (pe_cU (gd_thing_value T) (hr.mono (by decide)) (takes_of rfl rfl rfl rfl) rfl (He.glo_ok T.X T.G (T.t.d.fact 100 (f := .glo "thing_value") rfl)) (pa_cons (pv 3) pa_nil)) (pg_sub (pe_fd (fdok_cons (He.cls_ok (T.t.d.fact 37 (f := .cls "IdealHeap") rfl)) (He.noat_ok (T.t.d.fact 41 (f := .noat "IdealHeap" "in_hands") rfl)) fdok_nil) (pv 0) rfl) (pv 1) set_list))
 (pss_one (ps_expr (pe_mU (k := 5) (pv 0) (altok_cons ⟨He.cls_ok (T.t.d.fact 37 (f := .cls "IdealHeap") rfl), He.meth_ok (T.t.d.fact 116 (f := .meth "IdealHeap" "give_back") rfl), (gd_IdealHeap_give_back T).mono (by decide)⟩ altok_nil) (hr.mono (by decide)) (takes_of rfl rfl rfl rfl) (pa_cons (pv 3) pa_nil))))) pss_nil))))))
theorem gd_IdealHeap_read (T : Tx P w K mg base) : Good P w K mg base 6 (He.fAd K (d_IdealHeap_read).at_) ["self", "h", "w"] (sp_IdealHeap_read K) := by
  obtain ⟨fd, F⟩ := T.t.d.def_ 52 (d := d_IdealHeap_read) rfl
  exact ⟨fd, ok_IdealHeap_read T F⟩
theorem ok_IdealHeap_word (T : Tx P w K mg base) {f : Addr} {fd : FuncData} (F : FunD K "word" "IdealHeap.word" (defArgs s_IdealHeap_word) (defBody s_IdealHeap_word) (defScope s_IdealHeap_word) [] [] f fd) : GoodF P w K mg base 4 f fd ["self", "h", "x"] (sp_IdealHeap_word K) := by
  refine ⟨F.ok sc_IdealHeap_word (fun vs H Q E h => h.1) (fun cdv A outer s H vs Q E hr h => ⟨t_IdealHeap_word K E, ?_, h.2⟩), FunD.bindsN F fun _ _ _ _ _ _ us hl => match us, hl with | [_, _, _], _ => rfl, F.kp⟩
  have hu := hu_of hr
  have hdp := room_depth hr
  unfold t_IdealHeap_word
  exact (pss_cons (ps_set (i := 3) sc_IdealHeap_word.nd rfl (Or.inl rfl) (pe_mU (k := 3) (pv 0) (altok_cons ⟨He.cls_ok (T.t.d.fact 37 (f := .cls "IdealHeap") rfl), He.meth_ok (T.t.d.fact 86 (f := .meth "IdealHeap" "thing_in") rfl), (gd_IdealHeap_thing_in T).mono (by decide)⟩ altok_nil) (hr.mono (by decide)) (takes_of rfl rfl rfl rfl) (pa_cons (pv 1) pa_nil)))
 (pss_cons (ps_expr (pe_cU (gd_number_value T) (hr.mono (by decide)) (takes_of rfl rfl rfl rfl) rfl (He.glo_ok T.X T.G (T.t.d.fact 110 (f := .glo "number_value") rfl)) (pa_cons (pv 2) pa_nil)))
 (pss_cons (ps_lock2 (ps_setLc (i := 4) (own := [("other", 5)]) (g := (gName 5)) (tt := (tTest (tOp oNotN (tFd [He.ga K "IdealThing"] "last_word" (tDGet (tFd [He.ga K "IdealHeap"] "kept" (tVar 0)) (tVar 5))) (tC .non)))) (by rfl) sc_IdealHeap_word.nd rfl rfl (sw_true rfl rfl rfl (by decide +kernel)) (pi_keys (pe_fd (fdok_cons (He.cls_ok (T.t.d.fact 37 (f := .cls "IdealHeap") rfl)) (He.noat_ok (T.t.d.fact 44 (f := .noat "IdealHeap" "kept") rfl)) fdok_nil) (pv 0) rfl)) (blkOk_by (own := [("other", 5)]) (N := N_IdealHeap_word) (sc := defScope s_IdealHeap_word) (by decide +kernel)) (fun _ _ _ _ _ => (pg_name (i := 5) sc_IdealHeap_word.nd rfl (Or.inl rfl))) (fun _ _ _ _ _ => (pts_one (pt_cmpR op_notN (pe_fd (fdok_cons (He.cls_ok (T.t.d.fact 67 (f := .cls "IdealThing") rfl)) (He.noat_ok (T.t.d.fact 74 (f := .noat "IdealThing" "last_word") rfl)) fdok_nil) (pe_dget hu (pe_fd (fdok_cons (He.cls_ok (T.t.d.fact 37 (f := .cls "IdealHeap") rfl)) (He.noat_ok (T.t.d.fact 44 (f := .noat "IdealHeap" "kept") rfl)) fdok_nil) (pv 0) rfl) (pv 5) (fun _ _ => rfl)) rfl) pe_non (nomark _)))) (fun _ _ _ _ _ => (pv 5))))
 (pss_cons (ps_if (PW.pt (pw_and (pt_cmpR op_isN (pe_fd (fdok_cons (He.cls_ok (T.t.d.fact 67 (f := .cls "IdealThing") rfl)) (He.noat_ok (T.t.d.fact 74 (f := .noat "IdealThing" "last_word") rfl)) fdok_nil) (pe_dget hu (pe_fd (fdok_cons (He.cls_ok (T.t.d.fact 37 (f := .cls "IdealHeap") rfl)) (He.noat_ok (T.t.d.fact 44 (f := .noat "IdealHeap" "kept") rfl)) fdok_nil) (pv 0) rfl) (pv 3) (fun _ _ => rfl)) rfl) pe_non (nomark _)) (pw_and1 (pt_cmpR op_ge (pe_callB call_len_seq (by rfl) (He.free_ok T.X T.G (T.t.d.fact 4 (f := .free "len") rfl)) (by decide +kernel) (pa_cons (pv 4) pa_nil)) (pe_globI rfl (He.int_ok T.X T.G (T.t.d.fact 118 (f := .int "MOST_WORDS" 12) rfl))) (nomark _))))) (pss_one (ps_rz rfl (takes_of rfl rfl rfl rfl) (He.glo_ok T.X T.G (T.t.d.fact 119 (f := .glo "TooManyWords") rfl)) (He.exc_ok (T.t.d.fact 120 (f := .exc "TooManyWords") rfl)))) pss_nil)
 (pss_one (ps_fd (fdok_cons (He.cls_ok (T.t.d.fact 67 (f := .cls "IdealThing") rfl)) (He.noat_ok (T.t.d.fact 74 (f := .noat "IdealThing" "last_word") rfl)) fdok_nil) (pe_dget hu (pe_fd (fdok_cons (He.cls_ok (T.t.d.fact 37 (f := .cls "IdealHeap") rfl)) (He.noat_ok (T.t.d.fact 44 (f := .noat "IdealHeap" "kept") rfl)) fdok_nil) (pv 0) rfl) (pv 3) (fun _ _ => rfl)) (pv 2) rfl))))))
theorem gd_IdealHeap_word (T : Tx P w K mg base) : Good P w K mg base 4 (He.fAd K (d_IdealHeap_word).at_) ["self", "h", "x"] (sp_IdealHeap_word K) := by
  obtain ⟨fd, F⟩ := T.t.d.def_ 53 (d := d_IdealHeap_word) rfl
  exact ⟨fd, ok_IdealHeap_word T F⟩
theorem ok_IdealHeap_take (T : Tx P w K mg base) {f : Addr} {fd : FuncData} (F : FunD K "take" "IdealHeap.take" (defArgs s_IdealHeap_take) (defBody s_IdealHeap_take) (defScope s_IdealHeap_take) [] [] f fd) : GoodF P w K mg base 1 f fd ["self"] (sp_IdealHeap_take K) := by
  refine ⟨F.ok sc_IdealHeap_take (fun vs H Q E h => h.1) (fun cdv A outer s H vs Q E hr h => ⟨t_IdealHeap_take K E, ?_, h.2⟩), FunD.bindsN F fun _ _ _ _ _ _ us hl => match us, hl with | [_], _ => rfl, F.kp⟩
  have hu := hu_of hr
  have hdp := room_depth hr
  unfold t_IdealHeap_take
  exact (pss_cons (ps_if (pt_cmpR op_eq (pe_callB call_len_seq (by rfl) (He.free_ok T.X T.G (T.t.d.fact 4 (f := .free "len") rfl)) (by decide +kernel) (pa_cons (pe_fd (fdok_cons (He.cls_ok (T.t.d.fact 37 (f := .cls "IdealHeap") rfl)) (He.noat_ok (T.t.d.fact 47 (f := .noat "IdealHeap" "spoken") rfl)) fdok_nil) (pv 0) rfl) pa_nil)) pe_int (nomark _)) (pss_one (ps_ret pe_non)) pss_nil)
 (pss_one (ps_ret (pe_bm PySem.F.plainAttrs_list PySem.F.slot_list_pop PySem.F.type_list_pop mt_popAt (pe_fd (fdok_cons (He.cls_ok (T.t.d.fact 37 (f := .cls "IdealHeap") rfl)) (He.noat_ok (T.t.d.fact 47 (f := .noat "IdealHeap" "spoken") rfl)) fdok_nil) (pv 0) rfl) (pa_cons pe_int pa_nil)))))
theorem gd_IdealHeap_take (T : Tx P w K mg base) : Good P w K mg base 1 (He.fAd K (d_IdealHeap_take).at_) ["self"] (sp_IdealHeap_take K) := by
  obtain ⟨fd, F⟩ := T.t.d.def_ 54 (d := d_IdealHeap_take) rfl
  exact ⟨fd, ok_IdealHeap_take T F⟩
theorem ok_do_value (T : Tx P w K mg base) {f : Addr} {fd : FuncData} (F : FunD K "do_value" "do_value" (defArgs s_do_value) (defBody s_do_value) (defScope s_do_value) [] [] f fd) : GoodF P w K mg base 5 f fd ["hall", "row"] (sp_do_value K) := by
  refine ⟨F.ok sc_do_value (fun vs H Q E h => h.1) (fun cdv A outer s H vs Q E hr h => ⟨t_do_value K E, ?_, h.2⟩), FunD.bindsN F fun _ _ _ _ _ _ us hl => match us, hl with | [_, _], _ => rfl, F.kp⟩
  have hu := hu_of hr
  have hdp := room_depth hr
  unfold t_do_value
  exact (pss_one (ps_if (pt_cmpR op_eq (pe_ix ix_tup (pv 1) pe_int (fun _ _ => rfl)) pe_str (nomark _)) (pss_one (ps_expr (pe_mU (k := 4) (pv 0) (altok_cons ⟨He.cls_ok (T.t.d.fact 37 (f := .cls "IdealHeap") rfl), He.meth_ok (T.t.d.fact 121 (f := .meth "IdealHeap" "word") rfl), (gd_IdealHeap_word T).mono (by decide)⟩ altok_nil) (hr.mono (by decide)) (takes_of rfl rfl rfl rfl) (pa_cons (pe_ix ix_tup (pv 1) pe_int (fun _ _ => rfl)) (pa_cons (pe_mU (k := 2) (pv 0) (altok_cons ⟨He.cls_ok (T.t.d.fact 37 (f := .cls "IdealHeap") rfl), He.meth_ok (T.t.d.fact 85 (f := .meth "IdealHeap" "value") rfl), (gd_IdealHeap_value T).mono (by decide)⟩ altok_nil) (hr.mono (by decide)) (takes_of rfl rfl rfl rfl) (pa_cons (pe_ix ix_tup (pv 1) pe_int (fun _ _ => rfl)) pa_nil)) pa_nil))))) (pss_one (ps_if (pt_cmpR op_eq (pe_ix ix_tup (pv 1) pe_int (fun _ _ => rfl)) pe_str (nomark _)) (pss_one (ps_expr (pe_mU (k := 2) (pv 0) (altok_cons ⟨He.cls_ok (T.t.d.fact 37 (f := .cls "IdealHeap") rfl), He.meth_ok (T.t.d.fact 111 (f := .meth "IdealHeap" "number") rfl), (gd_IdealHeap_number T).mono (by decide)⟩ altok_nil) (hr.mono (by decide)) (takes_of rfl rfl rfl rfl) (pa_cons (pe_ix ix_tup (pv 1) pe_int (fun _ _ => rfl)) (pa_cons (pe_mU0 (k := 3) (pv 0) (altok_cons ⟨He.cls_ok (T.t.d.fact 37 (f := .cls "IdealHeap") rfl), He.meth_ok (T.t.d.fact 95 (f := .meth "IdealHeap" "held") rfl), (gd_IdealHeap_held T).mono (by decide)⟩ altok_nil) (hr.mono (by decide)) (takes_of rfl rfl rfl rfl)) pa_nil))))) (pss_one (ps_if (pt_cmpR op_eq (pe_ix ix_tup (pv 1) pe_int (fun _ _ => rfl)) pe_str (nomark _)) (pss_one (ps_expr (pe_mU (k := 2) (pv 0) (altok_cons ⟨He.cls_ok (T.t.d.fact 37 (f := .cls "IdealHeap") rfl), He.meth_ok (T.t.d.fact 111 (f := .meth "IdealHeap" "number") rfl), (gd_IdealHeap_number T).mono (by decide)⟩ altok_nil) (hr.mono (by decide)) (takes_of rfl rfl rfl rfl) (pa_cons (pe_ix ix_tup (pv 1) pe_int (fun _ _ => rfl)) (pa_cons (pe_op op_add (pe_mU (k := 2) (pv 0) (altok_cons ⟨He.cls_ok (T.t.d.fact 37 (f := .cls "IdealHeap") rfl), He.meth_ok (T.t.d.fact 85 (f := .meth "IdealHeap" "value") rfl), (gd_IdealHeap_value T).mono (by decide)⟩ altok_nil) (hr.mono (by decide)) (takes_of rfl rfl rfl rfl) (pa_cons (pe_ix ix_tup (pv 1) pe_int (fun _ _ => rfl)) pa_nil)) (pe_mU (k := 2) (pv 0) (altok_cons ⟨He.cls_ok (T.t.d.fact 37 (f := .cls "IdealHeap") rfl), He.meth_ok (T.t.d.fact 85 (f := .meth "IdealHeap" "value") rfl), (gd_IdealHeap_value T).mono (by decide)⟩ altok_nil) (hr.mono (by decide)) (takes_of rfl rfl rfl rfl) (pa_cons (pe_ix ix_tup (pv 1) pe_int (fun _ _ => rfl)) pa_nil))) pa_nil))))) (pss_one (ps_if (pt_cmpR op_eq (pe_ix ix_tup (pv 1) pe_int (fun _ _ => rfl)) pe_str (nomark _)) (pss_one (ps_expr (pe_mU (k := 2) (pv 0) (altok_cons ⟨He.cls_ok (T.t.d.fact 37 (f := .cls "IdealHeap") rfl), He.meth_ok (T.t.d.fact 111 (f := .meth "IdealHeap" "number") rfl), (gd_IdealHeap_number T).mono (by decide)⟩ altok_nil) (hr.mono (by decide)) (takes_of rfl rfl rfl rfl) (pa_cons (pe_ix ix_tup (pv 1) pe_int (fun _ _ => rfl)) (pa_cons (pe_op op_sub (pe_mU (k := 2) (pv 0) (altok_cons ⟨He.cls_ok (T.t.d.fact 37 (f := .cls "IdealHeap") rfl), He.meth_ok (T.t.d.fact 85 (f := .meth "IdealHeap" "value") rfl), (gd_IdealHeap_value T).mono (by decide)⟩ altok_nil) (hr.mono (by decide)) (takes_of rfl rfl rfl rfl) (pa_cons (pe_ix ix_tup (pv 1) pe_int (fun _ _ => rfl)) pa_nil)) (pe_mU (k := 2) (pv 0) (altok_cons ⟨He.cls_ok (T.t.d.fact 37 (f := .cls "IdealHeap") rfl), He.meth_ok (T.t.d.fact 85 (f := .meth "IdealHeap" "value") rfl), (gd_IdealHeap_value T).mono (by decide)⟩ altok_nil) (hr.mono (by decide)) (takes_of rfl rfl rfl rfl) (pa_cons (pe_ix ix_tup (pv 1) pe_int (fun _ _ => rfl)) pa_nil))) pa_nil))))) (pss_cons (ps_expr (pe_mU (k := 2) (pv 0) (altok_cons ⟨He.cls_ok (T.t.d.fact 37 (f := .cls "IdealHeap") rfl), He.meth_ok (T.t.d.fact 84 (f := .meth "IdealHeap" "kind") rfl), (gd_IdealHeap_kind T).mono (by decide)⟩ altok_nil) (hr.mono (by decide)) (takes_of rfl rfl rfl rfl) (pa_cons (pe_ix ix_tup (pv 1) pe_int (fun _ _ => rfl)) pa_nil)))
 (pss_cons (ps_set (i := 2) sc_do_value.nd rfl (Or.inl rfl) (pe_mU0 (k := 1) (pv 0) (altok_cons ⟨He.cls_ok (T.t.d.fact 37 (f := .cls "IdealHeap") rfl), He.meth_ok (T.t.d.fact 122 (f := .meth "IdealHeap" "take") rfl), (gd_IdealHeap_take T).mono (by decide)⟩ altok_nil) (hr.mono (by decide)) (takes_of rfl rfl rfl rfl)))
 (pss_one (ps_if (pt_cmpR op_isN (pv 2) pe_non (nomark _)) (pss_one (ps_expr (pe_mU (k := 2) (pv 0) (altok_cons ⟨He.cls_ok (T.t.d.fact 37 (f := .cls "IdealHeap") rfl), He.meth_ok (T.t.d.fact 108 (f := .meth "IdealHeap" "drop") rfl), (gd_IdealHeap_drop T).mono (by decide)⟩ altok_nil) (hr.mono (by decide)) (takes_of rfl rfl rfl rfl) (pa_cons (pe_ix ix_tup (pv 1) pe_int (fun _ _ => rfl)) pa_nil)))) (pss_one (ps_expr (pe_mU (k := 2) (pv 0) (altok_cons ⟨He.cls_ok (T.t.d.fact 37 (f := .cls "IdealHeap") rfl), He.meth_ok (T.t.d.fact 111 (f := .meth "IdealHeap" "number") rfl), (gd_IdealHeap_number T).mono (by decide)⟩ altok_nil) (hr.mono (by decide)) (takes_of rfl rfl rfl rfl) (pa_cons (pe_ix ix_tup (pv 1) pe_int (fun _ _ => rfl)) (pa_cons (pv 2) pa_nil)))))))))))))))))
theorem gd_do_value (T : Tx P w K mg base) : Good P w K mg base 5 (He.fAd K (d_do_value).at_) ["hall", "row"] (sp_do_value K) := by
  obtain ⟨fd, F⟩ := T.t.d.def_ 55 (d := d_do_value) rfl
  exact ⟨fd, ok_do_value T F⟩
theorem ok_do_plain (T : Tx P w K mg base) {f : Addr} {fd : FuncData} (F : FunD K "do_plain" "do_plain" (defArgs s_do_plain) (defBody s_do_plain) (defScope s_do_plain) [] [] f fd) : GoodF P w K mg base 8 f fd ["hall", "row"] (sp_do_plain K) := by
  refine ⟨F.ok sc_do_plain (fun vs H Q E h => h.1) (fun cdv A outer s H vs Q E hr h => ⟨t_do_plain K E, ?_, h.2⟩), FunD.bindsN F fun _ _ _ _ _ _ us hl => match us, hl with | [_, _], _ => rfl, F.kp⟩
  have hu := hu_of hr
  have hdp := room_depth hr
  unfold t_do_plain
  exact (pss_one (ps_if (pt_cmpR op_eq (pe_ix ix_tup (pv 1) pe_int (fun _ _ => rfl)) pe_str (nomark _)) (pss_one (ps_expr (pe_mU (k := 7) (pv 0) (altok_cons ⟨He.cls_ok (T.t.d.fact 37 (f := .cls "IdealHeap") rfl), He.meth_ok (T.t.d.fact 101 (f := .meth "IdealHeap" "make") rfl), (gd_IdealHeap_make T).mono (by decide)⟩ altok_nil) (hr.mono (by decide)) (takes_of rfl rfl rfl rfl) (pa_cons (pe_ix ix_tup (pv 1) pe_int (fun _ _ => rfl)) (pa_cons (pe_ix ix_tup (pv 1) pe_int (fun _ _ => rfl)) pa_nil))))) (pss_one (ps_if (pt_cmpR op_eq (pe_ix ix_tup (pv 1) pe_int (fun _ _ => rfl)) pe_str (nomark _)) (pss_one (ps_expr (pe_mU (k := 4) (pv 0) (altok_cons ⟨He.cls_ok (T.t.d.fact 37 (f := .cls "IdealHeap") rfl), He.meth_ok (T.t.d.fact 105 (f := .meth "IdealHeap" "load") rfl), (gd_IdealHeap_load T).mono (by decide)⟩ altok_nil) (hr.mono (by decide)) (takes_of rfl rfl rfl rfl) (pa_cons (pe_ix ix_tup (pv 1) pe_int (fun _ _ => rfl)) (pa_cons (pe_ix ix_tup (pv 1) pe_int (fun _ _ => rfl)) (pa_cons (pe_ix ix_tup (pv 1) pe_int (fun _ _ => rfl)) pa_nil)))))) (pss_one (ps_if (pt_cmpR op_eq (pe_ix ix_tup (pv 1) pe_int (fun _ _ => rfl)) pe_str (nomark _)) (pss_one (ps_expr (pe_mU (k := 4) (pv 0) (altok_cons ⟨He.cls_ok (T.t.d.fact 37 (f := .cls "IdealHeap") rfl), He.meth_ok (T.t.d.fact 106 (f := .meth "IdealHeap" "store") rfl), (gd_IdealHeap_store T).mono (by decide)⟩ altok_nil) (hr.mono (by decide)) (takes_of rfl rfl rfl rfl) (pa_cons (pe_ix ix_tup (pv 1) pe_int (fun _ _ => rfl)) (pa_cons (pe_ix ix_tup (pv 1) pe_int (fun _ _ => rfl)) (pa_cons (pe_ix ix_tup (pv 1) pe_int (fun _ _ => rfl)) pa_nil)))))) (pss_one (ps_if (pt_cmpR op_eq (pe_ix ix_tup (pv 1) pe_int (fun _ _ => rfl)) pe_str (nomark _)) (pss_one (ps_expr (pe_mU (k := 2) (pv 0) (altok_cons ⟨He.cls_ok (T.t.d.fact 37 (f := .cls "IdealHeap") rfl), He.meth_ok (T.t.d.fact 107 (f := .meth "IdealHeap" "copy") rfl), (gd_IdealHeap_copy T).mono (by decide)⟩ altok_nil) (hr.mono (by decide)) (takes_of rfl rfl rfl rfl) (pa_cons (pe_ix ix_tup (pv 1) pe_int (fun _ _ => rfl)) (pa_cons (pe_ix ix_tup (pv 1) pe_int (fun _ _ => rfl)) pa_nil))))) (pss_one (ps_if (pt_cmpR op_eq (pe_ix ix_tup (pv 1) pe_int (fun _ _ => rfl)) pe_str (nomark _)) (pss_one (ps_expr (pe_mU (k := 2) (pv 0) (altok_cons ⟨He.cls_ok (T.t.d.fact 37 (f := .cls "IdealHeap") rfl), He.meth_ok (T.t.d.fact 108 (f := .meth "IdealHeap" "drop") rfl), (gd_IdealHeap_drop T).mono (by decide)⟩ altok_nil) (hr.mono (by decide)) (takes_of rfl rfl rfl rfl) (pa_cons (pe_ix ix_tup (pv 1) pe_int (fun _ _ => rfl)) pa_nil)))) (pss_one (ps_if (pt_cmpR op_eq (pe_ix ix_tup (pv 1) pe_int (fun _ _ => rfl)) pe_str (nomark _)) (pss_one (ps_expr (pe_mU (k := 2) (pv 0) (altok_cons ⟨He.cls_ok (T.t.d.fact 37 (f := .cls "IdealHeap") rfl), He.meth_ok (T.t.d.fact 111 (f := .meth "IdealHeap" "number") rfl), (gd_IdealHeap_number T).mono (by decide)⟩ altok_nil) (hr.mono (by decide)) (takes_of rfl rfl rfl rfl) (pa_cons (pe_ix ix_tup (pv 1) pe_int (fun _ _ => rfl)) (pa_cons (pe_ix ix_tup (pv 1) pe_int (fun _ _ => rfl)) pa_nil))))) (pss_one (ps_if (pt_cmpR op_eq (pe_ix ix_tup (pv 1) pe_int (fun _ _ => rfl)) pe_str (nomark _)) (pss_one (ps_expr (pe_mU (k := 4) (pv 0) (altok_cons ⟨He.cls_ok (T.t.d.fact 37 (f := .cls "IdealHeap") rfl), He.meth_ok (T.t.d.fact 115 (f := .meth "IdealHeap" "name") rfl), (gd_IdealHeap_name T).mono (by decide)⟩ altok_nil) (hr.mono (by decide)) (takes_of rfl rfl rfl rfl) (pa_cons (pe_ix ix_tup (pv 1) pe_int (fun _ _ => rfl)) (pa_cons (pe_ix ix_tup (pv 1) pe_int (fun _ _ => rfl)) pa_nil))))) (pss_one (ps_if (pt_cmpR op_eq (pe_ix ix_tup (pv 1) pe_int (fun _ _ => rfl)) pe_str (nomark _)) (pss_one (ps_expr (pe_mU (k := 6) (pv 0) (altok_cons ⟨He.cls_ok (T.t.d.fact 37 (f := .cls "IdealHeap") rfl), He.meth_ok (T.t.d.fact 117 (f := .meth "IdealHeap" "read") rfl), (gd_IdealHeap_read T).mono (by decide)⟩ altok_nil) (hr.mono (by decide)) (takes_of rfl rfl rfl rfl) (pa_cons (pe_ix ix_tup (pv 1) pe_int (fun _ _ => rfl)) (pa_cons (pe_ix ix_tup (pv 1) pe_int (fun _ _ => rfl)) pa_nil))))) (pss_one (ps_expr (pe_cU (gd_do_value T) (hr.mono (by decide)) (takes_of rfl rfl rfl rfl) rfl (He.glo_ok T.X T.G (T.t.d.fact 123 (f := .glo "do_value") rfl)) (pa_cons (pv 0) (pa_cons (pv 1) pa_nil)))))))))))))))))))))
theorem gd_do_plain (T : Tx P w K mg base) : Good P w K mg base 8 (He.fAd K (d_do_plain).at_) ["hall", "row"] (sp_do_plain K) := by
  obtain ⟨fd, F⟩ := T.t.d.def_ 56 (d := d_do_plain) rfl
  exact ⟨fd, ok_do_plain T F⟩
theorem ok_Running_do_row (T : Tx P w K mg base) {f : Addr} {fd : FuncData} (F : FunD K "do_row" "Running.do_row" (defArgs s_Running_do_row) (defBody s_Running_do_row) (defScope s_Running_do_row) [] [] f fd) : GoodF P w K mg base 9 f fd ["self", "row"] (sp_Running_do_row K) := by
  refine ⟨F.ok sc_Running_do_row (fun vs H Q E h => h.1) (fun cdv A outer s H vs Q E hr h => ⟨t_Running_do_row K E, ?_, h.2⟩), FunD.bindsN F fun _ _ _ _ _ _ us hl => match us, hl with | [_, _], _ => rfl, F.kp⟩
  have hu := hu_of hr
  have hdp := room_depth hr
  unfold t_Running_do_row
  exact (pss_cons (ps_set (i := 2) sc_Running_do_row.nd rfl (Or.inl rfl) (pe_op op_add (pe_fd (fdok_cons (He.cls_ok (T.t.d.fact 50 (f := .cls "Running") rfl)) (He.noat_ok (T.t.d.fact 54 (f := .noat "Running" "spot") rfl)) fdok_nil) (pv 0) rfl) pe_int))
 (pss_cons (ps_if (pt_cmpR op_eq (pe_ix ix_tup (pv 1) pe_int (fun _ _ => rfl)) pe_str (nomark _)) (pss_one (ps_expr (pe_bm PySem.F.plainAttrs_list PySem.F.slot_list_append PySem.F.type_list_append mt_append (pe_fd (fdok_cons (He.cls_ok (T.t.d.fact 50 (f := .cls "Running") rfl)) (He.noat_ok (T.t.d.fact 56 (f := .noat "Running" "lines") rfl)) fdok_nil) (pv 0) rfl) (pa_cons (pe_cU (gd_said_of T) (hr.mono (by decide)) (takes_of rfl rfl rfl rfl) rfl (He.glo_ok T.X T.G (T.t.d.fact 88 (f := .glo "said_of") rfl)) (pa_cons (pe_fd (fdok_cons (He.cls_ok (T.t.d.fact 50 (f := .cls "Running") rfl)) (He.noat_ok (T.t.d.fact 52 (f := .noat "Running" "hall") rfl)) fdok_nil) (pv 0) rfl) (pa_cons (pe_ix ix_tup (pv 1) pe_int (fun _ _ => rfl)) pa_nil))) pa_nil)))) (pss_one (ps_if (pt_cmpR op_eq (pe_ix ix_tup (pv 1) pe_int (fun _ _ => rfl)) pe_str (nomark _)) (pss_one (ps_set (i := 2) sc_Running_do_row.nd rfl (Or.inl rfl) (pe_callB call_len_seq (by rfl) (He.free_ok T.X T.G (T.t.d.fact 4 (f := .free "len") rfl)) (by decide +kernel) (pa_cons (pe_fd (fdok_cons (He.cls_ok (T.t.d.fact 50 (f := .cls "Running") rfl)) (He.noat_ok (T.t.d.fact 51 (f := .noat "Running" "program") rfl)) fdok_nil) (pv 0) rfl) pa_nil)))) (pss_one (ps_if (pt_cmpR op_in_seq (pe_ix ix_tup (pv 1) pe_int (fun _ _ => rfl)) (pe_tup (pa_cons pe_str (pa_cons pe_str (pa_cons pe_str (pa_cons pe_str pa_nil))))) (by first | exact nomark _ | with_unfolding_all rfl)) (pss_one (ps_if (pt_val (pe_cU (gd_goes_on T) (hr.mono (by decide)) (takes_of rfl rfl rfl rfl) rfl (He.glo_ok T.X T.G (T.t.d.fact 90 (f := .glo "goes_on") rfl)) (pa_cons (pe_fd (fdok_cons (He.cls_ok (T.t.d.fact 50 (f := .cls "Running") rfl)) (He.noat_ok (T.t.d.fact 52 (f := .noat "Running" "hall") rfl)) fdok_nil) (pv 0) rfl) (pa_cons (pv 1) pa_nil)))) (pss_one (ps_set (i := 2) sc_Running_do_row.nd rfl (Or.inl rfl) (pe_dget hu (pe_fd (fdok_cons (He.cls_ok (T.t.d.fact 50 (f := .cls "Running") rfl)) (He.noat_ok (T.t.d.fact 53 (f := .noat "Running" "places") rfl)) fdok_nil) (pv 0) rfl) (pe_ix ix_tup (pv 1) (pe_un un_neg pe_int) (fun _ _ => rfl)) (fun _ _ => rfl)))) pss_nil)) (pss_one (ps_if (pt_cmpR op_ne (pe_ix ix_tup (pv 1) pe_int (fun _ _ => rfl)) pe_str (nomark _)) (pss_one (ps_expr (pe_cU (gd_do_plain T) (hr.mono (by decide)) (takes_of rfl rfl rfl rfl) rfl (He.glo_ok T.X T.G (T.t.d.fact 124 (f := .glo "do_plain") rfl)) (pa_cons (pe_fd (fdok_cons (He.cls_ok (T.t.d.fact 50 (f := .cls "Running") rfl)) (He.noat_ok (T.t.d.fact 52 (f := .noat "Running" "hall") rfl)) fdok_nil) (pv 0) rfl) (pa_cons (pv 1) pa_nil))))) pss_nil)))))))
 (pss_one (ps_fd (fdok_cons (He.cls_ok (T.t.d.fact 50 (f := .cls "Running") rfl)) (He.noat_ok (T.t.d.fact 54 (f := .noat "Running" "spot") rfl)) fdok_nil) (pv 0) (pv 2) rfl))))
theorem gd_Running_do_row (T : Tx P w K mg base) : Good P w K mg base 9 (He.fAd K (d_Running_do_row).at_) ["self", "row"] (sp_Running_do_row K) := by
  obtain ⟨fd, F⟩ := T.t.d.def_ 57 (d := d_Running_do_row) rfl
  exact ⟨fd, ok_Running_do_row T F⟩
theorem ok_TooManyWords_called (T : Tx P w K mg base) {f : Addr} {fd : FuncData} (F : FunD K "called" "TooManyWords.called" (defArgs s_TooManyWords_called) (defBody s_TooManyWords_called) (defScope s_TooManyWords_called) [] [] f fd) : GoodF P w K mg base 1 f fd ["self"] (sp_TooManyWords_called K) := by
  refine ⟨F.ok sc_TooManyWords_called (fun vs H Q E h => h.1) (fun cdv A outer s H vs Q E hr h => ⟨t_TooManyWords_called K E, ?_, h.2⟩), FunD.bindsN F fun _ _ _ _ _ _ us hl => match us, hl with | [_], _ => rfl, F.kp⟩
  have hu := hu_of hr
  have hdp := room_depth hr
  unfold t_TooManyWords_called
  exact (pss_one (ps_ret pe_str))
theorem gd_TooManyWords_called (T : Tx P w K mg base) : Good P w K mg base 1 (He.fAd K (d_TooManyWords_called).at_) ["self"] (sp_TooManyWords_called K) := by
  obtain ⟨fd, F⟩ := T.t.d.def_ 58 (d := d_TooManyWords_called) rfl
  exact ⟨fd, ok_TooManyWords_called T F⟩
theorem cf_TooManyWords_called (T : Tx P w K mg base) : ConstFn K (He.fAd K (d_TooManyWords_called).at_) "TooManyWords" := by
  obtain ⟨fd, F⟩ := T.t.d.def_ 58 (d := d_TooManyWords_called) rfl
  exact ⟨_, _, _, _, fd, _, _, _, _, F, sc_TooManyWords_called, FunD.bindsN F fun _ _ _ _ _ _ us hl => match us, hl with | [_], _ => rfl⟩
theorem ok_RoundOn_called (T : Tx P w K mg base) {f : Addr} {fd : FuncData} (F : FunD K "called" "RoundOn.called" (defArgs s_RoundOn_called) (defBody s_RoundOn_called) (defScope s_RoundOn_called) [] [] f fd) : GoodF P w K mg base 1 f fd ["self"] (sp_RoundOn_called K) := by
  refine ⟨F.ok sc_RoundOn_called (fun vs H Q E h => h.1) (fun cdv A outer s H vs Q E hr h => ⟨t_RoundOn_called K E, ?_, h.2⟩), FunD.bindsN F fun _ _ _ _ _ _ us hl => match us, hl with | [_], _ => rfl, F.kp⟩
  have hu := hu_of hr
  have hdp := room_depth hr
  unfold t_RoundOn_called
  exact (pss_one (ps_ret pe_str))
theorem gd_RoundOn_called (T : Tx P w K mg base) : Good P w K mg base 1 (He.fAd K (d_RoundOn_called).at_) ["self"] (sp_RoundOn_called K) := by
  obtain ⟨fd, F⟩ := T.t.d.def_ 59 (d := d_RoundOn_called) rfl
  exact ⟨fd, ok_RoundOn_called T F⟩
theorem cf_RoundOn_called (T : Tx P w K mg base) : ConstFn K (He.fAd K (d_RoundOn_called).at_) "RoundOn" := by
  obtain ⟨fd, F⟩ := T.t.d.def_ 59 (d := d_RoundOn_called) rfl
  exact ⟨_, _, _, _, fd, _, _, _, _, F, sc_RoundOn_called, FunD.bindsN F fun _ _ _ _ _ _ us hl => match us, hl with | [_], _ => rfl⟩
theorem ok_NoRound_called (T : Tx P w K mg base) {f : Addr} {fd : FuncData} (F : FunD K "called" "NoRound.called" (defArgs s_NoRound_called) (defBody s_NoRound_called) (defScope s_NoRound_called) [] [] f fd) : GoodF P w K mg base 1 f fd ["self"] (sp_NoRound_called K) := by
  refine ⟨F.ok sc_NoRound_called (fun vs H Q E h => h.1) (fun cdv A outer s H vs Q E hr h => ⟨t_NoRound_called K E, ?_, h.2⟩), FunD.bindsN F fun _ _ _ _ _ _ us hl => match us, hl with | [_], _ => rfl, F.kp⟩
  have hu := hu_of hr
  have hdp := room_depth hr
  unfold t_NoRound_called
  exact (pss_one (ps_ret pe_str))
theorem gd_NoRound_called (T : Tx P w K mg base) : Good P w K mg base 1 (He.fAd K (d_NoRound_called).at_) ["self"] (sp_NoRound_called K) := by
  obtain ⟨fd, F⟩ := T.t.d.def_ 60 (d := d_NoRound_called) rfl
  exact ⟨fd, ok_NoRound_called T F⟩
theorem cf_NoRound_called (T : Tx P w K mg base) : ConstFn K (He.fAd K (d_NoRound_called).at_) "NoRound" := by
  obtain ⟨fd, F⟩ := T.t.d.def_ 60 (d := d_NoRound_called) rfl
  exact ⟨_, _, _, _, fd, _, _, _, _, F, sc_NoRound_called, FunD.bindsN F fun _ _ _ _ _ _ us hl => match us, hl with | [_], _ => rfl⟩
theorem ok_NoRoom_called (T : Tx P w K mg base) {f : Addr} {fd : FuncData} (F : FunD K "called" "NoRoom.called" (defArgs s_NoRoom_called) (defBody s_NoRoom_called) (defScope s_NoRoom_called) [] [] f fd) : GoodF P w K mg base 1 f fd ["self"] (sp_NoRoom_called K) := by
  refine ⟨F.ok sc_NoRoom_called (fun vs H Q E h => h.1) (fun cdv A outer s H vs Q E hr h => ⟨t_NoRoom_called K E, ?_, h.2⟩), FunD.bindsN F fun _ _ _ _ _ _ us hl => match us, hl with | [_], _ => rfl, F.kp⟩
  have hu := hu_of hr
  have hdp := room_depth hr
  unfold t_NoRoom_called
  exact (pss_one (ps_ret pe_str))
theorem gd_NoRoom_called (T : Tx P w K mg base) : Good P w K mg base 1 (He.fAd K (d_NoRoom_called).at_) ["self"] (sp_NoRoom_called K) := by
  obtain ⟨fd, F⟩ := T.t.d.def_ 61 (d := d_NoRoom_called) rfl
  exact ⟨fd, ok_NoRoom_called T F⟩
theorem cf_NoRoom_called (T : Tx P w K mg base) : ConstFn K (He.fAd K (d_NoRoom_called).at_) "NoRoom" := by
  obtain ⟨fd, F⟩ := T.t.d.def_ 61 (d := d_NoRoom_called) rfl
  exact ⟨_, _, _, _, fd, _, _, _, _, F, sc_NoRoom_called, FunD.bindsN F fun _ _ _ _ _ _ us hl => match us, hl with | [_], _ => rfl⟩
theorem ok_HeapError_called (T : Tx P w K mg base) {f : Addr} {fd : FuncData} (F : FunD K "called" "HeapError.called" (defArgs s_HeapError_called) (defBody s_HeapError_called) (defScope s_HeapError_called) [] [] f fd) : GoodF P w K mg base 1 f fd ["self"] (sp_HeapError_called K) := by
  refine ⟨F.ok sc_HeapError_called (fun vs H Q E h => h.1) (fun cdv A outer s H vs Q E hr h => ⟨t_HeapError_called K E, ?_, h.2⟩), FunD.bindsN F fun _ _ _ _ _ _ us hl => match us, hl with | [_], _ => rfl, F.kp⟩
  have hu := hu_of hr
  have hdp := room_depth hr
  unfold t_HeapError_called
  exact (pss_one (ps_ret pe_str))
theorem gd_HeapError_called (T : Tx P w K mg base) : Good P w K mg base 1 (He.fAd K (d_HeapError_called).at_) ["self"] (sp_HeapError_called K) := by
  obtain ⟨fd, F⟩ := T.t.d.def_ 62 (d := d_HeapError_called) rfl
  exact ⟨fd, ok_HeapError_called T F⟩
theorem cf_HeapError_called (T : Tx P w K mg base) : ConstFn K (He.fAd K (d_HeapError_called).at_) "HeapError" := by
  obtain ⟨fd, F⟩ := T.t.d.def_ 62 (d := d_HeapError_called) rfl
  exact ⟨_, _, _, _, fd, _, _, _, _, F, sc_HeapError_called, FunD.bindsN F fun _ _ _ _ _ _ us hl => match us, hl with | [_], _ => rfl⟩
theorem ok_BadView_called (T : Tx P w K mg base) {f : Addr} {fd : FuncData} (F : FunD K "called" "BadView.called" (defArgs s_BadView_called) (defBody s_BadView_called) (defScope s_BadView_called) [] [] f fd) : GoodF P w K mg base 1 f fd ["self"] (sp_BadView_called K) := by
  refine ⟨F.ok sc_BadView_called (fun vs H Q E h => h.1) (fun cdv A outer s H vs Q E hr h => ⟨t_BadView_called K E, ?_, h.2⟩), FunD.bindsN F fun _ _ _ _ _ _ us hl => match us, hl with | [_], _ => rfl, F.kp⟩
  have hu := hu_of hr
  have hdp := room_depth hr
  unfold t_BadView_called
  exact (pss_one (ps_ret pe_str))
theorem gd_BadView_called (T : Tx P w K mg base) : Good P w K mg base 1 (He.fAd K (d_BadView_called).at_) ["self"] (sp_BadView_called K) := by
  obtain ⟨fd, F⟩ := T.t.d.def_ 63 (d := d_BadView_called) rfl
  exact ⟨fd, ok_BadView_called T F⟩
theorem cf_BadView_called (T : Tx P w K mg base) : ConstFn K (He.fAd K (d_BadView_called).at_) "BadView" := by
  obtain ⟨fd, F⟩ := T.t.d.def_ 63 (d := d_BadView_called) rfl
  exact ⟨_, _, _, _, fd, _, _, _, _, F, sc_BadView_called, FunD.bindsN F fun _ _ _ _ _ _ us hl => match us, hl with | [_], _ => rfl⟩
theorem ok_BadText_called (T : Tx P w K mg base) {f : Addr} {fd : FuncData} (F : FunD K "called" "BadText.called" (defArgs s_BadText_called) (defBody s_BadText_called) (defScope s_BadText_called) [] [] f fd) : GoodF P w K mg base 1 f fd ["self"] (sp_BadText_called K) := by
  refine ⟨F.ok sc_BadText_called (fun vs H Q E h => h.1) (fun cdv A outer s H vs Q E hr h => ⟨t_BadText_called K E, ?_, h.2⟩), FunD.bindsN F fun _ _ _ _ _ _ us hl => match us, hl with | [_], _ => rfl, F.kp⟩
  have hu := hu_of hr
  have hdp := room_depth hr
  unfold t_BadText_called
  exact (pss_one (ps_ret pe_str))
theorem gd_BadText_called (T : Tx P w K mg base) : Good P w K mg base 1 (He.fAd K (d_BadText_called).at_) ["self"] (sp_BadText_called K) := by
  obtain ⟨fd, F⟩ := T.t.d.def_ 64 (d := d_BadText_called) rfl
  exact ⟨fd, ok_BadText_called T F⟩
theorem cf_BadText_called (T : Tx P w K mg base) : ConstFn K (He.fAd K (d_BadText_called).at_) "BadText" := by
  obtain ⟨fd, F⟩ := T.t.d.def_ 64 (d := d_BadText_called) rfl
  exact ⟨_, _, _, _, fd, _, _, _, _, F, sc_BadText_called, FunD.bindsN F fun _ _ _ _ _ _ us hl => match us, hl with | [_], _ => rfl⟩
theorem ok_BadName_called (T : Tx P w K mg base) {f : Addr} {fd : FuncData} (F : FunD K "called" "BadName.called" (defArgs s_BadName_called) (defBody s_BadName_called) (defScope s_BadName_called) [] [] f fd) : GoodF P w K mg base 1 f fd ["self"] (sp_BadName_called K) := by
  refine ⟨F.ok sc_BadName_called (fun vs H Q E h => h.1) (fun cdv A outer s H vs Q E hr h => ⟨t_BadName_called K E, ?_, h.2⟩), FunD.bindsN F fun _ _ _ _ _ _ us hl => match us, hl with | [_], _ => rfl, F.kp⟩
  have hu := hu_of hr
  have hdp := room_depth hr
  unfold t_BadName_called
  exact (pss_one (ps_ret pe_str))
theorem gd_BadName_called (T : Tx P w K mg base) : Good P w K mg base 1 (He.fAd K (d_BadName_called).at_) ["self"] (sp_BadName_called K) := by
  obtain ⟨fd, F⟩ := T.t.d.def_ 65 (d := d_BadName_called) rfl
  exact ⟨fd, ok_BadName_called T F⟩
theorem cf_BadName_called (T : Tx P w K mg base) : ConstFn K (He.fAd K (d_BadName_called).at_) "BadName" := by
  obtain ⟨fd, F⟩ := T.t.d.def_ 65 (d := d_BadName_called) rfl
  exact ⟨_, _, _, _, fd, _, _, _, _, F, sc_BadName_called, FunD.bindsN F fun _ _ _ _ _ _ us hl => match us, hl with | [_], _ => rfl⟩
theorem ok_BadHand_called (T : Tx P w K mg base) {f : Addr} {fd : FuncData} (F : FunD K "called" "BadHand.called" (defArgs s_BadHand_called) (defBody s_BadHand_called) (defScope s_BadHand_called) [] [] f fd) : GoodF P w K mg base 1 f fd ["self"] (sp_BadHand_called K) := by
  refine ⟨F.ok sc_BadHand_called (fun vs H Q E h => h.1) (fun cdv A outer s H vs Q E hr h => ⟨t_BadHand_called K E, ?_, h.2⟩), FunD.bindsN F fun _ _ _ _ _ _ us hl => match us, hl with | [_], _ => rfl, F.kp⟩
  have hu := hu_of hr
  have hdp := room_depth hr
  unfold t_BadHand_called
  exact (pss_one (ps_ret pe_str))
theorem gd_BadHand_called (T : Tx P w K mg base) : Good P w K mg base 1 (He.fAd K (d_BadHand_called).at_) ["self"] (sp_BadHand_called K) := by
  obtain ⟨fd, F⟩ := T.t.d.def_ 66 (d := d_BadHand_called) rfl
  exact ⟨fd, ok_BadHand_called T F⟩
theorem cf_BadHand_called (T : Tx P w K mg base) : ConstFn K (He.fAd K (d_BadHand_called).at_) "BadHand" := by
  obtain ⟨fd, F⟩ := T.t.d.def_ 66 (d := d_BadHand_called) rfl
  exact ⟨_, _, _, _, fd, _, _, _, _, F, sc_BadHand_called, FunD.bindsN F fun _ _ _ _ _ _ us hl => match us, hl with | [_], _ => rfl⟩
theorem ok_BadField_called (T : Tx P w K mg base) {f : Addr} {fd : FuncData} (F : FunD K "called" "BadField.called" (defArgs s_BadField_called) (defBody s_BadField_called) (defScope s_BadField_called) [] [] f fd) : GoodF P w K mg base 1 f fd ["self"] (sp_BadField_called K) := by
  refine ⟨F.ok sc_BadField_called (fun vs H Q E h => h.1) (fun cdv A outer s H vs Q E hr h => ⟨t_BadField_called K E, ?_, h.2⟩), FunD.bindsN F fun _ _ _ _ _ _ us hl => match us, hl with | [_], _ => rfl, F.kp⟩
  have hu := hu_of hr
  have hdp := room_depth hr
  unfold t_BadField_called
  exact (pss_one (ps_ret pe_str))
theorem gd_BadField_called (T : Tx P w K mg base) : Good P w K mg base 1 (He.fAd K (d_BadField_called).at_) ["self"] (sp_BadField_called K) := by
  obtain ⟨fd, F⟩ := T.t.d.def_ 67 (d := d_BadField_called) rfl
  exact ⟨fd, ok_BadField_called T F⟩
theorem cf_BadField_called (T : Tx P w K mg base) : ConstFn K (He.fAd K (d_BadField_called).at_) "BadField" := by
  obtain ⟨fd, F⟩ := T.t.d.def_ 67 (d := d_BadField_called) rfl
  exact ⟨_, _, _, _, fd, _, _, _, _, F, sc_BadField_called, FunD.bindsN F fun _ _ _ _ _ _ us hl => match us, hl with | [_], _ => rfl⟩
theorem ok_BadCount_called (T : Tx P w K mg base) {f : Addr} {fd : FuncData} (F : FunD K "called" "BadCount.called" (defArgs s_BadCount_called) (defBody s_BadCount_called) (defScope s_BadCount_called) [] [] f fd) : GoodF P w K mg base 1 f fd ["self"] (sp_BadCount_called K) := by
  refine ⟨F.ok sc_BadCount_called (fun vs H Q E h => h.1) (fun cdv A outer s H vs Q E hr h => ⟨t_BadCount_called K E, ?_, h.2⟩), FunD.bindsN F fun _ _ _ _ _ _ us hl => match us, hl with | [_], _ => rfl, F.kp⟩
  have hu := hu_of hr
  have hdp := room_depth hr
  unfold t_BadCount_called
  exact (pss_one (ps_ret pe_str))
theorem gd_BadCount_called (T : Tx P w K mg base) : Good P w K mg base 1 (He.fAd K (d_BadCount_called).at_) ["self"] (sp_BadCount_called K) := by
  obtain ⟨fd, F⟩ := T.t.d.def_ 68 (d := d_BadCount_called) rfl
  exact ⟨fd, ok_BadCount_called T F⟩
theorem cf_BadCount_called (T : Tx P w K mg base) : ConstFn K (He.fAd K (d_BadCount_called).at_) "BadCount" := by
  obtain ⟨fd, F⟩ := T.t.d.def_ 68 (d := d_BadCount_called) rfl
  exact ⟨_, _, _, _, fd, _, _, _, _, F, sc_BadCount_called, FunD.bindsN F fun _ _ _ _ _ _ us hl => match us, hl with | [_], _ => rfl⟩
theorem ok_BadAddress_called (T : Tx P w K mg base) {f : Addr} {fd : FuncData} (F : FunD K "called" "BadAddress.called" (defArgs s_BadAddress_called) (defBody s_BadAddress_called) (defScope s_BadAddress_called) [] [] f fd) : GoodF P w K mg base 1 f fd ["self"] (sp_BadAddress_called K) := by
  refine ⟨F.ok sc_BadAddress_called (fun vs H Q E h => h.1) (fun cdv A outer s H vs Q E hr h => ⟨t_BadAddress_called K E, ?_, h.2⟩), FunD.bindsN F fun _ _ _ _ _ _ us hl => match us, hl with | [_], _ => rfl, F.kp⟩
  have hu := hu_of hr
  have hdp := room_depth hr
  unfold t_BadAddress_called
  exact (pss_one (ps_ret pe_str))
theorem gd_BadAddress_called (T : Tx P w K mg base) : Good P w K mg base 1 (He.fAd K (d_BadAddress_called).at_) ["self"] (sp_BadAddress_called K) := by
  obtain ⟨fd, F⟩ := T.t.d.def_ 69 (d := d_BadAddress_called) rfl
  exact ⟨fd, ok_BadAddress_called T F⟩
theorem cf_BadAddress_called (T : Tx P w K mg base) : ConstFn K (He.fAd K (d_BadAddress_called).at_) "BadAddress" := by
  obtain ⟨fd, F⟩ := T.t.d.def_ 69 (d := d_BadAddress_called) rfl
  exact ⟨_, _, _, _, fd, _, _, _, _, F, sc_BadAddress_called, FunD.bindsN F fun _ _ _ _ _ _ us hl => match us, hl with | [_], _ => rfl⟩
theorem ok_Running_step (T : Tx P w K mg base) {f : Addr} {fd : FuncData} (F : FunD K "step" "Running.step" (defArgs s_Running_step) (defBody s_Running_step) (defScope s_Running_step) [] [] f fd) : GoodF P w K mg base 10 f fd ["self"] (sp_Running_step K) := by
  refine ⟨F.ok sc_Running_step (fun vs H Q E h => h.1) (fun cdv A outer s H vs Q E hr h => ⟨t_Running_step K E, ?_, h.2⟩), FunD.bindsN F fun _ _ _ _ _ _ us hl => match us, hl with | [_], _ => rfl, F.kp⟩
  have hu := hu_of hr
  have hdp := room_depth hr
  unfold t_Running_step
  exact (pss_cons (ps_if (pt_cmpR op_isN (pe_mU0 (k := 1) (pv 0) (altok_cons ⟨He.cls_ok (T.t.d.fact 50 (f := .cls "Running") rfl), He.meth_ok (T.t.d.fact 60 (f := .meth "Running" "at") rfl), (gd_Running_at T).mono (by decide)⟩ altok_nil) (hr.mono (by decide)) (takes_of rfl rfl rfl rfl)) pe_non (nomark _)) (pss_one (ps_ret pe_bl)) pss_nil)
 (pss_cons (ps_fd (fdok_cons (He.cls_ok (T.t.d.fact 50 (f := .cls "Running") rfl)) (He.noat_ok (T.t.d.fact 55 (f := .noat "Running" "rows_done") rfl)) fdok_nil) (pv 0) (pe_op op_add (pe_fd (fdok_cons (He.cls_ok (T.t.d.fact 50 (f := .cls "Running") rfl)) (He.noat_ok (T.t.d.fact 55 (f := .noat "Running" "rows_done") rfl)) fdok_nil) (pv 0) rfl) pe_int) rfl)
 (pss_cons (ps_tryT (i := 1) rfl rfl rfl sc_Running_step.nd rfl rfl (He.glo_ok T.X T.G (T.t.d.fact 19 (f := .glo "HeapError") rfl)) (takes_of rfl rfl rfl rfl) (fun W pn xe tk hp => (pss_one (ps_expr (pe_mU (k := 9) (pv 0) (altok_cons ⟨He.cls_ok (T.t.d.fact 50 (f := .cls "Running") rfl), He.meth_ok (T.t.d.fact 125 (f := .meth "Running" "do_row") rfl), (gd_Running_do_row T).mono (by decide)⟩ altok_nil) (hr.mono (by decide)) tk (pa_cons (pe_ix ix_tup (pe_fd (fdok_cons (He.cls_ok (T.t.d.fact 50 (f := .cls "Running") rfl)) (He.noat_ok (T.t.d.fact 51 (f := .noat "Running" "program") rfl)) fdok_nil) (pv 0) rfl) (pe_fd (fdok_cons (He.cls_ok (T.t.d.fact 50 (f := .cls "Running") rfl)) (He.noat_ok (T.t.d.fact 54 (f := .noat "Running" "spot") rfl)) fdok_nil) (pv 0) rfl) (fun _ _ => rfl)) pa_nil))))) (fun a pn => (pss_one (ps_fd (fdok_cons (He.cls_ok (T.t.d.fact 50 (f := .cls "Running") rfl)) (He.noat_ok (T.t.d.fact 57 (f := .noat "Running" "broken") rfl)) fdok_nil) (pv 0) (pe_xmC (pv 1) (calt_cons ⟨excCB_ok (T.exf 13 rfl), (He.meth_ok (T.t.d.fact 137 (f := .meth "BadAddress" "called") rfl)).at_, beq_iff_eq.mp (He.meth_ok (T.t.d.fact 137 (f := .meth "BadAddress" "called") rfl)).fn, cf_BadAddress_called T⟩ (calt_cons ⟨excCB_ok (T.exf 12 rfl), (He.meth_ok (T.t.d.fact 136 (f := .meth "BadCount" "called") rfl)).at_, beq_iff_eq.mp (He.meth_ok (T.t.d.fact 136 (f := .meth "BadCount" "called") rfl)).fn, cf_BadCount_called T⟩ (calt_cons ⟨excCB_ok (T.exf 11 rfl), (He.meth_ok (T.t.d.fact 135 (f := .meth "BadField" "called") rfl)).at_, beq_iff_eq.mp (He.meth_ok (T.t.d.fact 135 (f := .meth "BadField" "called") rfl)).fn, cf_BadField_called T⟩ (calt_cons ⟨excCB_ok (T.exf 10 rfl), (He.meth_ok (T.t.d.fact 134 (f := .meth "BadHand" "called") rfl)).at_, beq_iff_eq.mp (He.meth_ok (T.t.d.fact 134 (f := .meth "BadHand" "called") rfl)).fn, cf_BadHand_called T⟩ (calt_cons ⟨excCB_ok (T.exf 9 rfl), (He.meth_ok (T.t.d.fact 133 (f := .meth "BadName" "called") rfl)).at_, beq_iff_eq.mp (He.meth_ok (T.t.d.fact 133 (f := .meth "BadName" "called") rfl)).fn, cf_BadName_called T⟩ (calt_cons ⟨excCB_ok (T.exf 8 rfl), (He.meth_ok (T.t.d.fact 132 (f := .meth "BadText" "called") rfl)).at_, beq_iff_eq.mp (He.meth_ok (T.t.d.fact 132 (f := .meth "BadText" "called") rfl)).fn, cf_BadText_called T⟩ (calt_cons ⟨excCB_ok (T.exf 7 rfl), (He.meth_ok (T.t.d.fact 131 (f := .meth "BadView" "called") rfl)).at_, beq_iff_eq.mp (He.meth_ok (T.t.d.fact 131 (f := .meth "BadView" "called") rfl)).fn, cf_BadView_called T⟩ (calt_cons ⟨excCB_ok (T.exf 6 rfl), (He.meth_ok (T.t.d.fact 130 (f := .meth "HeapError" "called") rfl)).at_, beq_iff_eq.mp (He.meth_ok (T.t.d.fact 130 (f := .meth "HeapError" "called") rfl)).fn, cf_HeapError_called T⟩ (calt_cons ⟨excCB_ok (T.exf 5 rfl), (He.meth_ok (T.t.d.fact 129 (f := .meth "NoRoom" "called") rfl)).at_, beq_iff_eq.mp (He.meth_ok (T.t.d.fact 129 (f := .meth "NoRoom" "called") rfl)).fn, cf_NoRoom_called T⟩ (calt_cons ⟨excCB_ok (T.exf 4 rfl), (He.meth_ok (T.t.d.fact 128 (f := .meth "NoRound" "called") rfl)).at_, beq_iff_eq.mp (He.meth_ok (T.t.d.fact 128 (f := .meth "NoRound" "called") rfl)).fn, cf_NoRound_called T⟩ (calt_cons ⟨excCB_ok (T.exf 3 rfl), (He.meth_ok (T.t.d.fact 127 (f := .meth "RoundOn" "called") rfl)).at_, beq_iff_eq.mp (He.meth_ok (T.t.d.fact 127 (f := .meth "RoundOn" "called") rfl)).fn, cf_RoundOn_called T⟩ (calt_cons ⟨excCB_ok (T.exf 2 rfl), (He.meth_ok (T.t.d.fact 126 (f := .meth "TooManyWords" "called") rfl)).at_, beq_iff_eq.mp (He.meth_ok (T.t.d.fact 126 (f := .meth "TooManyWords" "called") rfl)).fn, cf_TooManyWords_called T⟩ calt_nil)))))))))))) (ckeep_cons (He.meth_ok (T.t.d.fact 137 (f := .meth "BadAddress" "called") rfl)).kp (ckeep_cons (He.meth_ok (T.t.d.fact 136 (f := .meth "BadCount" "called") rfl)).kp (ckeep_cons (He.meth_ok (T.t.d.fact 135 (f := .meth "BadField" "called") rfl)).kp (ckeep_cons (He.meth_ok (T.t.d.fact 134 (f := .meth "BadHand" "called") rfl)).kp (ckeep_cons (He.meth_ok (T.t.d.fact 133 (f := .meth "BadName" "called") rfl)).kp (ckeep_cons (He.meth_ok (T.t.d.fact 132 (f := .meth "BadText" "called") rfl)).kp (ckeep_cons (He.meth_ok (T.t.d.fact 131 (f := .meth "BadView" "called") rfl)).kp (ckeep_cons (He.meth_ok (T.t.d.fact 130 (f := .meth "HeapError" "called") rfl)).kp (ckeep_cons (He.meth_ok (T.t.d.fact 129 (f := .meth "NoRoom" "called") rfl)).kp (ckeep_cons (He.meth_ok (T.t.d.fact 128 (f := .meth "NoRound" "called") rfl)).kp (ckeep_cons (He.meth_ok (T.t.d.fact 127 (f := .meth "RoundOn" "called") rfl)).kp (ckeep_cons (He.meth_ok (T.t.d.fact 126 (f := .meth "TooManyWords" "called") rfl)).kp ckeep_nil)))))))))))) hdp) rfl))))
 (pss_one (ps_ret (pe_cmpR op_notN (pe_mU0 (k := 1) (pv 0) (altok_cons ⟨He.cls_ok (T.t.d.fact 50 (f := .cls "Running") rfl), He.meth_ok (T.t.d.fact 60 (f := .meth "Running" "at") rfl), (gd_Running_at T).mono (by decide)⟩ altok_nil) (hr.mono (by decide)) (takes_of rfl rfl rfl rfl)) pe_non (nomark _)))))))
theorem gd_Running_step (T : Tx P w K mg base) : Good P w K mg base 10 (He.fAd K (d_Running_step).at_) ["self"] (sp_Running_step K) := by
  obtain ⟨fd, F⟩ := T.t.d.def_ 70 (d := d_Running_step) rfl
  exact ⟨fd, ok_Running_step T F⟩
theorem ok_IdealHeap_things (T : Tx P w K mg base) {f : Addr} {fd : FuncData} (F : FunD K "things" "IdealHeap.things" (defArgs s_IdealHeap_things) (defBody s_IdealHeap_things) (defScope s_IdealHeap_things) [] [] f fd) : GoodF P w K mg base 1 f fd ["self"] (sp_IdealHeap_things K) := by
  refine ⟨F.ok sc_IdealHeap_things (fun vs H Q E h => h.1) (fun cdv A outer s H vs Q E hr h => ⟨t_IdealHeap_things K E, ?_, h.2⟩), FunD.bindsN F fun _ _ _ _ _ _ us hl => match us, hl with | [_], _ => rfl, F.kp⟩
  have hu := hu_of hr
  have hdp := room_depth hr
  unfold t_IdealHeap_things
  exact (pss_one (ps_ret (pe_callB (cr_sortedDk rfl) (by rfl) (He.free_ok T.X T.G (T.t.d.fact 73 (f := .free "sorted") rfl)) (by decide +kernel) (pa_cons (pe_fd (fdok_cons (He.cls_ok (T.t.d.fact 37 (f := .cls "IdealHeap") rfl)) (He.noat_ok (T.t.d.fact 44 (f := .noat "IdealHeap" "kept") rfl)) fdok_nil) (pv 0) rfl) pa_nil))))
theorem gd_IdealHeap_things (T : Tx P w K mg base) : Good P w K mg base 1 (He.fAd K (d_IdealHeap_things).at_) ["self"] (sp_IdealHeap_things K) := by
  obtain ⟨fd, F⟩ := T.t.d.def_ 71 (d := d_IdealHeap_things) rfl
  exact ⟨fd, ok_IdealHeap_things T F⟩
theorem ok_IdealHeap_thing_due (T : Tx P w K mg base) {f : Addr} {fd : FuncData} (F : FunD K "thing_due" "IdealHeap.thing_due" (defArgs s_IdealHeap_thing_due) (defBody s_IdealHeap_thing_due) (defScope s_IdealHeap_thing_due) [] [] f fd) : GoodF P w K mg base 1 f fd ["self", "t"] (sp_IdealHeap_thing_due K) := by
  refine ⟨F.ok sc_IdealHeap_thing_due (fun vs H Q E h => h.1) (fun cdv A outer s H vs Q E hr h => ⟨t_IdealHeap_thing_due K E, ?_, h.2⟩), FunD.bindsN F fun _ _ _ _ _ _ us hl => match us, hl with | [_, _], _ => rfl, F.kp⟩
  have hu := hu_of hr
  have hdp := room_depth hr
  unfold t_IdealHeap_thing_due
  exact (pss_cons (ps_if (pt_cmp (pc_dnotin hu (pv 1) (pe_fd (fdok_cons (He.cls_ok (T.t.d.fact 37 (f := .cls "IdealHeap") rfl)) (He.noat_ok (T.t.d.fact 44 (f := .noat "IdealHeap" "kept") rfl)) fdok_nil) (pv 0) rfl))) (pss_one (ps_rz rfl (takes_of rfl rfl rfl rfl) (He.glo_ok T.X T.G (T.t.d.fact 152 (f := .glo "BadView") rfl)) (He.exc_ok (T.t.d.fact 153 (f := .exc "BadView") rfl)))) pss_nil)
 (pss_one (ps_ret (pe_dget hu (pe_fd (fdok_cons (He.cls_ok (T.t.d.fact 37 (f := .cls "IdealHeap") rfl)) (He.noat_ok (T.t.d.fact 44 (f := .noat "IdealHeap" "kept") rfl)) fdok_nil) (pv 0) rfl) (pv 1) (fun _ _ => rfl)))))
theorem gd_IdealHeap_thing_due (T : Tx P w K mg base) : Good P w K mg base 1 (He.fAd K (d_IdealHeap_thing_due).at_) ["self", "t"] (sp_IdealHeap_thing_due K) := by
  obtain ⟨fd, F⟩ := T.t.d.def_ 72 (d := d_IdealHeap_thing_due) rfl
  exact ⟨fd, ok_IdealHeap_thing_due T F⟩
theorem ok_IdealHeap_fields_of (T : Tx P w K mg base) {f : Addr} {fd : FuncData} (F : FunD K "fields_of" "IdealHeap.fields_of" (defArgs s_IdealHeap_fields_of) (defBody s_IdealHeap_fields_of) (defScope s_IdealHeap_fields_of) [] [] f fd) : GoodF P w K mg base 2 f fd ["self", "t"] (sp_IdealHeap_fields_of K) := by
  refine ⟨F.ok sc_IdealHeap_fields_of (fun vs H Q E h => h.1) (fun cdv A outer s H vs Q E hr h => ⟨t_IdealHeap_fields_of K E, ?_, h.2⟩), FunD.bindsN F fun _ _ _ _ _ _ us hl => match us, hl with | [_, _], _ => rfl, F.kp⟩
  have hu := hu_of hr
  have hdp := room_depth hr
  unfold t_IdealHeap_fields_of
  exact (pss_one (ps_ret (pe_callTy call_list_of (by rfl) (He.free_ok T.X T.G (T.t.d.fact 1 (f := .free "list") rfl)) (by decide +kernel) (pa_cons (pe_fd (fdok_cons (He.cls_ok (T.t.d.fact 67 (f := .cls "IdealThing") rfl)) (He.noat_ok (T.t.d.fact 69 (f := .noat "IdealThing" "inside") rfl)) fdok_nil) (pe_mU (k := 1) (pv 0) (altok_cons ⟨He.cls_ok (T.t.d.fact 37 (f := .cls "IdealHeap") rfl), He.meth_ok (T.t.d.fact 154 (f := .meth "IdealHeap" "thing_due") rfl), (gd_IdealHeap_thing_due T).mono (by decide)⟩ altok_nil) (hr.mono (by decide)) (takes_of rfl rfl rfl rfl) (pa_cons (pv 1) pa_nil)) rfl) pa_nil))))
theorem gd_IdealHeap_fields_of (T : Tx P w K mg base) : Good P w K mg base 2 (He.fAd K (d_IdealHeap_fields_of).at_) ["self", "t"] (sp_IdealHeap_fields_of K) := by
  obtain ⟨fd, F⟩ := T.t.d.def_ 73 (d := d_IdealHeap_fields_of) rfl
  exact ⟨fd, ok_IdealHeap_fields_of T F⟩
theorem ok_thing_in (T : Tx P w K mg base) {f : Addr} {fd : FuncData} (F : FunD K "thing_in" "thing_in" (defArgs s_thing_in) (defBody s_thing_in) (defScope s_thing_in) [] [] f fd) : GoodF P w K mg base 2 f fd ["value"] (sp_thing_in K) := by
  refine ⟨F.ok sc_thing_in (fun vs H Q E h => h.1) (fun cdv A outer s H vs Q E hr h => ⟨t_thing_in K E, ?_, h.2⟩), FunD.bindsN F fun _ _ _ _ _ _ us hl => match us, hl with | [_], _ => rfl, F.kp⟩
  have hu := hu_of hr
  have hdp := room_depth hr
  unfold t_thing_in
  exact (pss_cons (ps_if (pt_cmpR op_ne (pe_cU (gd_kind_of T) (hr.mono (by decide)) (takes_of rfl rfl rfl rfl) rfl (He.glo_ok T.X T.G (T.t.d.fact 64 (f := .glo "kind_of") rfl)) (pa_cons (pv 0) pa_nil)) pe_str (nomark _)) (pss_one (ps_ret pe_non)) pss_nil)
 (pss_one (ps_ret (pe_ix ix_tup (pv 0) pe_int (fun _ _ => rfl)))))
theorem gd_thing_in (T : Tx P w K mg base) : Good P w K mg base 2 (He.fAd K (d_thing_in).at_) ["value"] (sp_thing_in K) := by
  obtain ⟨fd, F⟩ := T.t.d.def_ 74 (d := d_thing_in) rfl
  exact ⟨fd, ok_thing_in T F⟩
theorem ok_IdealHeap_hands (T : Tx P w K mg base) {f : Addr} {fd : FuncData} (F : FunD K "hands" "IdealHeap.hands" (defArgs s_IdealHeap_hands) (defBody s_IdealHeap_hands) (defScope s_IdealHeap_hands) [] [] f fd) : GoodF P w K mg base 1 f fd ["self"] (sp_IdealHeap_hands K) := by
  refine ⟨F.ok sc_IdealHeap_hands (fun vs H Q E h => h.1) (fun cdv A outer s H vs Q E hr h => ⟨t_IdealHeap_hands K E, ?_, h.2⟩), FunD.bindsN F fun _ _ _ _ _ _ us hl => match us, hl with | [_], _ => rfl, F.kp⟩
  have hu := hu_of hr
  have hdp := room_depth hr
  unfold t_IdealHeap_hands
  exact (pss_one (ps_ret (pe_callTy call_list_of (by rfl) (He.free_ok T.X T.G (T.t.d.fact 1 (f := .free "list") rfl)) (by decide +kernel) (pa_cons (pe_fd (fdok_cons (He.cls_ok (T.t.d.fact 37 (f := .cls "IdealHeap") rfl)) (He.noat_ok (T.t.d.fact 41 (f := .noat "IdealHeap" "in_hands") rfl)) fdok_nil) (pv 0) rfl) pa_nil))))
theorem gd_IdealHeap_hands (T : Tx P w K mg base) : Good P w K mg base 1 (He.fAd K (d_IdealHeap_hands).at_) ["self"] (sp_IdealHeap_hands K) := by
  obtain ⟨fd, F⟩ := T.t.d.def_ 75 (d := d_IdealHeap_hands) rfl
  exact ⟨fd, ok_IdealHeap_hands T F⟩
theorem ok_view_of (T : Tx P w K mg base) {f : Addr} {fd : FuncData} (F : FunD K "view_of" "view_of" (defArgs s_view_of) (defBody s_view_of) (defScope s_view_of) [] [] f fd) : GoodF P w K mg base 3 f fd ["hall"] (sp_view_of K) := by
  refine ⟨F.ok sc_view_of (fun vs H Q E h => h.1) (fun cdv A outer s H vs Q E hr h => ⟨t_view_of K E, ?_, h.2⟩), FunD.bindsN F fun _ _ _ _ _ _ us hl => match us, hl with | [_], _ => rfl, F.kp⟩
  have hu := hu_of hr
  have hdp := room_depth hr
  unfold t_view_of
  exact (pss_cons (ps_set (i := 1) sc_view_of.nd rfl (Or.inl rfl) pe_dnewK)
 (pss_cons (ps_for (passes_of rfl) rfl (pi_list (pe_mU0 (k := 1) (pv 0) (altok_cons ⟨He.cls_ok (T.t.d.fact 37 (f := .cls "IdealHeap") rfl), He.meth_ok (T.t.d.fact 151 (f := .meth "IdealHeap" "things") rfl), (gd_IdealHeap_things T).mono (by decide)⟩ altok_nil) (hr.mono (by decide)) (takes_of rfl rfl rfl rfl))) (pg_name (i := 2) sc_view_of.nd rfl (Or.inl rfl)) (pss_one (ps_dput hu (pv 1) (pv 2) (pe_lc (own := [("value", 3)]) (g := (gName 3)) (tt := tYes) (by rfl) sc_view_of.nd (pi_list (pe_mU (k := 2) (pv 0) (altok_cons ⟨He.cls_ok (T.t.d.fact 37 (f := .cls "IdealHeap") rfl), He.meth_ok (T.t.d.fact 155 (f := .meth "IdealHeap" "fields_of") rfl), (gd_IdealHeap_fields_of T).mono (by decide)⟩ altok_nil) (hr.mono (by decide)) (takes_of rfl rfl rfl rfl) (pa_cons (pv 2) pa_nil))) (blkOk_by (own := [("value", 3)]) (N := N_view_of) (sc := defScope s_view_of) (by decide +kernel)) (fun _ _ _ _ _ => (pg_name (i := 3) sc_view_of.nd rfl (Or.inl rfl))) (fun _ _ _ _ _ => pts_nil) (fun _ _ _ _ _ => (pe_cU (gd_thing_in T) (hr.mono (by decide)) takes0 rfl (He.glo_ok T.X T.G (T.t.d.fact 156 (f := .glo "thing_in") rfl)) (pa_cons (pv 3) pa_nil)))) rfl)))
 (pss_one (ps_ret (pe_tup (pa_cons (pe_lc (own := [("value", 3)]) (g := (gName 3)) (tt := tYes) (by rfl) sc_view_of.nd (pi_list (pe_mU0 (k := 1) (pv 0) (altok_cons ⟨He.cls_ok (T.t.d.fact 37 (f := .cls "IdealHeap") rfl), He.meth_ok (T.t.d.fact 157 (f := .meth "IdealHeap" "hands") rfl), (gd_IdealHeap_hands T).mono (by decide)⟩ altok_nil) (hr.mono (by decide)) (takes_of rfl rfl rfl rfl))) (blkOk_by (own := [("value", 3)]) (N := N_view_of) (sc := defScope s_view_of) (by decide +kernel)) (fun _ _ _ _ _ => (pg_name (i := 3) sc_view_of.nd rfl (Or.inl rfl))) (fun _ _ _ _ _ => pts_nil) (fun _ _ _ _ _ => (pe_cU (gd_thing_in T) (hr.mono (by decide)) takes0 rfl (He.glo_ok T.X T.G (T.t.d.fact 156 (f := .glo "thing_in") rfl)) (pa_cons (pv 3) pa_nil)))) (pa_cons (pv 1) pa_nil)))))))
theorem gd_view_of (T : Tx P w K mg base) : Good P w K mg base 3 (He.fAd K (d_view_of).at_) ["hall"] (sp_view_of K) := by
  obtain ⟨fd, F⟩ := T.t.d.def_ 76 (d := d_view_of) rfl
  exact ⟨fd, ok_view_of T F⟩
theorem ok_look_at_told (T : Tx P w K mg base) {f : Addr} {fd : FuncData} (F : FunD K "look_at_told" "look_at_told" (defArgs s_look_at_told) (defBody s_look_at_told) (defScope s_look_at_told) [] [] f fd) : GoodF P w K mg base 1 f fd ["fields", "told"] (sp_look_at_told K) := by
  refine ⟨F.ok sc_look_at_told (fun vs H Q E h => h.1) (fun cdv A outer s H vs Q E hr h => ⟨t_look_at_told K E, ?_, h.2⟩), FunD.bindsN F fun _ _ _ _ _ _ us hl => match us, hl with | [_, _], _ => rfl, F.kp⟩
  have hu := hu_of hr
  have hdp := room_depth hr
  unfold t_look_at_told
  exact (pss_one (ps_for (passes_of rfl) rfl (pi_list (pv 1)) (pg_name (i := 2) sc_look_at_told.nd rfl (Or.inl rfl)) (pss_one (ps_if (PW.pt (pw_and (pt_cmpR op_notN (pv 2) pe_non (nomark _)) (pw_and1 (pt_cmp (pc_dnotin hu (pv 2) (pv 0)))))) (pss_one (ps_rz rfl (takes_of rfl rfl rfl rfl) (He.glo_ok T.X T.G (T.t.d.fact 152 (f := .glo "BadView") rfl)) (He.exc_ok (T.t.d.fact 153 (f := .exc "BadView") rfl)))) pss_nil))))
theorem gd_look_at_told (T : Tx P w K mg base) : Good P w K mg base 1 (He.fAd K (d_look_at_told).at_) ["fields", "told"] (sp_look_at_told K) := by
  obtain ⟨fd, F⟩ := T.t.d.def_ 77 (d := d_look_at_told) rfl
  exact ⟨fd, ok_look_at_told T F⟩
theorem ok_look_at_view (T : Tx P w K mg base) {f : Addr} {fd : FuncData} (F : FunD K "look_at_view" "look_at_view" (defArgs s_look_at_view) (defBody s_look_at_view) (defScope s_look_at_view) [] [] f fd) : GoodF P w K mg base 2 f fd ["view"] (sp_look_at_view K) := by
  refine ⟨F.ok sc_look_at_view (fun vs H Q E h => h.1) (fun cdv A outer s H vs Q E hr h => ⟨t_look_at_view K E, ?_, h.2⟩), FunD.bindsN F fun _ _ _ _ _ _ us hl => match us, hl with | [_], _ => rfl, F.kp⟩
  have hu := hu_of hr
  have hdp := room_depth hr
  unfold t_look_at_view
  exact (pss_cons (ps_asg (pv 0) (pg_tup rfl (pgs_cons (pg_name (i := 1) sc_look_at_view.nd rfl (Or.inl rfl)) (pgs_cons (pg_name (i := 2) sc_look_at_view.nd rfl (Or.inl rfl)) pgs_nil))))
 (pss_cons (ps_expr (pe_cU (gd_look_at_told T) (hr.mono (by decide)) (takes_of rfl rfl rfl rfl) rfl (He.glo_ok T.X T.G (T.t.d.fact 159 (f := .glo "look_at_told") rfl)) (pa_cons (pv 2) (pa_cons (pv 1) pa_nil))))
 (pss_one (ps_lock2 (ps_for (passes_of rfl) rfl (pi_keys (pv 2)) (pg_name (i := 3) sc_look_at_view.nd rfl (Or.inl rfl)) (pss_one (ps_expr (pe_cU (gd_look_at_told T) (hr.mono (by decide)) (takes_of rfl rfl rfl rfl) rfl (He.glo_ok T.X T.G (T.t.d.fact 159 (f := .glo "look_at_told") rfl)) (pa_cons (pv 2) (pa_cons (pe_dget hu (pv 2) (pv 3) (fun _ _ => rfl)) pa_nil))))))))))
theorem gd_look_at_view (T : Tx P w K mg base) : Good P w K mg base 2 (He.fAd K (d_look_at_view).at_) ["view"] (sp_look_at_view K) := by
  obtain ⟨fd, F⟩ := T.t.d.def_ 78 (d := d_look_at_view) rfl
  exact ⟨fd, ok_look_at_view T F⟩
theorem ok_grown_from (T : Tx P w K mg base) {f : Addr} {fd : FuncData} (F : FunD K "grown_from" "grown_from" (defArgs s_grown_from) (defBody s_grown_from) (defScope s_grown_from) [] [] f fd) : GoodF P w K mg base 1 f fd ["fields", "things"] (sp_grown_from K) := by
  refine ⟨F.ok sc_grown_from (fun vs H Q E h => h.1) (fun cdv A outer s H vs Q E hr h => ⟨t_grown_from K E, ?_, h.2⟩), FunD.bindsN F fun _ _ _ _ _ _ us hl => match us, hl with | [_, _], _ => rfl, F.kp⟩
  have hu := hu_of hr
  have hdp := room_depth hr
  unfold t_grown_from
  exact (pss_cons (ps_set (i := 2) sc_grown_from.nd rfl (Or.inl rfl) pe_dnewK)
 (pss_cons (ps_for (passes_of rfl) rfl (pi_list (pv 1)) (pg_name (i := 3) sc_grown_from.nd rfl (Or.inl rfl)) (pss_one (ps_dput hu (pv 2) (pv 3) pe_bl rfl)))
 (pss_cons (ps_set (i := 4) sc_grown_from.nd rfl (Or.inl rfl) (pe_callTy (call_listD rfl) (by rfl) (He.free_ok T.X T.G (T.t.d.fact 1 (f := .free "list") rfl)) (by decide +kernel) (pa_cons (pv 2) pa_nil)))
 (pss_cons (ps_while (passes_of rfl) (pt_truth (pv 4) (by intro _; rfl)) (pss_cons (ps_set (i := 5) sc_grown_from.nd rfl (Or.inl rfl) (pe_lst pa_nil))
 (pss_cons (ps_for (passes_of rfl) rfl (pi_list (pv 4)) (pg_name (i := 3) sc_grown_from.nd rfl (Or.inl rfl)) (pss_one (ps_for (passes_of rfl) rfl (pi_list (pe_dget hu (pv 0) (pv 3) (fun _ _ => rfl))) (pg_name (i := 6) sc_grown_from.nd rfl (Or.inl rfl)) (pss_one (ps_if (PW.pt (pw_and (pt_cmpR op_notN (pv 6) pe_non (nomark _)) (pw_and1 (pt_cmp (pc_dnotin hu (pv 6) (pv 2)))))) (pss_cons (ps_dput hu (pv 2) (pv 6) pe_bl rfl)
 (pss_one (ps_expr (pe_bm PySem.F.plainAttrs_list PySem.F.slot_list_append PySem.F.type_list_append mt_append (pv 5) (pa_cons (pv 6) pa_nil))))) pss_nil)))))
 (pss_one (ps_set (i := 4) sc_grown_from.nd rfl (Or.inl rfl) (pv 5))))))
 (pss_one (ps_ret (pe_callTy (call_listD rfl) (by rfl) (He.free_ok T.X T.G (T.t.d.fact 1 (f := .free "list") rfl)) (by decide +kernel) (pa_cons (pv 2) pa_nil))))))))
theorem gd_grown_from (T : Tx P w K mg base) : Good P w K mg base 1 (He.fAd K (d_grown_from).at_) ["fields", "things"] (sp_grown_from K) := by
  obtain ⟨fd, F⟩ := T.t.d.def_ 80 (d := d_grown_from) rfl
  exact ⟨fd, ok_grown_from T F⟩
theorem ok_root_things (T : Tx P w K mg base) {f : Addr} {fd : FuncData} (F : FunD K "root_things" "root_things" (defArgs s_root_things) (defBody s_root_things) (defScope s_root_things) [] [] f fd) : GoodF P w K mg base 1 f fd ["view"] (sp_root_things K) := by
  refine ⟨F.ok sc_root_things (fun vs H Q E h => h.1) (fun cdv A outer s H vs Q E hr h => ⟨t_root_things K E, ?_, h.2⟩), FunD.bindsN F fun _ _ _ _ _ _ us hl => match us, hl with | [_], _ => rfl, F.kp⟩
  have hu := hu_of hr
  have hdp := room_depth hr
  unfold t_root_things
  exact (pss_one (ps_ret (pe_lc (own := [("thing", 1)]) (g := (gName 1)) (tt := (tTest (tOp oNotN (tVar 1) (tC .non)))) (by rfl) sc_root_things.nd (pi_list (pe_ix ix_tup (pv 0) pe_int (fun _ _ => rfl))) (blkOk_by (own := [("thing", 1)]) (N := N_root_things) (sc := defScope s_root_things) (by decide +kernel)) (fun _ _ _ _ _ => (pg_name (i := 1) sc_root_things.nd rfl (Or.inl rfl))) (fun _ _ _ _ _ => (pts_one (pt_cmpR op_notN (pv 1) pe_non (nomark _)))) (fun _ _ _ _ _ => (pv 1)))))
theorem gd_root_things (T : Tx P w K mg base) : Good P w K mg base 1 (He.fAd K (d_root_things).at_) ["view"] (sp_root_things K) := by
  obtain ⟨fd, F⟩ := T.t.d.def_ 79 (d := d_root_things) rfl
  exact ⟨fd, ok_root_things T F⟩
theorem ok_reached (T : Tx P w K mg base) {f : Addr} {fd : FuncData} (F : FunD K "reached" "reached" (defArgs s_reached) (defBody s_reached) (defScope s_reached) [] [] f fd) : GoodF P w K mg base 3 f fd ["view"] (sp_reached K) := by
  refine ⟨F.ok sc_reached (fun vs H Q E h => h.1) (fun cdv A outer s H vs Q E hr h => ⟨t_reached K E, ?_, h.2⟩), FunD.bindsN F fun _ _ _ _ _ _ us hl => match us, hl with | [_], _ => rfl, F.kp⟩
  have hu := hu_of hr
  have hdp := room_depth hr
  unfold t_reached
  exact (pss_cons (ps_expr (pe_cU (gd_look_at_view T) (hr.mono (by decide)) (takes_of rfl rfl rfl rfl) rfl (He.glo_ok T.X T.G (T.t.d.fact 160 (f := .glo "look_at_view") rfl)) (pa_cons (pv 0) pa_nil)))
 (pss_one (ps_ret (pe_callB cr_sortedI (by rfl) (He.free_ok T.X T.G (T.t.d.fact 73 (f := .free "sorted") rfl)) (by decide +kernel) (pa_cons (pe_cU (gd_grown_from T) (hr.mono (by decide)) (takes_of rfl rfl rfl rfl) rfl (He.glo_ok T.X T.G (T.t.d.fact 162 (f := .glo "grown_from") rfl)) (pa_cons (pe_ix ix_tup (pv 0) pe_int (fun _ _ => rfl)) (pa_cons (pe_cU (gd_root_things T) (hr.mono (by decide)) (takes_of rfl rfl rfl rfl) rfl (He.glo_ok T.X T.G (T.t.d.fact 161 (f := .glo "root_things") rfl)) (pa_cons (pv 0) pa_nil)) pa_nil))) pa_nil)))))
theorem gd_reached (T : Tx P w K mg base) : Good P w K mg base 3 (He.fAd K (d_reached).at_) ["view"] (sp_reached K) := by
  obtain ⟨fd, F⟩ := T.t.d.def_ 81 (d := d_reached) rfl
  exact ⟨fd, ok_reached T F⟩
theorem ok_words_reached (T : Tx P w K mg base) {f : Addr} {fd : FuncData} (F : FunD K "words_reached" "words_reached" (defArgs s_words_reached) (defBody s_words_reached) (defScope s_words_reached) [] [] f fd) : GoodF P w K mg base 4 f fd ["heap"] (sp_words_reached K) := by
  refine ⟨F.ok sc_words_reached (fun vs H Q E h => h.1) (fun cdv A outer s H vs Q E hr h => ⟨t_words_reached K E, ?_, h.2⟩), FunD.bindsN F fun _ _ _ _ _ _ us hl => match us, hl with | [_], _ => rfl, F.kp⟩
  have hu := hu_of hr
  have hdp := room_depth hr
  unfold t_words_reached
  exact (pss_cons (ps_set (i := 1) sc_words_reached.nd rfl (Or.inr rfl) (pe_cU (gd_view_of T) (hr.mono (by decide)) (takes_of rfl rfl rfl rfl) rfl (He.glo_ok T.X T.G (T.t.d.fact 158 (f := .glo "view_of") rfl)) (pa_cons (pv 0) pa_nil)))
 (pss_one (ps_ret (pe_callB (cr_sum rfl) (by rfl) (He.free_ok T.X T.G (T.t.d.fact 93 (f := .free "sum") rfl)) (by decide +kernel) (pa_cons (pe_lc (own := [("t", 2)]) (g := (gName 2)) (tt := tYes) (by rfl) sc_words_reached.nd (pi_list (pe_cU (gd_reached T) (hr.mono (by decide)) (takes_of rfl rfl rfl rfl) rfl (He.glo_ok T.X T.G (T.t.d.fact 163 (f := .glo "reached") rfl)) (pa_cons (pv 1) pa_nil))) (blkOk_by (own := [("t", 2)]) (N := N_words_reached) (sc := defScope s_words_reached) (by decide +kernel)) (fun _ _ _ _ _ => (pg_name (i := 2) sc_words_reached.nd rfl (Or.inl rfl))) (fun _ _ _ _ _ => pts_nil) (fun _ _ _ _ _ => (pe_op op_add pe_int (pe_callB call_len_seq (by rfl) (He.free_ok T.X T.G (T.t.d.fact 4 (f := .free "len") rfl)) (by decide +kernel) (pa_cons (pe_dget hu (pe_ix ix_tup (pv 1) pe_int (fun _ _ => rfl)) (pv 2) (fun _ _ => rfl)) pa_nil))))) pa_nil)))))
theorem gd_words_reached (T : Tx P w K mg base) : Good P w K mg base 4 (He.fAd K (d_words_reached).at_) ["heap"] (sp_words_reached K) := by
  obtain ⟨fd, F⟩ := T.t.d.def_ 82 (d := d_words_reached) rfl
  exact ⟨fd, ok_words_reached T F⟩
theorem ok_most_reached (T : Tx P w K mg base) {f : Addr} {fd : FuncData} (F : FunD K "most_reached" "most_reached" (defArgs s_most_reached) (defBody s_most_reached) (defScope s_most_reached) [] [] f fd) : GoodF P w K mg base 11 f fd ["program", "steps"] (sp_most_reached K) := by
  refine ⟨F.ok sc_most_reached (fun vs H Q E h => h.1) (fun cdv A outer s H vs Q E hr h => ⟨t_most_reached K E, ?_, h.2⟩), FunD.bindsN F fun _ _ _ _ _ _ us hl => match us, hl with | [_, _], _ => rfl, F.kp⟩
  have hu := hu_of hr
  have hdp := room_depth hr
  unfold t_most_reached
  exact (pss_cons (ps_if (PW.pt (pw_or (pt_cmpR op_lt (pv 1) pe_int (nomark _)) (pw_or1 (pt_cmpR op_gt (pv 1) (pe_globI rfl (He.int_ok T.X T.G (T.t.d.fact 32 (f := .int "MOST_STEPS" 2000) rfl))) (nomark _))))) (pss_one (ps_rz rfl (takes_of rfl rfl rfl rfl) (He.glo_ok T.X T.G (T.t.d.fact 26 (f := .glo "BadCount") rfl)) (He.exc_ok (T.t.d.fact 27 (f := .exc "BadCount") rfl)))) pss_nil)
 (pss_cons (ps_set (i := 2) sc_most_reached.nd rfl (Or.inl rfl) (pe_mkU (He.mkr_ok (T.t.d.fact 48 (f := .mkr "IdealHeap") rfl)) (gd_IdealHeap___init__ T) (hr.mono (by decide)) (takes_of rfl rfl rfl rfl) rfl (He.glo_ok T.X T.G (T.t.d.fact 49 (f := .glo "IdealHeap") rfl)) (pa_cons pe_int (pa_cons (pe_globI rfl (He.int_ok T.X T.G (T.t.d.fact 25 (f := .int "MOST_LIMIT_pace" 400) rfl))) pa_nil))))
 (pss_cons (ps_set (i := 3) sc_most_reached.nd rfl (Or.inl rfl) (pe_mkU (He.mkr_ok (T.t.d.fact 58 (f := .mkr "Running") rfl)) (gd_Running___init__ T) (hr.mono (by decide)) (takes_of rfl rfl rfl rfl) rfl (He.glo_ok T.X T.G (T.t.d.fact 59 (f := .glo "Running") rfl)) (pa_cons (pv 0) (pa_cons (pv 2) pa_nil))))
 (pss_cons (ps_set (i := 4) sc_most_reached.nd rfl (Or.inl rfl) (pe_tup (pa_cons pe_int (pa_cons pe_int pa_nil))))
 (pss_cons (ps_while (passes_of rfl) (PW.pt (pw_and (pt_cmpR op_notN (pe_mU0 (k := 1) (pv 3) (altok_cons ⟨He.cls_ok (T.t.d.fact 50 (f := .cls "Running") rfl), He.meth_ok (T.t.d.fact 60 (f := .meth "Running" "at") rfl), (gd_Running_at T).mono (by decide)⟩ altok_nil) (hr.mono (by decide)) (takes_of rfl rfl rfl rfl)) pe_non (nomark _)) (pw_and1 (pt_cmpR op_lt (pe_mU0 (k := 1) (pv 3) (altok_cons ⟨He.cls_ok (T.t.d.fact 50 (f := .cls "Running") rfl), He.meth_ok (T.t.d.fact 61 (f := .meth "Running" "steps") rfl), (gd_Running_steps T).mono (by decide)⟩ altok_nil) (hr.mono (by decide)) (takes_of rfl rfl rfl rfl)) (pv 1) (nomark _))))) (pss_cons (ps_expr (pe_mU0 (k := 7) (pv 2) (altok_cons ⟨He.cls_ok (T.t.d.fact 37 (f := .cls "IdealHeap") rfl), He.meth_ok (T.t.d.fact 77 (f := .meth "IdealHeap" "begin") rfl), (gd_IdealHeap_begin T).mono (by decide)⟩ altok_nil) (hr.mono (by decide)) (takes_of rfl rfl rfl rfl)))
 (pss_cons (ps_expr (pe_mU0 (k := 2) (pv 2) (altok_cons ⟨He.cls_ok (T.t.d.fact 37 (f := .cls "IdealHeap") rfl), He.meth_ok (T.t.d.fact 80 (f := .meth "IdealHeap" "end") rfl), (gd_IdealHeap_end T).mono (by decide)⟩ altok_nil) (hr.mono (by decide)) (takes_of rfl rfl rfl rfl)))
 (pss_cons (ps_expr (pe_mU0 (k := 10) (pv 3) (altok_cons ⟨He.cls_ok (T.t.d.fact 50 (f := .cls "Running") rfl), He.meth_ok (T.t.d.fact 150 (f := .meth "Running" "step") rfl), (gd_Running_step T).mono (by decide)⟩ altok_nil) (hr.mono (by decide)) (takes_of rfl rfl rfl rfl)))
 (pss_cons (ps_set (i := 5) sc_most_reached.nd rfl (Or.inl rfl) (pe_cU (gd_words_reached T) (hr.mono (by decide)) (takes_of rfl rfl rfl rfl) rfl (He.glo_ok T.X T.G (T.t.d.fact 164 (f := .glo "words_reached") rfl)) (pa_cons (pv 2) pa_nil)))
 (pss_one (ps_if (pt_cmpR op_gt (pv 5) (pe_ix ix_tup (pv 4) pe_int (fun _ _ => rfl)) (nomark _)) (pss_one (ps_set (i := 4) sc_most_reached.nd rfl (Or.inl rfl) (pe_tup (pa_cons (pv 5) (pa_cons (pe_mU0 (k := 1) (pv 3) (altok_cons ⟨He.cls_ok (T.t.d.fact 50 (f := .cls "Running") rfl), He.meth_ok (T.t.d.fact 61 (f := .meth "Running" "steps") rfl), (gd_Running_steps T).mono (by decide)⟩ altok_nil) (hr.mono (by decide)) (takes_of rfl rfl rfl rfl)) pa_nil))))) pss_nil)))))))
 (pss_one (ps_ret (pv 4))))))))
theorem gd_most_reached (T : Tx P w K mg base) : Good P w K mg base 11 (He.fAd K (d_most_reached).at_) ["program", "steps"] (sp_most_reached K) := by
  obtain ⟨fd, F⟩ := T.t.d.def_ 83 (d := d_most_reached) rfl
  exact ⟨fd, ok_most_reached T F⟩
theorem ok_Paced___init__ (T : Tx P w K mg base) {f : Addr} {fd : FuncData} (F : FunD K "__init__" "Paced.__init__" (defArgs s_Paced___init__) (defBody s_Paced___init__) (defScope s_Paced___init__) [] [] f fd) : GoodF P w K mg base 4 f fd ["self", "program", "hall", "pace"] (sp_Paced___init__ K) := by
  refine ⟨F.ok sc_Paced___init__ (fun vs H Q E h => h.1) (fun cdv A outer s H vs Q E hr h => ⟨t_Paced___init__ K E, ?_, h.2⟩), FunD.bindsN F fun _ _ _ _ _ _ us hl => match us, hl with | [_, _, _, _], _ => rfl, F.kp⟩
  have hu := hu_of hr
  have hdp := room_depth hr
  unfold t_Paced___init__
  exact (pss_cons (ps_expr (pe_cU (gd_look_at_pace T) (hr.mono (by decide)) (takes_of rfl rfl rfl rfl) rfl (He.glo_ok T.X T.G (T.t.d.fact 29 (f := .glo "look_at_pace") rfl)) (pa_cons (pv 3) pa_nil)))
 (pss_cons (ps_fd (fdok_cons (He.cls_ok (T.t.d.fact 166 (f := .cls "Paced") rfl)) (He.noat_ok (T.t.d.fact 167 (f := .noat "Paced" "own_program") rfl)) fdok_nil) (pv 0) (pv 1) rfl)
 (pss_cons (ps_fd (fdok_cons (He.cls_ok (T.t.d.fact 166 (f := .cls "Paced") rfl)) (He.noat_ok (T.t.d.fact 168 (f := .noat "Paced" "run_hall") rfl)) fdok_nil) (pv 0) (pv 2) rfl)
 (pss_cons (ps_fd (fdok_cons (He.cls_ok (T.t.d.fact 166 (f := .cls "Paced") rfl)) (He.noat_ok (T.t.d.fact 169 (f := .noat "Paced" "pace_by") rfl)) fdok_nil) (pv 0) (pv 3) rfl)
 (pss_cons (ps_fd (fdok_cons (He.cls_ok (T.t.d.fact 166 (f := .cls "Paced") rfl)) (He.noat_ok (T.t.d.fact 170 (f := .noat "Paced" "run_on") rfl)) fdok_nil) (pv 0) (pe_mkU (He.mkr_ok (T.t.d.fact 58 (f := .mkr "Running") rfl)) (gd_Running___init__ T) (hr.mono (by decide)) (takes_of rfl rfl rfl rfl) rfl (He.glo_ok T.X T.G (T.t.d.fact 59 (f := .glo "Running") rfl)) (pa_cons (pv 1) (pa_cons (pv 2) pa_nil))) rfl)
 (pss_cons (ps_fd (fdok_cons (He.cls_ok (T.t.d.fact 166 (f := .cls "Paced") rfl)) (He.noat_ok (T.t.d.fact 171 (f := .noat "Paced" "held_top") rfl)) fdok_nil) (pv 0) pe_int rfl)
 (pss_cons (ps_fd (fdok_cons (He.cls_ok (T.t.d.fact 166 (f := .cls "Paced") rfl)) (He.noat_ok (T.t.d.fact 172 (f := .noat "Paced" "rounds_ended") rfl)) fdok_nil) (pv 0) pe_int rfl)
 (pss_one (ps_fd (fdok_cons (He.cls_ok (T.t.d.fact 166 (f := .cls "Paced") rfl)) (He.noat_ok (T.t.d.fact 173 (f := .noat "Paced" "dear_pair") rfl)) fdok_nil) (pv 0) (pe_tup (pa_cons pe_int (pa_cons pe_int pa_nil))) rfl)))))))))
theorem gd_Paced___init__ (T : Tx P w K mg base) : Good P w K mg base 4 (He.fAd K (d_Paced___init__).at_) ["self", "program", "hall", "pace"] (sp_Paced___init__ K) := by
  obtain ⟨fd, F⟩ := T.t.d.def_ 89 (d := d_Paced___init__) rfl
  exact ⟨fd, ok_Paced___init__ T F⟩
theorem ok_Memory___init__ (T : Tx P w K mg base) {f : Addr} {fd : FuncData} (F : FunD K "__init__" "Memory.__init__" (defArgs s_Memory___init__) (defBody s_Memory___init__) (defScope s_Memory___init__) [] [] f fd) : GoodF P w K mg base 1 f fd ["self", "size"] (sp_Memory___init__ K) := by
  refine ⟨F.ok sc_Memory___init__ (fun vs H Q E h => h.1) (fun cdv A outer s H vs Q E hr h => ⟨t_Memory___init__ K E, ?_, h.2⟩), FunD.bindsN F fun _ _ _ _ _ _ us hl => match us, hl with | [_, _], _ => rfl, F.kp⟩
  have hu := hu_of hr
  have hdp := room_depth hr
  unfold t_Memory___init__
  exact (pss_one (ps_fd (fdok_cons (He.cls_ok (T.t.d.fact 176 (f := .cls "Memory") rfl)) (He.noat_ok (T.t.d.fact 177 (f := .noat "Memory" "words") rfl)) fdok_nil) (pv 0) (pe_op op_rep (pe_lst (pa_cons pe_non pa_nil)) (pv 1)) rfl))
theorem gd_Memory___init__ (T : Tx P w K mg base) : Good P w K mg base 1 (He.fAd K (d_Memory___init__).at_) ["self", "size"] (sp_Memory___init__ K) := by
  obtain ⟨fd, F⟩ := T.t.d.def_ 84 (d := d_Memory___init__) rfl
  exact ⟨fd, ok_Memory___init__ T F⟩
theorem ok_NameTable___init__ (T : Tx P w K mg base) {f : Addr} {fd : FuncData} (F : FunD K "__init__" "NameTable.__init__" (defArgs s_NameTable___init__) (defBody s_NameTable___init__) (defScope s_NameTable___init__) [] [] f fd) : GoodF P w K mg base 1 f fd ["self"] (sp_NameTable___init__ K) := by
  refine ⟨F.ok sc_NameTable___init__ (fun vs H Q E h => h.1) (fun cdv A outer s H vs Q E hr h => ⟨t_NameTable___init__ K E, ?_, h.2⟩), FunD.bindsN F fun _ _ _ _ _ _ us hl => match us, hl with | [_], _ => rfl, F.kp⟩
  have hu := hu_of hr
  have hdp := room_depth hr
  unfold t_NameTable___init__
  exact (pss_one (ps_fd (fdok_cons (He.cls_ok (T.t.d.fact 183 (f := .cls "NameTable") rfl)) (He.noat_ok (T.t.d.fact 184 (f := .noat "NameTable" "name_row") rfl)) fdok_nil) (pv 0) (pe_op op_rep (pe_lst (pa_cons pe_non pa_nil)) (pe_globI rfl (He.int_ok T.X T.G (T.t.d.fact 182 (f := .int "MANY_NAMES" 8) rfl)))) rfl))
theorem gd_NameTable___init__ (T : Tx P w K mg base) : Good P w K mg base 1 (He.fAd K (d_NameTable___init__).at_) ["self"] (sp_NameTable___init__ K) := by
  obtain ⟨fd, F⟩ := T.t.d.def_ 85 (d := d_NameTable___init__) rfl
  exact ⟨fd, ok_NameTable___init__ T F⟩
theorem ok_WordTable___init__ (T : Tx P w K mg base) {f : Addr} {fd : FuncData} (F : FunD K "__init__" "WordTable.__init__" (defArgs s_WordTable___init__) (defBody s_WordTable___init__) (defScope s_WordTable___init__) [] [] f fd) : GoodF P w K mg base 1 f fd ["self"] (sp_WordTable___init__ K) := by
  refine ⟨F.ok sc_WordTable___init__ (fun vs H Q E h => h.1) (fun cdv A outer s H vs Q E hr h => ⟨t_WordTable___init__ K E, ?_, h.2⟩), FunD.bindsN F fun _ _ _ _ _ _ us hl => match us, hl with | [_], _ => rfl, F.kp⟩
  have hu := hu_of hr
  have hdp := room_depth hr
  unfold t_WordTable___init__
  exact (pss_cons (ps_fd (fdok_cons (He.cls_ok (T.t.d.fact 188 (f := .cls "WordTable") rfl)) (He.noat_ok (T.t.d.fact 189 (f := .noat "WordTable" "word_by") rfl)) fdok_nil) (pv 0) pe_dnewK rfl)
 (pss_one (ps_fd (fdok_cons (He.cls_ok (T.t.d.fact 188 (f := .cls "WordTable") rfl)) (He.noat_ok (T.t.d.fact 190 (f := .noat "WordTable" "word_line") rfl)) fdok_nil) (pv 0) (pe_lst pa_nil) rfl)))
theorem gd_WordTable___init__ (T : Tx P w K mg base) : Good P w K mg base 1 (He.fAd K (d_WordTable___init__).at_) ["self"] (sp_WordTable___init__ K) := by
  obtain ⟨fd, F⟩ := T.t.d.def_ 86 (d := d_WordTable___init__) rfl
  exact ⟨fd, ok_WordTable___init__ T F⟩
theorem ok_Halves___init__ (T : Tx P w K mg base) {f : Addr} {fd : FuncData} (F : FunD K "__init__" "Halves.__init__" (defArgs s_Halves___init__) (defBody s_Halves___init__) (defScope s_Halves___init__) [] [] f fd) : GoodF P w K mg base 3 f fd ["self", "limit", "room", "young"] (sp_Halves___init__ K) := by
  refine ⟨F.ok sc_Halves___init__ (fun vs H Q E h => h.1) (fun cdv A outer s H vs Q E hr h => ⟨t_Halves___init__ K E, ?_, h.2⟩), FunD.bindsN F fun _ _ _ _ _ _ us hl => match us, hl with | [_, _, _, _], _ => rfl, F.kp⟩
  have hu := hu_of hr
  have hdp := room_depth hr
  unfold t_Halves___init__
  exact (pss_cons (ps_fd (fdok_cons (He.cls_ok (T.t.d.fact 174 (f := .cls "OldMover") rfl)) (He.noat_ok (T.t.d.fact 175 (f := .noat "OldMover" "limit") rfl)) fdok_nil) (pv 0) (pv 1) rfl)
 (pss_cons (ps_fd (fdok_cons (He.cls_ok (T.t.d.fact 174 (f := .cls "OldMover") rfl)) (He.noat_ok (T.t.d.fact 180 (f := .noat "OldMover" "words") rfl)) fdok_nil) (pv 0) (pe_mkU (He.mkr_ok (T.t.d.fact 178 (f := .mkr "Memory") rfl)) (gd_Memory___init__ T) (hr.mono (by decide)) (takes_of rfl rfl rfl rfl) rfl (He.glo_ok T.X T.G (T.t.d.fact 179 (f := .glo "Memory") rfl)) (pa_cons (pe_op op_add (pe_op op_mul pe_int (pv 1)) (pv 2)) pa_nil)) rfl)
 (pss_cons (ps_fd (fdok_cons (He.cls_ok (T.t.d.fact 174 (f := .cls "OldMover") rfl)) (He.noat_ok (T.t.d.fact 181 (f := .noat "OldMover" "hold") rfl)) fdok_nil) (pv 0) (pe_op op_rep (pe_lst (pa_cons pe_non pa_nil)) pe_int) rfl)
 (pss_cons (ps_fd (fdok_cons (He.cls_ok (T.t.d.fact 174 (f := .cls "OldMover") rfl)) (He.noat_ok (T.t.d.fact 187 (f := .noat "OldMover" "weak") rfl)) fdok_nil) (pv 0) (pe_mkU0 (He.mkr_ok (T.t.d.fact 185 (f := .mkr "NameTable") rfl)) (gd_NameTable___init__ T) (hr.mono (by decide)) (takes_of rfl rfl rfl rfl) rfl (He.glo_ok T.X T.G (T.t.d.fact 186 (f := .glo "NameTable") rfl))) rfl)
 (pss_cons (ps_fd (fdok_cons (He.cls_ok (T.t.d.fact 174 (f := .cls "OldMover") rfl)) (He.noat_ok (T.t.d.fact 193 (f := .noat "OldMover" "last") rfl)) fdok_nil) (pv 0) (pe_mkU0 (He.mkr_ok (T.t.d.fact 191 (f := .mkr "WordTable") rfl)) (gd_WordTable___init__ T) (hr.mono (by decide)) (takes_of rfl rfl rfl rfl) rfl (He.glo_ok T.X T.G (T.t.d.fact 192 (f := .glo "WordTable") rfl))) rfl)
 (pss_cons (ps_fd (fdok_cons (He.cls_ok (T.t.d.fact 174 (f := .cls "OldMover") rfl)) (He.noat_ok (T.t.d.fact 194 (f := .noat "OldMover" "stands") rfl)) fdok_nil) (pv 0) pe_dnewK rfl)
 (pss_cons (ps_fd (fdok_cons (He.cls_ok (T.t.d.fact 174 (f := .cls "OldMover") rfl)) (He.noat_ok (T.t.d.fact 195 (f := .noat "OldMover" "made_many") rfl)) fdok_nil) (pv 0) pe_int rfl)
 (pss_cons (ps_fd (fdok_cons (He.cls_ok (T.t.d.fact 174 (f := .cls "OldMover") rfl)) (He.noat_ok (T.t.d.fact 196 (f := .noat "OldMover" "held_words") rfl)) fdok_nil) (pv 0) pe_int rfl)
 (pss_cons (ps_fd (fdok_cons (He.cls_ok (T.t.d.fact 174 (f := .cls "OldMover") rfl)) (He.noat_ok (T.t.d.fact 197 (f := .noat "OldMover" "now") rfl)) fdok_nil) (pv 0) pe_int rfl)
 (pss_cons (ps_fd (fdok_cons (He.cls_ok (T.t.d.fact 174 (f := .cls "OldMover") rfl)) (He.noat_ok (T.t.d.fact 198 (f := .noat "OldMover" "up") rfl)) fdok_nil) (pv 0) pe_int rfl)
 (pss_cons (ps_fd (fdok_cons (He.cls_ok (T.t.d.fact 174 (f := .cls "OldMover") rfl)) (He.noat_ok (T.t.d.fact 199 (f := .noat "OldMover" "down") rfl)) fdok_nil) (pv 0) (pv 1) rfl)
 (pss_cons (ps_fd (fdok_cons (He.cls_ok (T.t.d.fact 174 (f := .cls "OldMover") rfl)) (He.noat_ok (T.t.d.fact 200 (f := .noat "OldMover" "going") rfl)) fdok_nil) (pv 0) pe_bl rfl)
 (pss_cons (ps_fd (fdok_cons (He.cls_ok (T.t.d.fact 174 (f := .cls "OldMover") rfl)) (He.noat_ok (T.t.d.fact 201 (f := .noat "OldMover" "found") rfl)) fdok_nil) (pv 0) (pe_lst pa_nil) rfl)
 (pss_cons (ps_fd (fdok_cons (He.cls_ok (T.t.d.fact 174 (f := .cls "OldMover") rfl)) (He.noat_ok (T.t.d.fact 202 (f := .noat "OldMover" "place_next") rfl)) fdok_nil) (pv 0) pe_int rfl)
 (pss_cons (ps_fd (fdok_cons (He.cls_ok (T.t.d.fact 174 (f := .cls "OldMover") rfl)) (He.noat_ok (T.t.d.fact 203 (f := .noat "OldMover" "field_next") rfl)) fdok_nil) (pv 0) pe_int rfl)
 (pss_cons (ps_fd (fdok_cons (He.cls_ok (T.t.d.fact 174 (f := .cls "OldMover") rfl)) (He.noat_ok (T.t.d.fact 204 (f := .noat "OldMover" "looks") rfl)) fdok_nil) (pv 0) pe_int rfl)
 (pss_cons (ps_fd (fdok_cons (He.cls_ok (T.t.d.fact 174 (f := .cls "OldMover") rfl)) (He.noat_ok (T.t.d.fact 205 (f := .noat "OldMover" "lays") rfl)) fdok_nil) (pv 0) pe_int rfl)
 (pss_one (ps_fd (fdok_cons (He.cls_ok (T.t.d.fact 174 (f := .cls "OldMover") rfl)) (He.noat_ok (T.t.d.fact 206 (f := .noat "OldMover" "rows") rfl)) fdok_nil) (pv 0) (pe_lst (pa_cons (pe_tup (pa_cons pe_str (pa_cons (pe_op op_add (pe_op op_mul pe_int (pv 1)) (pv 2)) (pa_cons (pv 3) pa_nil)))) pa_nil)) rfl)))))))))))))))))))
theorem gd_Halves___init__ (T : Tx P w K mg base) : Good P w K mg base 3 (He.fAd K (d_Halves___init__).at_) ["self", "limit", "room", "young"] (sp_Halves___init__ K) := by
  obtain ⟨fd, F⟩ := T.t.d.def_ 87 (d := d_Halves___init__) rfl
  exact ⟨fd, ok_Halves___init__ T F⟩
theorem ok_OldMover___init__ (T : Tx P w K mg base) {f : Addr} {fd : FuncData} (F : FunD K "__init__" "OldMover.__init__" (defArgs s_OldMover___init__) (defBody s_OldMover___init__) (defScope s_OldMover___init__) [] [] f fd) : GoodF P w K mg base 4 f fd ["self", "limit"] (sp_OldMover___init__ K) := by
  refine ⟨F.ok sc_OldMover___init__ (fun vs H Q E h => h.1) (fun cdv A outer s H vs Q E hr h => ⟨t_OldMover___init__ K E, ?_, h.2⟩), FunD.bindsN F fun _ _ _ _ _ _ us hl => match us, hl with | [_, _], _ => rfl, F.kp⟩
  have hu := hu_of hr
  have hdp := room_depth hr
  unfold t_OldMover___init__
  exact (pss_cons (ps_expr (pe_cU (gd_look_at_limits T) (hr.mono (by decide)) (takes_of rfl rfl rfl rfl) rfl (He.glo_ok T.X T.G (T.t.d.fact 36 (f := .glo "look_at_limits") rfl)) (pa_cons pe_int (pa_cons (pv 1) pa_nil))))
 (pss_one (ps_expr (pe_clsU (clsFnB_ok (T.exf 14 rfl)) (gd_Halves___init__ T) (hr.mono (by decide)) (takes_of rfl rfl rfl rfl) rfl (He.glo_ok T.X T.G (T.t.d.fact 207 (f := .glo "Halves") rfl)) (pa_cons (pv 0) (pa_cons (pv 1) (pa_cons pe_int (pa_cons pe_bl pa_nil))))))))
theorem gd_OldMover___init__ (T : Tx P w K mg base) : Good P w K mg base 4 (He.fAd K (d_OldMover___init__).at_) ["self", "limit"] (sp_OldMover___init__ K) := by
  obtain ⟨fd, F⟩ := T.t.d.def_ 88 (d := d_OldMover___init__) rfl
  exact ⟨fd, ok_OldMover___init__ T F⟩
theorem ok__law_word (T : Tx P w K mg base) {f : Addr} {fd : FuncData} (F : FunD K "_law_word" "_law_word" (defArgs s__law_word) (defBody s__law_word) (defScope s__law_word) [] [] f fd) : GoodF P w K mg base 12 f fd ["way", "most", "pace", "rows"] (sp__law_word K) := by
  refine ⟨F.ok sc__law_word (fun vs H Q E h => h.1) (fun cdv A outer s H vs Q E hr h => ⟨t__law_word K E, ?_, h.2⟩), FunD.bindsN F fun _ _ _ _ _ _ us hl => match us, hl with | [_, _, _, _], _ => rfl, F.kp⟩
  have hu := hu_of hr
  have hdp := room_depth hr
  unfold t__law_word
  exact (pss_cons (ps_set (i := 4) sc__law_word.nd rfl (Or.inl rfl) pe_non)
 (pss_cons (ps_set (i := 5) sc__law_word.nd rfl (Or.inl rfl) pe_non)
 (pss_cons (ps_set (i := 6) sc__law_word.nd rfl (Or.inl rfl) (pe_cU (gd_read_program T) (hr.mono (by decide)) (takes_of rfl rfl rfl rfl) rfl (He.glo_ok T.X T.G (T.t.d.fact 24 (f := .glo "read_program") rfl)) (pa_cons pe_str pa_nil)))
 (pss_cons (ps_tryT (i := 7) rfl rfl rfl sc__law_word.nd rfl rfl (He.glo_ok T.X T.G (T.t.d.fact 19 (f := .glo "HeapError") rfl)) (takes_of rfl rfl rfl rfl) (fun W pn xe tk hp => (pss_one (ps_if (pt_cmpR op_eq (pv 0) pe_int (nomark _)) (pss_one (ps_set (i := 5) sc__law_word.nd rfl (Or.inl rfl) (pe_cU (gd_room_needed T) (hr.mono (by decide)) tk rfl (He.glo_ok T.X T.G (T.t.d.fact 31 (f := .glo "room_needed") rfl)) (pa_cons (pv 1) (pa_cons (pv 2) pa_nil))))) (pss_one (ps_if (pt_cmpR op_eq (pv 0) pe_int (nomark _)) (pss_one (ps_set (i := 5) sc__law_word.nd rfl (Or.inl rfl) (pe_cU (gd_most_reached T) (hr.mono (by decide)) tk rfl (He.glo_ok T.X T.G (T.t.d.fact 165 (f := .glo "most_reached") rfl)) (pa_cons (pv 6) (pa_cons (pv 3) pa_nil))))) (pss_one (ps_set (i := 5) sc__law_word.nd rfl (Or.inl rfl) (pe_mkU (He.mkr_ok (T.t.d.fact 210 (f := .mkr "Paced") rfl)) (gd_Paced___init__ T) (hr.mono (by decide)) tk rfl (He.glo_ok T.X T.G (T.t.d.fact 211 (f := .glo "Paced") rfl)) (pa_cons (pv 6) (pa_cons (pe_mkU (He.mkr_ok (T.t.d.fact 208 (f := .mkr "OldMover") rfl)) (gd_OldMover___init__ T) (hr.mono (by decide)) tk rfl (He.glo_ok T.X T.G (T.t.d.fact 209 (f := .glo "OldMover") rfl)) (pa_cons pe_int pa_nil)) (pa_cons (pv 2) pa_nil))))))))))) (fun a pn => (pss_one (ps_set (i := 4) sc__law_word.nd rfl (Or.inl rfl) (pv 7)))))
 (pss_cons (ps_if (pt_cmpR op_isN (pv 4) pe_non (nomark _)) (pss_one (ps_ret (pv 5))) pss_nil)
 (pss_cons (ps_if (PW.pt (pw_or (pt_not (pt_val (pe_callB call_isiF (by rfl) (He.free_ok T.X T.G (T.t.d.fact 212 (f := .free "isinstance") rfl)) (by decide +kernel) (pa_cons (pv 4) (pa_cons (pe_glob rfl (He.glo_ok T.X T.G (T.t.d.fact 26 (f := .glo "BadCount") rfl)) (show RelV (.ref (He.ga K "BadCount")) _ from rfl)) pa_nil))))) (pw_or1 (pt_not (pt_val (pe_callB call_isiF (by rfl) (He.free_ok T.X T.G (T.t.d.fact 212 (f := .free "isinstance") rfl)) (by decide +kernel) (pa_cons (pv 4) (pa_cons (pe_bltn (v := .ty "ValueError") (by rfl) (He.free_ok T.X T.G (T.t.d.fact 213 (f := .free "ValueError") rfl)) (by decide +kernel) rfl) pa_nil)))))))) (pss_one (ps_ret pe_str)) pss_nil)
 (pss_cons (ps_if (PW.pt (pw_or (pt_val (pe_callB call_isiTF (by rfl) (He.free_ok T.X T.G (T.t.d.fact 212 (f := .free "isinstance") rfl)) (by decide +kernel) (pa_cons (pv 4) (pa_cons (pe_tup (pa_cons (pe_glob rfl (He.glo_ok T.X T.G (T.t.d.fact 22 (f := .glo "BadText") rfl)) (show RelV (.ref (He.ga K "BadText")) _ from rfl)) (pa_cons (pe_glob rfl (He.glo_ok T.X T.G (T.t.d.fact 81 (f := .glo "BadHand") rfl)) (show RelV (.ref (He.ga K "BadHand")) _ from rfl)) pa_nil))) pa_nil)))) (pw_or1 (pt_cmpR op_ne (pe_xmC (pv 4) (calt_cons ⟨excCB_ok (T.exf 13 rfl), (He.meth_ok (T.t.d.fact 137 (f := .meth "BadAddress" "called") rfl)).at_, beq_iff_eq.mp (He.meth_ok (T.t.d.fact 137 (f := .meth "BadAddress" "called") rfl)).fn, cf_BadAddress_called T⟩ (calt_cons ⟨excCB_ok (T.exf 12 rfl), (He.meth_ok (T.t.d.fact 136 (f := .meth "BadCount" "called") rfl)).at_, beq_iff_eq.mp (He.meth_ok (T.t.d.fact 136 (f := .meth "BadCount" "called") rfl)).fn, cf_BadCount_called T⟩ (calt_cons ⟨excCB_ok (T.exf 11 rfl), (He.meth_ok (T.t.d.fact 135 (f := .meth "BadField" "called") rfl)).at_, beq_iff_eq.mp (He.meth_ok (T.t.d.fact 135 (f := .meth "BadField" "called") rfl)).fn, cf_BadField_called T⟩ (calt_cons ⟨excCB_ok (T.exf 10 rfl), (He.meth_ok (T.t.d.fact 134 (f := .meth "BadHand" "called") rfl)).at_, beq_iff_eq.mp (He.meth_ok (T.t.d.fact 134 (f := .meth "BadHand" "called") rfl)).fn, cf_BadHand_called T⟩ (calt_cons ⟨excCB_ok (T.exf 9 rfl), (He.meth_ok (T.t.d.fact 133 (f := .meth "BadName" "called") rfl)).at_, beq_iff_eq.mp (He.meth_ok (T.t.d.fact 133 (f := .meth "BadName" "called") rfl)).fn, cf_BadName_called T⟩ (calt_cons ⟨excCB_ok (T.exf 8 rfl), (He.meth_ok (T.t.d.fact 132 (f := .meth "BadText" "called") rfl)).at_, beq_iff_eq.mp (He.meth_ok (T.t.d.fact 132 (f := .meth "BadText" "called") rfl)).fn, cf_BadText_called T⟩ (calt_cons ⟨excCB_ok (T.exf 7 rfl), (He.meth_ok (T.t.d.fact 131 (f := .meth "BadView" "called") rfl)).at_, beq_iff_eq.mp (He.meth_ok (T.t.d.fact 131 (f := .meth "BadView" "called") rfl)).fn, cf_BadView_called T⟩ (calt_cons ⟨excCB_ok (T.exf 6 rfl), (He.meth_ok (T.t.d.fact 130 (f := .meth "HeapError" "called") rfl)).at_, beq_iff_eq.mp (He.meth_ok (T.t.d.fact 130 (f := .meth "HeapError" "called") rfl)).fn, cf_HeapError_called T⟩ (calt_cons ⟨excCB_ok (T.exf 5 rfl), (He.meth_ok (T.t.d.fact 129 (f := .meth "NoRoom" "called") rfl)).at_, beq_iff_eq.mp (He.meth_ok (T.t.d.fact 129 (f := .meth "NoRoom" "called") rfl)).fn, cf_NoRoom_called T⟩ (calt_cons ⟨excCB_ok (T.exf 4 rfl), (He.meth_ok (T.t.d.fact 128 (f := .meth "NoRound" "called") rfl)).at_, beq_iff_eq.mp (He.meth_ok (T.t.d.fact 128 (f := .meth "NoRound" "called") rfl)).fn, cf_NoRound_called T⟩ (calt_cons ⟨excCB_ok (T.exf 3 rfl), (He.meth_ok (T.t.d.fact 127 (f := .meth "RoundOn" "called") rfl)).at_, beq_iff_eq.mp (He.meth_ok (T.t.d.fact 127 (f := .meth "RoundOn" "called") rfl)).fn, cf_RoundOn_called T⟩ (calt_cons ⟨excCB_ok (T.exf 2 rfl), (He.meth_ok (T.t.d.fact 126 (f := .meth "TooManyWords" "called") rfl)).at_, beq_iff_eq.mp (He.meth_ok (T.t.d.fact 126 (f := .meth "TooManyWords" "called") rfl)).fn, cf_TooManyWords_called T⟩ calt_nil)))))))))))) (ckeep_cons (He.meth_ok (T.t.d.fact 137 (f := .meth "BadAddress" "called") rfl)).kp (ckeep_cons (He.meth_ok (T.t.d.fact 136 (f := .meth "BadCount" "called") rfl)).kp (ckeep_cons (He.meth_ok (T.t.d.fact 135 (f := .meth "BadField" "called") rfl)).kp (ckeep_cons (He.meth_ok (T.t.d.fact 134 (f := .meth "BadHand" "called") rfl)).kp (ckeep_cons (He.meth_ok (T.t.d.fact 133 (f := .meth "BadName" "called") rfl)).kp (ckeep_cons (He.meth_ok (T.t.d.fact 132 (f := .meth "BadText" "called") rfl)).kp (ckeep_cons (He.meth_ok (T.t.d.fact 131 (f := .meth "BadView" "called") rfl)).kp (ckeep_cons (He.meth_ok (T.t.d.fact 130 (f := .meth "HeapError" "called") rfl)).kp (ckeep_cons (He.meth_ok (T.t.d.fact 129 (f := .meth "NoRoom" "called") rfl)).kp (ckeep_cons (He.meth_ok (T.t.d.fact 128 (f := .meth "NoRound" "called") rfl)).kp (ckeep_cons (He.meth_ok (T.t.d.fact 127 (f := .meth "RoundOn" "called") rfl)).kp (ckeep_cons (He.meth_ok (T.t.d.fact 126 (f := .meth "TooManyWords" "called") rfl)).kp ckeep_nil)))))))))))) hdp) pe_str (nomark _))))) (pss_one (ps_ret pe_str)) pss_nil)
 (pss_one (ps_ret pe_str)))))))))
theorem gd__law_word (T : Tx P w K mg base) : Good P w K mg base 12 (He.fAd K (d__law_word).at_) ["way", "most", "pace", "rows"] (sp__law_word K) := by
  obtain ⟨fd, F⟩ := T.t.d.def_ 90 (d := d__law_word) rfl
  exact ⟨fd, ok__law_word T F⟩
theorem ok_Running_told (T : Tx P w K mg base) {f : Addr} {fd : FuncData} (F : FunD K "told" "Running.told" (defArgs s_Running_told) (defBody s_Running_told) (defScope s_Running_told) [] [] f fd) : GoodF P w K mg base 1 f fd ["self"] (sp_Running_told K) := by
  refine ⟨F.ok sc_Running_told (fun vs H Q E h => h.1) (fun cdv A outer s H vs Q E hr h => ⟨t_Running_told K E, ?_, h.2⟩), FunD.bindsN F fun _ _ _ _ _ _ us hl => match us, hl with | [_], _ => rfl, F.kp⟩
  have hu := hu_of hr
  have hdp := room_depth hr
  unfold t_Running_told
  exact (pss_one (ps_ret (pe_callTy call_list_of (by rfl) (He.free_ok T.X T.G (T.t.d.fact 1 (f := .free "list") rfl)) (by decide +kernel) (pa_cons (pe_fd (fdok_cons (He.cls_ok (T.t.d.fact 50 (f := .cls "Running") rfl)) (He.noat_ok (T.t.d.fact 56 (f := .noat "Running" "lines") rfl)) fdok_nil) (pv 0) rfl) pa_nil))))
theorem gd_Running_told (T : Tx P w K mg base) : Good P w K mg base 1 (He.fAd K (d_Running_told).at_) ["self"] (sp_Running_told K) := by
  obtain ⟨fd, F⟩ := T.t.d.def_ 91 (d := d_Running_told) rfl
  exact ⟨fd, ok_Running_told T F⟩
theorem ok_Paced_told (T : Tx P w K mg base) {f : Addr} {fd : FuncData} (F : FunD K "told" "Paced.told" (defArgs s_Paced_told) (defBody s_Paced_told) (defScope s_Paced_told) [] [] f fd) : GoodF P w K mg base 2 f fd ["self"] (sp_Paced_told K) := by
  refine ⟨F.ok sc_Paced_told (fun vs H Q E h => h.1) (fun cdv A outer s H vs Q E hr h => ⟨t_Paced_told K E, ?_, h.2⟩), FunD.bindsN F fun _ _ _ _ _ _ us hl => match us, hl with | [_], _ => rfl, F.kp⟩
  have hu := hu_of hr
  have hdp := room_depth hr
  unfold t_Paced_told
  exact (pss_one (ps_ret (pe_mU0 (k := 1) (pe_fd (fdok_cons (He.cls_ok (T.t.d.fact 166 (f := .cls "Paced") rfl)) (He.noat_ok (T.t.d.fact 170 (f := .noat "Paced" "run_on") rfl)) fdok_nil) (pv 0) rfl) (altok_cons ⟨He.cls_ok (T.t.d.fact 50 (f := .cls "Running") rfl), He.meth_ok (T.t.d.fact 216 (f := .meth "Running" "told") rfl), (gd_Running_told T).mono (by decide)⟩ altok_nil) (hr.mono (by decide)) (takes_of rfl rfl rfl rfl))))
theorem gd_Paced_told (T : Tx P w K mg base) : Good P w K mg base 2 (He.fAd K (d_Paced_told).at_) ["self"] (sp_Paced_told K) := by
  obtain ⟨fd, F⟩ := T.t.d.def_ 92 (d := d_Paced_told) rfl
  exact ⟨fd, ok_Paced_told T F⟩
theorem ok_Running_fault (T : Tx P w K mg base) {f : Addr} {fd : FuncData} (F : FunD K "fault" "Running.fault" (defArgs s_Running_fault) (defBody s_Running_fault) (defScope s_Running_fault) [] [] f fd) : GoodF P w K mg base 1 f fd ["self"] (sp_Running_fault K) := by
  refine ⟨F.ok sc_Running_fault (fun vs H Q E h => h.1) (fun cdv A outer s H vs Q E hr h => ⟨t_Running_fault K E, ?_, h.2⟩), FunD.bindsN F fun _ _ _ _ _ _ us hl => match us, hl with | [_], _ => rfl, F.kp⟩
  have hu := hu_of hr
  have hdp := room_depth hr
  unfold t_Running_fault
  exact (pss_one (ps_ret (pe_fd (fdok_cons (He.cls_ok (T.t.d.fact 50 (f := .cls "Running") rfl)) (He.noat_ok (T.t.d.fact 57 (f := .noat "Running" "broken") rfl)) fdok_nil) (pv 0) rfl)))
theorem gd_Running_fault (T : Tx P w K mg base) : Good P w K mg base 1 (He.fAd K (d_Running_fault).at_) ["self"] (sp_Running_fault K) := by
  obtain ⟨fd, F⟩ := T.t.d.def_ 93 (d := d_Running_fault) rfl
  exact ⟨fd, ok_Running_fault T F⟩
theorem ok_Paced_fault (T : Tx P w K mg base) {f : Addr} {fd : FuncData} (F : FunD K "fault" "Paced.fault" (defArgs s_Paced_fault) (defBody s_Paced_fault) (defScope s_Paced_fault) [] [] f fd) : GoodF P w K mg base 2 f fd ["self"] (sp_Paced_fault K) := by
  refine ⟨F.ok sc_Paced_fault (fun vs H Q E h => h.1) (fun cdv A outer s H vs Q E hr h => ⟨t_Paced_fault K E, ?_, h.2⟩), FunD.bindsN F fun _ _ _ _ _ _ us hl => match us, hl with | [_], _ => rfl, F.kp⟩
  have hu := hu_of hr
  have hdp := room_depth hr
  unfold t_Paced_fault
  exact (pss_one (ps_ret (pe_mU0 (k := 1) (pe_fd (fdok_cons (He.cls_ok (T.t.d.fact 166 (f := .cls "Paced") rfl)) (He.noat_ok (T.t.d.fact 170 (f := .noat "Paced" "run_on") rfl)) fdok_nil) (pv 0) rfl) (altok_cons ⟨He.cls_ok (T.t.d.fact 50 (f := .cls "Running") rfl), He.meth_ok (T.t.d.fact 218 (f := .meth "Running" "fault") rfl), (gd_Running_fault T).mono (by decide)⟩ altok_nil) (hr.mono (by decide)) (takes_of rfl rfl rfl rfl))))
theorem gd_Paced_fault (T : Tx P w K mg base) : Good P w K mg base 2 (He.fAd K (d_Paced_fault).at_) ["self"] (sp_Paced_fault K) := by
  obtain ⟨fd, F⟩ := T.t.d.def_ 94 (d := d_Paced_fault) rfl
  exact ⟨fd, ok_Paced_fault T F⟩
theorem ok_Paced_dearest (T : Tx P w K mg base) {f : Addr} {fd : FuncData} (F : FunD K "dearest" "Paced.dearest" (defArgs s_Paced_dearest) (defBody s_Paced_dearest) (defScope s_Paced_dearest) [] [] f fd) : GoodF P w K mg base 1 f fd ["self"] (sp_Paced_dearest K) := by
  refine ⟨F.ok sc_Paced_dearest (fun vs H Q E h => h.1) (fun cdv A outer s H vs Q E hr h => ⟨t_Paced_dearest K E, ?_, h.2⟩), FunD.bindsN F fun _ _ _ _ _ _ us hl => match us, hl with | [_], _ => rfl, F.kp⟩
  have hu := hu_of hr
  have hdp := room_depth hr
  unfold t_Paced_dearest
  exact (pss_one (ps_ret (pe_fd (fdok_cons (He.cls_ok (T.t.d.fact 166 (f := .cls "Paced") rfl)) (He.noat_ok (T.t.d.fact 173 (f := .noat "Paced" "dear_pair") rfl)) fdok_nil) (pv 0) rfl)))
theorem gd_Paced_dearest (T : Tx P w K mg base) : Good P w K mg base 1 (He.fAd K (d_Paced_dearest).at_) ["self"] (sp_Paced_dearest K) := by
  obtain ⟨fd, F⟩ := T.t.d.def_ 95 (d := d_Paced_dearest) rfl
  exact ⟨fd, ok_Paced_dearest T F⟩
theorem ok_Paced_most_held (T : Tx P w K mg base) {f : Addr} {fd : FuncData} (F : FunD K "most_held" "Paced.most_held" (defArgs s_Paced_most_held) (defBody s_Paced_most_held) (defScope s_Paced_most_held) [] [] f fd) : GoodF P w K mg base 1 f fd ["self"] (sp_Paced_most_held K) := by
  refine ⟨F.ok sc_Paced_most_held (fun vs H Q E h => h.1) (fun cdv A outer s H vs Q E hr h => ⟨t_Paced_most_held K E, ?_, h.2⟩), FunD.bindsN F fun _ _ _ _ _ _ us hl => match us, hl with | [_], _ => rfl, F.kp⟩
  have hu := hu_of hr
  have hdp := room_depth hr
  unfold t_Paced_most_held
  exact (pss_one (ps_ret (pe_fd (fdok_cons (He.cls_ok (T.t.d.fact 166 (f := .cls "Paced") rfl)) (He.noat_ok (T.t.d.fact 171 (f := .noat "Paced" "held_top") rfl)) fdok_nil) (pv 0) rfl)))
theorem gd_Paced_most_held (T : Tx P w K mg base) : Good P w K mg base 1 (He.fAd K (d_Paced_most_held).at_) ["self"] (sp_Paced_most_held K) := by
  obtain ⟨fd, F⟩ := T.t.d.def_ 96 (d := d_Paced_most_held) rfl
  exact ⟨fd, ok_Paced_most_held T F⟩
theorem ok_Paced_rounds (T : Tx P w K mg base) {f : Addr} {fd : FuncData} (F : FunD K "rounds" "Paced.rounds" (defArgs s_Paced_rounds) (defBody s_Paced_rounds) (defScope s_Paced_rounds) [] [] f fd) : GoodF P w K mg base 1 f fd ["self"] (sp_Paced_rounds K) := by
  refine ⟨F.ok sc_Paced_rounds (fun vs H Q E h => h.1) (fun cdv A outer s H vs Q E hr h => ⟨t_Paced_rounds K E, ?_, h.2⟩), FunD.bindsN F fun _ _ _ _ _ _ us hl => match us, hl with | [_], _ => rfl, F.kp⟩
  have hu := hu_of hr
  have hdp := room_depth hr
  unfold t_Paced_rounds
  exact (pss_one (ps_ret (pe_fd (fdok_cons (He.cls_ok (T.t.d.fact 166 (f := .cls "Paced") rfl)) (He.noat_ok (T.t.d.fact 172 (f := .noat "Paced" "rounds_ended") rfl)) fdok_nil) (pv 0) rfl)))
theorem gd_Paced_rounds (T : Tx P w K mg base) : Good P w K mg base 1 (He.fAd K (d_Paced_rounds).at_) ["self"] (sp_Paced_rounds K) := by
  obtain ⟨fd, F⟩ := T.t.d.def_ 97 (d := d_Paced_rounds) rfl
  exact ⟨fd, ok_Paced_rounds T F⟩
theorem ok__law_fresh (T : Tx P w K mg base) {f : Addr} {fd : FuncData} (F : FunD K "_law_fresh" "_law_fresh" (defArgs s__law_fresh) (defBody s__law_fresh) (defScope s__law_fresh) [] [] f fd) : GoodF P w K mg base 3 f fd ["paced"] (sp__law_fresh K) := by
  refine ⟨F.ok sc__law_fresh (fun vs H Q E h => h.1) (fun cdv A outer s H vs Q E hr h => ⟨t__law_fresh K E, ?_, h.2⟩), FunD.bindsN F fun _ _ _ _ _ _ us hl => match us, hl with | [_], _ => rfl, F.kp⟩
  have hu := hu_of hr
  have hdp := room_depth hr
  unfold t__law_fresh
  exact (pss_cons (ps_if (PW.pt (pw_or (pt_cmpR (op_neU hr.units) (pe_mU0 (k := 2) (pv 0) (altok_cons ⟨He.cls_ok (T.t.d.fact 166 (f := .cls "Paced") rfl), He.meth_ok (T.t.d.fact 217 (f := .meth "Paced" "told") rfl), (gd_Paced_told T).mono (by decide)⟩ altok_nil) (hr.mono (by decide)) (takes_of rfl rfl rfl rfl)) (pe_lst pa_nil) (nomark _)) (pw_or (pt_cmpR op_notN (pe_mU0 (k := 2) (pv 0) (altok_cons ⟨He.cls_ok (T.t.d.fact 166 (f := .cls "Paced") rfl), He.meth_ok (T.t.d.fact 219 (f := .meth "Paced" "fault") rfl), (gd_Paced_fault T).mono (by decide)⟩ altok_nil) (hr.mono (by decide)) (takes_of rfl rfl rfl rfl)) pe_non (nomark _)) (pw_or1 (pt_cmpR (op_neU hr.units) (pe_mU0 (k := 1) (pv 0) (altok_cons ⟨He.cls_ok (T.t.d.fact 166 (f := .cls "Paced") rfl), He.meth_ok (T.t.d.fact 220 (f := .meth "Paced" "dearest") rfl), (gd_Paced_dearest T).mono (by decide)⟩ altok_nil) (hr.mono (by decide)) (takes_of rfl rfl rfl rfl)) (pe_tup (pa_cons pe_int (pa_cons pe_int pa_nil))) (nomark _)))))) (pss_one (ps_ret pe_bl)) pss_nil)
 (pss_one (ps_ret (pe_cmpR (op_eqU hr.units) (pe_lst (pa_cons (pe_mU0 (k := 1) (pv 0) (altok_cons ⟨He.cls_ok (T.t.d.fact 166 (f := .cls "Paced") rfl), He.meth_ok (T.t.d.fact 221 (f := .meth "Paced" "most_held") rfl), (gd_Paced_most_held T).mono (by decide)⟩ altok_nil) (hr.mono (by decide)) (takes_of rfl rfl rfl rfl)) (pa_cons (pe_mU0 (k := 1) (pv 0) (altok_cons ⟨He.cls_ok (T.t.d.fact 166 (f := .cls "Paced") rfl), He.meth_ok (T.t.d.fact 222 (f := .meth "Paced" "rounds") rfl), (gd_Paced_rounds T).mono (by decide)⟩ altok_nil) (hr.mono (by decide)) (takes_of rfl rfl rfl rfl)) pa_nil))) (pe_lst (pa_cons pe_int (pa_cons pe_int pa_nil))) (nomark _)))))
theorem gd__law_fresh (T : Tx P w K mg base) : Good P w K mg base 3 (He.fAd K (d__law_fresh).at_) ["paced"] (sp__law_fresh K) := by
  obtain ⟨fd, F⟩ := T.t.d.def_ 98 (d := d__law_fresh) rfl
  exact ⟨fd, ok__law_fresh T F⟩
theorem ok__law_right (T : Tx P w K mg base) {f : Addr} {fd : FuncData} (F : FunD K "_law_right" "_law_right" (defArgs s__law_right) (defBody s__law_right) (defScope s__law_right) [] [] f fd) : GoodF P w K mg base 13 f fd ["cell"] (sp__law_right K) := by
  refine ⟨F.ok sc__law_right (fun vs H Q E h => h.1) (fun cdv A outer s H vs Q E hr h => ⟨t__law_right K E, ?_, h.2⟩), FunD.bindsN F fun _ _ _ _ _ _ us hl => match us, hl with | [_], _ => rfl, F.kp⟩
  have hu := hu_of hr
  have hdp := room_depth hr
  unfold t__law_right
  exact (pss_cons (ps_set (i := 1) sc__law_right.nd rfl (Or.inl rfl) (pe_cU (gd__law_number T) (hr.mono (by decide)) (takes_of rfl rfl rfl rfl) rfl (He.glo_ok T.X T.G (T.t.d.fact 2 (f := .glo "_law_number") rfl)) (pa_cons (pv 0) (pa_cons pe_int (pa_cons pe_int pa_nil)))))
 (pss_cons (ps_set (i := 2) sc__law_right.nd rfl (Or.inl rfl) (pe_cU (gd__law_number T) (hr.mono (by decide)) (takes_of rfl rfl rfl rfl) rfl (He.glo_ok T.X T.G (T.t.d.fact 2 (f := .glo "_law_number") rfl)) (pa_cons (pe_op op_fdivW (pv 0) pe_int) (pa_cons pe_int (pa_cons pe_int pa_nil)))))
 (pss_cons (ps_set (i := 3) sc__law_right.nd rfl (Or.inl rfl) (pe_cU (gd__law_number T) (hr.mono (by decide)) (takes_of rfl rfl rfl rfl) rfl (He.glo_ok T.X T.G (T.t.d.fact 2 (f := .glo "_law_number") rfl)) (pa_cons (pe_op op_fdivW (pv 0) pe_int) (pa_cons pe_int (pa_cons pe_int pa_nil)))))
 (pss_cons (ps_set (i := 4) sc__law_right.nd rfl (Or.inl rfl) pe_str)
 (pss_cons (ps_if (PW.pt (pw_and (pt_chain op_le op_le pe_int (pv 1) pe_int) (pw_and1 (pt_chain op_le op_le pe_int (pv 2) pe_int)))) (pss_one (ps_set (i := 4) sc__law_right.nd rfl (Or.inl rfl) (pe_op op_add (pv 1) (pe_op op_mul pe_int (pe_op op_add (pe_op op_fdivW (pv 1) (pv 2)) pe_int))))) pss_nil)
 (pss_cons (ps_set (i := 5) sc__law_right.nd rfl (Or.inl rfl) (pe_cU (gd__law_word T) (hr.mono (by decide)) (takes_of rfl rfl rfl rfl) rfl (He.glo_ok T.X T.G (T.t.d.fact 214 (f := .glo "_law_word") rfl)) (pa_cons pe_int (pa_cons (pv 1) (pa_cons (pv 2) (pa_cons (pv 3) pa_nil))))))
 (pss_cons (ps_if (PW.pt (pw_or (pt_cmpR (op_neU hr.units) (pv 5) (pv 4) (nomark _)) (pw_or1 (pt_val (pe_callB call_isiF (by rfl) (He.free_ok T.X T.G (T.t.d.fact 212 (f := .free "isinstance") rfl)) (by decide +kernel) (pa_cons (pv 5) (pa_cons (pe_bltn (v := .ty "bool") (by rfl) (He.free_ok T.X T.G (T.t.d.fact 215 (f := .free "bool") rfl)) (by decide +kernel) rfl) pa_nil))))))) (pss_one (ps_ret pe_bl)) pss_nil)
 (pss_cons (ps_set (i := 5) sc__law_right.nd rfl (Or.inl rfl) (pe_cU (gd__law_word T) (hr.mono (by decide)) (takes_of rfl rfl rfl rfl) rfl (He.glo_ok T.X T.G (T.t.d.fact 214 (f := .glo "_law_word") rfl)) (pa_cons pe_int (pa_cons (pv 1) (pa_cons (pv 2) (pa_cons (pv 3) pa_nil))))))
 (pss_cons (ps_if (pt_cmpR (op_neU hr.units) (pv 5) (pe_ix ix_list (pe_lst (pa_cons (pe_tup (pa_cons pe_int (pa_cons pe_int pa_nil))) (pa_cons pe_str pa_nil))) (pe_callTy call_int1 (by rfl) (He.free_ok T.X T.G (T.t.d.fact 13 (f := .free "int") rfl)) (by decide +kernel) (pa_cons (pe_not (pe_chain op_le op_le pe_int (pv 3) pe_int)) pa_nil)) (fun _ _ => rfl)) (nomark _)) (pss_one (ps_ret pe_bl)) pss_nil)
 (pss_cons (ps_set (i := 5) sc__law_right.nd rfl (Or.inl rfl) (pe_cU (gd__law_word T) (hr.mono (by decide)) (takes_of rfl rfl rfl rfl) rfl (He.glo_ok T.X T.G (T.t.d.fact 214 (f := .glo "_law_word") rfl)) (pa_cons pe_int (pa_cons (pv 1) (pa_cons (pv 2) (pa_cons (pv 3) pa_nil))))))
 (pss_cons (ps_if (pt_not (pt_chain op_le op_le pe_int (pv 2) pe_int)) (pss_one (ps_ret (pe_cmpR (op_eqU hr.units) (pv 5) pe_str (nomark _)))) pss_nil)
 (pss_one (ps_ret (pe_and (pe_callB call_isiF (by rfl) (He.free_ok T.X T.G (T.t.d.fact 212 (f := .free "isinstance") rfl)) (by decide +kernel) (pa_cons (pv 5) (pa_cons (pe_glob rfl (He.glo_ok T.X T.G (T.t.d.fact 211 (f := .glo "Paced") rfl)) (show RelV (.ref (He.ga K "Paced")) _ from rfl)) pa_nil))) (pe_one (pe_cU (gd__law_fresh T) (hr.mono (by decide)) (takes_of rfl rfl rfl rfl) rfl (He.glo_ok T.X T.G (T.t.d.fact 223 (f := .glo "_law_fresh") rfl)) (pa_cons (pv 5) pa_nil)))))))))))))))))
theorem gd__law_right (T : Tx P w K mg base) : Good P w K mg base 13 (He.fAd K (d__law_right).at_) ["cell"] (sp__law_right K) := by
  obtain ⟨fd, F⟩ := T.t.d.def_ 99 (d := d__law_right) rfl
  exact ⟨fd, ok__law_right T F⟩
theorem ok_law (T : Tx P w K mg base) {f : Addr} {fd : FuncData} (F : FunD K "law" "law" (defArgs s_law) (defBody s_law) (defScope s_law) [] [] f fd) : GoodF P w K mg base 14 f fd ["script"] (sp_law K) := by
  refine ⟨F.ok sc_law (fun vs H Q E h => h.1) (fun cdv A outer s H vs Q E hr h => ⟨t_law K E, ?_, h.2⟩), FunD.bindsN F fun _ _ _ _ _ _ us hl => match us, hl with | [_], _ => rfl, F.kp⟩
  have hu := hu_of hr
  have hdp := room_depth hr
  unfold t_law
  exact (pss_cons (ps_for (passes_of rfl) rfl (pi_list (pe_op op_catS (pe_listRg rfl (by rfl) (He.free_ok T.X T.G (T.t.d.fact 1 (f := .free "list") rfl)) (prg_1 (by rfl) (He.free_ok T.X T.G (T.t.d.fact 0 (f := .free "range") rfl)) pe_int)) (pv 0))) (pg_name (i := 1) sc_law.nd rfl (Or.inl rfl)) (pss_one (ps_if (pt_not (pt_val (pe_cU (gd__law_right T) (hr.mono (by decide)) (takes_of rfl rfl rfl rfl) rfl (He.glo_ok T.X T.G (T.t.d.fact 224 (f := .glo "_law_right") rfl)) (pa_cons (pv 1) pa_nil)))) (pss_one (ps_ret pe_bl)) pss_nil)))
 (pss_one (ps_ret pe_bl)))
theorem pf (T : Tx P w K mg base) : PF K where
  oex_BadText := (oexB_ok (T.exf 1 rfl))
  noat_BadText_row := (He.noat_ok (T.t.d.fact 20 (f := .noat "BadText" "row") rfl))
  excC_TooManyWords := (excCB_ok (T.exf 2 rfl))
  excC_RoundOn := (excCB_ok (T.exf 3 rfl))
  excC_NoRound := (excCB_ok (T.exf 4 rfl))
  excC_NoRoom := (excCB_ok (T.exf 5 rfl))
  excC_HeapError := (excCB_ok (T.exf 6 rfl))
  excC_BadView := (excCB_ok (T.exf 7 rfl))
  excC_BadText := (excCB_ok (T.exf 8 rfl))
  excC_BadName := (excCB_ok (T.exf 9 rfl))
  excC_BadHand := (excCB_ok (T.exf 10 rfl))
  excC_BadField := (excCB_ok (T.exf 11 rfl))
  excC_BadCount := (excCB_ok (T.exf 12 rfl))
  excC_BadAddress := (excCB_ok (T.exf 13 rfl))
  exm_HeapError_HeapError := (He.exm_ok (T.t.d.fact 138 (f := .exm "HeapError" "HeapError" true) rfl))
  exm_BadAddress_HeapError := (He.exm_ok (T.t.d.fact 139 (f := .exm "BadAddress" "HeapError" true) rfl))
  exm_BadCount_HeapError := (He.exm_ok (T.t.d.fact 140 (f := .exm "BadCount" "HeapError" true) rfl))
  exm_BadField_HeapError := (He.exm_ok (T.t.d.fact 141 (f := .exm "BadField" "HeapError" true) rfl))
  exm_BadHand_HeapError := (He.exm_ok (T.t.d.fact 142 (f := .exm "BadHand" "HeapError" true) rfl))
  exm_BadName_HeapError := (He.exm_ok (T.t.d.fact 143 (f := .exm "BadName" "HeapError" true) rfl))
  exm_BadText_HeapError := (He.exm_ok (T.t.d.fact 144 (f := .exm "BadText" "HeapError" true) rfl))
  exm_BadView_HeapError := (He.exm_ok (T.t.d.fact 145 (f := .exm "BadView" "HeapError" true) rfl))
  exm_NoRoom_HeapError := (He.exm_ok (T.t.d.fact 146 (f := .exm "NoRoom" "HeapError" true) rfl))
  exm_NoRound_HeapError := (He.exm_ok (T.t.d.fact 147 (f := .exm "NoRound" "HeapError" true) rfl))
  exm_RoundOn_HeapError := (He.exm_ok (T.t.d.fact 148 (f := .exm "RoundOn" "HeapError" true) rfl))
  exm_TooManyWords_HeapError := (He.exm_ok (T.t.d.fact 149 (f := .exm "TooManyWords" "HeapError" true) rfl))
  kit_BadCount_BadCount := (kitB_ok (T.exf 15 rfl))
  kit_BadCount_ValueError := (kitB_ok (T.exf 16 rfl))
  kit_BadCount_BadText := (kitB_ok (T.exf 17 rfl))
  kit_BadCount_BadHand := (kitB_ok (T.exf 18 rfl))
  kit_Paced_Paced := (kitB_ok (T.exf 19 rfl))
  insC_Paced := (insCB_ok (T.exf 20 rfl))
end
theorem holds_of (hp : ∀ (K : PySem.W.Frag), PF K → ∀ (H : Hp) (a : Addr) (ns : List Int), ns.length ≤ 63 → (∀ k ∈ ns, Builtin.Int.intBits k ≤ 1048576) → Only H → SqX K H a (ns.map V.int) → sp_law K [.ref a] H (fun v _ => v = .bl true) fun _ _ _ => False) :
    PySem.Challenge.rw_stillheap_k82_pace_refused.Holds := by
  w_on; o_law
  refine HandSHeadRun.head_any (r := PySem.W.OpenLaw.row PySem.Challenge.rw_stillheap_k82_pace_refused) (q := PySem.W.view (PySem.W.OpenLaw.row PySem.Challenge.rw_stillheap_k82_pace_refused).prog [108]) (H := hk) (ob := ob) (M := 100000) (loose := loose) (d := HandSHeadRun.topDef (PySem.W.OpenLaw.row PySem.Challenge.rw_stillheap_k82_pace_refused).prog 108) (kwd := []) ob_eq
    (by kernel_rfl) (fun s => by kernel_rfl) run (by kernel_rfl) (by kernel_rfl) (by kernel_rfl) (by rfl) (by first | assumption | decide +kernel) (by decide +kernel) ⟨rfl, rfl, rfl, rfl, rfl, by decide +kernel⟩ ?hw ?hc
  case hw => w_witness2
  case hc =>
    refine SX0.walk_ofX (l := PySem.Challenge.rw_stillheap_k82_pace_refused) (n := 63) (k := 14) (x := "script") rfl (by decide) (by kernel_rfl) ⟨rfl, by decide, by decide⟩ ?F
    intro w mg fa h Y G hmg0
    obtain ⟨K, KX, c⟩ := Y
    have hmg : mg ("law" : Str) = some (.ref fa) := by
      have e : (HandSHeadRun.topDef (PySem.W.OpenLaw.row PySem.Challenge.rw_stillheap_k82_pace_refused).prog 108).name = ("law" : Str) := by kernel_rfl
      rw [← e]
      exact hmg0
    have Tx0 : ∀ base : Heap, K.In base → base.Ns mainGlobals mg → Tx (PySem.Challenge.rw_stillheap_k82_pace_refused).prog w K mg base := fun base X G => ⟨X, G, c⟩
    have T := Tx0 h KX G
    obtain ⟨fd, F⟩ := T.t.d.def_ 100 (d := d_law) rfl
    have e := hmg.symm.trans (He.glo_ok T.X T.G (T.t.d.fact 225 (f := .glo "law") rfl))
    cases e
    have b := FunD.bindsA (ps := ["script"]) F fun _ _ _ _ _ _ us hl => match us, hl with | [_], _ => rfl
    refine ⟨K, fd, sp_law K, KX, fun s v => b s [v] rfl, fun H a ns h1 h2 h3 h4 => hp K (pf T) H a ns h1 h2 h3 h4, fun base hX hG => ?_⟩
    exact (ok_law (Tx0 base hX hG) F).1
end D_k82

set_option Elab.async false
set_option linter.all false
set_option maxRecDepth 100000
namespace SX0
open PySem PySem.Spec PyProof.Rows L2
/-! ### heaps that grow -/
theorem Same.new {H : Hp} {p : Addr} {o : HO} (h : H p = none) : Same H (upd H p o) := fun b u e => by
  rw [upd_ne (ne_of_none e h)]; exact e
theorem Same.put {H H' : Hp} {p : Addr} {o : HO} (s : Same H H') (h : H p = none) : Same H (upd H' p o) := fun b u e => by
  rw [upd_ne (ne_of_none e h)]; exact s b u e
theorem Same.rd {H H' : Hp} {a : Addr} {u : HO} (s : Same H H') (h : Rd H a u) : Rd H' a u := by
  rcases h with h | ⟨o, h⟩
  · exact .inl (s _ _ h)
  · exact .inr ⟨o, s _ _ h⟩
theorem Same.sqt {K : PySem.W.Frag} {H H' : Hp} {a : Addr} {xs : List V} (s : Same H H') (h : SqT K H a xs) : SqT K H' a xs := by
  rcases h with h | h
  · exact .inl (Same.rd s h)
  · exact .inr h
theorem Same.sql {K : PySem.W.Frag} {H H' : Hp} {a : Addr} {xs : List V} (s : Same H H') (h : SqL K H a xs) : SqL K H' a xs := by
  rcases h with h | h
  · exact .inl (Same.rd s h)
  · exact .inr h
theorem Same.dget {H H' : Hp} {a : Addr} {y : V} {r : Option V} (s : Same H H') (h : DGet H a y r) : DGet H' a y r := by
  rcases h with ⟨kvs, k, h, e⟩ | ⟨kvs, k, b, h, e1, e2, e3⟩
  · exact .inl ⟨kvs, k, Same.rd s h, e⟩
  · exact .inr ⟨kvs, k, b, Same.rd s h, e1, s _ _ e2, e3⟩
/-! ### readings, one step each -/
section
variable {K : PySem.W.Frag} {σ : L2.St} {H : Hp} {Q : VK} {D : Ends} {ta tb tc te to ti td ty tv : TE} {t u : TS} {c d : TT} {i j : Nat} {v w : V} {QB : Bool → Hp → Prop} {QL : List V → Hp → Prop} {tas : TA}
theorem x_seq (h : t { D with nx := u D } σ H) : tSeq t u D σ H := h
theorem x_next (h : D.nx σ H) : tNext D σ H := h
theorem x_asgN (h : te σ H fun x H1 => D.nx (σ.set i (some x)) H1) : tAsg te (gName i) D σ H := h
theorem x_asgS {ts : TSet} (h : te σ H fun x H1 => to σ H1 fun o H2 => ti σ H2 fun i H3 => ts o i x H3 fun H4 => D.nx σ H4) : tAsg te (gSub to ti ts) D σ H := h
theorem x_ret (h : te σ H D.rt) : tRet te D σ H := h
theorem x_retN (h : D.rt .non H) : tRetN D σ H := h
theorem x_drop (h : te σ H fun _ H1 => D.nx σ H1) : tDrop te D σ H := h
theorem x_ifS (h : c σ H fun b H1 => if b = true then t D σ H1 else u D σ H1) : tIfS c t u D σ H := h
theorem x_rz {C : Addr} {W : WX} (h : W (.ref C) none σ H) : tRz C W D σ H := h
theorem x_var (e : σ[i]? = some (some v)) (h : Q v H) : tVar i σ H Q := ⟨v, e, h⟩
theorem x_c (h : Q v H) : tC v σ H Q := h
theorem x_op {r : R2} (h : ta σ H fun x H1 => tb σ H1 fun y H2 => r x y H2 Q) : tOp r ta tb σ H Q := h
theorem x_un {r : V → Hp → VK → Prop} (h : ta σ H fun x H1 => r x H1 Q) : tUn r ta σ H Q := h
theorem x_rI0 {g : Int → Int → V} {a b : Int} (h : Q (g a b) H) : rI0 g (.int a) (.int b) H Q := ⟨a, b, rfl, rfl, h⟩
theorem x_rI {C : Int → Int → Prop} {g : Int → Int → V} {a b : Int} (hc : C a b) (h : Q (g a b) H) : rI C g (.int a) (.int b) H Q := ⟨a, b, rfl, rfl, hc, h⟩
theorem x_neg {g : Int → V} {a : Int} (h : Q (g a) H) : rU g (.int a) H Q := ⟨a, rfl, h⟩
theorem x_rEq (e : scal v w = true) (h : Q (.bl (decide (v = w))) H) : rEq v w H Q := ⟨e, h⟩
theorem x_rNe (e : scal v w = true) (h : Q (.bl (!decide (v = w))) H) : rNe v w H Q := ⟨e, h⟩
theorem x_isN (h : Q (.bl (decide (v = .non))) H) : oIsN v .non H Q := ⟨rfl, h⟩
theorem x_notN (h : Q (.bl (!decide (v = .non))) H) : oNotN v .non H Q := ⟨rfl, h⟩
theorem x_test (h : te σ H fun x H' => ∃ k, x = .bl k ∧ QB k H') : tTest te σ H QB := h
theorem x_tB (h : te σ H fun x H' => ∃ k, x = .bl k ∧ QB k H') : tB te σ H QB := h
theorem x_bl {b : Bool} {P : Bool → Prop} (h : P b) : ∃ k, V.bl b = .bl k ∧ P k := ⟨b, rfl, h⟩
theorem x_and (h : c σ H fun b H1 => if b = true then d σ H1 QB else QB false H1) : tAnd c d σ H QB := h
theorem x_or (h : c σ H fun b H1 => if b = true then QB true H1 else d σ H1 QB) : tOr c d σ H QB := h
theorem x_not (h : c σ H fun b H1 => QB (!b) H1) : tNot c σ H QB := h
theorem x_andV (h : ta σ H fun x H1 => ∃ b, x = .bl b ∧ if b = true then tb σ H1 Q else Q (.bl false) H1) : tAndV ta tb σ H Q := h
theorem x_orV (h : ta σ H fun x H1 => ∃ b, x = .bl b ∧ if b = true then Q (.bl true) H1 else tb σ H1 Q) : tOrV ta tb σ H Q := h
theorem x_notV (h : ta σ H fun x H1 => ∃ b, x = .bl b ∧ Q (.bl (!b)) H1) : tNotV ta σ H Q := h
theorem x_ifE (h : c σ H fun b H1 => if b = true then ta σ H1 Q else tb σ H1 Q) : tIf c ta tb σ H Q := h
theorem x_chain {r r' : R2} (h : ta σ H fun x H1 => tb σ H1 fun y H2 => r x y H2 fun z H3 => ∃ k, z = .bl k ∧ (if k = true then tc σ H3 fun w' H4 => r' y w' H4 Q else Q (.bl false) H3)) : tChain r r' ta tb tc σ H Q := h
theorem x_nil (h : QL [] H) : tNil σ H QL := h
theorem x_cons (h : ta σ H fun x H1 => tas σ H1 fun xs H2 => QL (x :: xs) H2) : tCons ta tas σ H QL := h
theorem x_cb {r : List V → Hp → VK → Prop} (h : tas σ H fun vs H1 => r vs H1 Q) : tCB r tas σ H Q := h
theorem x_callS {sp : Sp} {E : L2.St → XK} (h : tas σ H fun vs H1 => sp vs H1 Q (E σ)) : tCallS sp E tas σ H Q := h
theorem x_lst (h : tas σ H fun xs H1 => xs.length ≤ sizeLine ∧ ∀ p, H1 p = none → Q (.ref p) (upd H1 p (.lst xs))) : tLst tas σ H Q := h
theorem x_tup (h : tas σ H fun xs H1 => xs.length ≤ sizeLine ∧ ∀ p, H1 p = none → Q (.ref p) (upd H1 p (.tup xs))) : tTup tas σ H Q := h
theorem x_dnewK (h : ∀ p, H p = none → Q (.ref p) (upd H p (.dK []))) : tDNewK σ H Q := h
theorem x_dnewT (h : ∀ p, H p = none → Q (.ref p) (upd H p (.dT []))) : tDNewT σ H Q := h
def gDGet (x y : V) (H : Hp) (Q : VK) : Prop := ∃ a v, x = .ref a ∧ DGet H a y (some v) ∧ Q v H
def gDIn (x y : V) (H : Hp) (Q : VK) : Prop := ∃ a o, x = .ref a ∧ DGet H a y o ∧ Q (.bl o.isSome) H
def gDNotIn (x y : V) (H : Hp) (Q : VK) : Prop := ∃ a o, x = .ref a ∧ DGet H a y o ∧ Q (.bl (!o.isSome)) H
def gDPut (x y v : V) (H : Hp) (P : Hp → Prop) : Prop := ∃ a H4, x = .ref a ∧ DPut H a y v H4 ∧ P H4
theorem x_dget (h : td σ H fun x H1 => ty σ H1 fun y H2 => gDGet x y H2 Q) : tDGet td ty σ H Q := h
theorem x_din (h : ty σ H fun y H1 => td σ H1 fun x H2 => gDIn x y H2 Q) : tDIn ty td σ H Q := h
theorem x_dnotin (h : ty σ H fun y H1 => td σ H1 fun x H2 => gDNotIn x y H2 Q) : tDNotIn ty td σ H Q := h
theorem x_dput (h : tv σ H fun v H1 => td σ H1 fun x H2 => ty σ H2 fun y H3 => gDPut x y v H3 (D.nx σ)) : sDPut td ty tv D σ H := h
theorem x_dgetK {a : Addr} {kvs : List (Key × V)} {y : Int} (e : Rd H a (.dK kvs)) (ev : valV kvs (Sum.inl y : Key) = some v) (h : Q v H) : gDGet (.ref a) (.int y) H Q := ⟨a, v, rfl, .inl ⟨kvs, Sum.inl y, e, rfl, ev.symm⟩, h⟩
theorem x_dinK {a : Addr} {kvs : List (Key × V)} {y : Int} (e : Rd H a (.dK kvs)) (h : Q (.bl (valV kvs (Sum.inl y : Key)).isSome) H) : gDIn (.ref a) (.int y) H Q := ⟨a, _, rfl, .inl ⟨kvs, Sum.inl y, e, rfl, rfl⟩, h⟩
theorem x_dnotinK {a : Addr} {kvs : List (Key × V)} {y : Int} (e : Rd H a (.dK kvs)) (h : Q (.bl (!(valV kvs (Sum.inl y : Key)).isSome)) H) : gDNotIn (.ref a) (.int y) H Q := ⟨a, _, rfl, .inl ⟨kvs, Sum.inl y, e, rfl, rfl⟩, h⟩
theorem x_dputK {a : Addr} {kvs : List (Key × V)} {y : Int} {P : Hp → Prop} (e : H a = some (.dK kvs)) (hl : kvs.length < sizeLine) (h : P (upd H a (.dK (putK kvs (Sum.inl y) v)))) : gDPut (.ref a) (.int y) v H P := ⟨a, _, rfl, .inl ⟨kvs, Sum.inl y, e, rfl, hl, rfl⟩, h⟩
theorem x_ixL {p : Addr} {xs : List V} {n : Int} (e : SqL K H p xs) (ev : atI xs n = some v) (h : Q v H) : rIxL K (.ref p) (.int n) H Q := ⟨p, xs, n, v, rfl, rfl, e, ev, h⟩
theorem x_ixT {p : Addr} {xs : List V} {n : Int} (e : SqT K H p xs) (ev : atI xs n = some v) (h : Q v H) : rIxT K (.ref p) (.int n) H Q := ⟨p, xs, n, v, rfl, rfl, e, ev, h⟩
theorem x_lenL {p : Addr} {xs : List V} (e : SqL K H p xs) (h : Q (.int xs.length) H) : cLenSeq K [.ref p] H Q := ⟨p, xs, rfl, .inl e, h⟩
theorem x_lenT {p : Addr} {xs : List V} (e : SqT K H p xs) (h : Q (.int xs.length) H) : cLenSeq K [.ref p] H Q := ⟨p, xs, rfl, .inr e, h⟩
theorem x_bm {T : String} {r : V → List V → Hp → VK → Prop} (h : to σ H fun x H1 => tyV K T x H1 ∧ tas σ H1 fun xs H2 => r x xs H2 Q) : tBM K T r to tas σ H Q := h
theorem x_bm0 {T : String} {r : V → List V → Hp → VK → Prop} (h : to σ H fun x H1 => tyV K T x H1 ∧ r x [] H1 Q) : tBM0 K T r to σ H Q := h
theorem x_tyL {p : Addr} {xs : List V} (e : H p = some (.lst xs)) : tyV K "list" (.ref p) H := Or.inl ⟨rfl, _, SqL.of e⟩
theorem x_append {p : Addr} {xs : List V} (e : H p = some (.lst xs)) (hl : xs.length < sizeLine) (h : Q .non (upd H p (.lst (xs ++ [v])))) : rAppend (.ref p) [v] H Q := ⟨p, xs, v, rfl, rfl, e, hl, h⟩
theorem x_extend {p b : Addr} {xs zs : List V} (e : H p = some (.lst xs)) (e2 : H b = some (.lst zs)) (hl : xs.length + zs.length ≤ sizeLine) (h : Q .non (upd H p (.lst (xs ++ zs)))) : rExtend (.ref p) [.ref b] H Q := ⟨p, b, xs, zs, rfl, rfl, e, e2, hl, h⟩
theorem x_cat {p b : Addr} {xs zs : List V} (e : SqX K H p xs) (e2 : SqX K H b zs) (hl : xs.length + zs.length ≤ sizeLine) (h : ∀ q, H q = none → Q (.ref q) (upd H q (.lst (xs ++ zs)))) : rCatS K (.ref p) (.ref b) H Q := ⟨p, b, xs, zs, rfl, rfl, e, e2, hl, h⟩
theorem x_tru (h : ta σ H fun x H' => ∃ k, TruV K x H' k ∧ QB k H') : tTru K ta σ H QB := h
theorem x_truL {p : Addr} {xs : List V} {P : Bool → Prop} (e : SqL K H p xs) (h : P (!xs.isEmpty)) : ∃ k, TruV K (.ref p) H k ∧ P k := ⟨_, .inl ⟨xs, e, rfl⟩, h⟩
theorem x_yes (h : QB true H) : tYes σ H QB := h
theorem x_int1 {n : Int} (h : Q (.int n) H) : cInt1 [.int n] H Q := .inl ⟨n, rfl, h⟩
theorem x_intB {b : Bool} (h : Q (.int (if b then 1 else 0)) H) : cInt1 [.bl b] H Q := .inr ⟨b, rfl, h⟩
theorem x_sl {r : V → Option Int → Option Int → Hp → VK → Prop} {tl th : TO} (h : te σ H fun x H1 => tl σ H1 fun l H2 => th σ H2 fun u H3 => r x l u H3 Q) : tSl r te tl th σ H Q := h
theorem x_lcdummy : True := True.intro
theorem x_slL {p : Addr} {xs : List V} {lo hi : Option Int} (e : SqL K H p xs) (h : ∀ q, H q = none → Q (.ref q) (upd H q (.lst (cutV xs lo hi)))) : rSlL K (.ref p) lo hi H Q := ⟨p, xs, rfl, e, h⟩
theorem x_part {QO : Option Int → Hp → Prop} (h : te σ H fun x H1 => ∃ i, x = .int i ∧ QO (some i) H1) : tPart te σ H QO := h
theorem x_partI {n : Int} {P : Int → Prop} (h : P n) : ∃ i, V.int n = .int i ∧ P i := ⟨n, rfl, h⟩
theorem x_nopart {QO : Option Int → Hp → Prop} (h : QO none H) : tNoPart σ H QO := h
theorem x_asgT {n : Nat} {g : TGs} (h : te σ H fun x H1 => ∃ a xs, x = .ref a ∧ SqT K H1 a xs ∧ xs.length = n ∧ g xs σ H1 D.nx) : tAsg te (gTup K n g) D σ H := h
theorem x_unpack {n : Nat} {p : Addr} {xs : List V} {P : List V → Prop} (e : SqT K H p xs) (hn : xs.length = n) (h : P xs) : ∃ a ys, V.ref p = .ref a ∧ SqT K H a ys ∧ ys.length = n ∧ P ys := ⟨p, xs, rfl, e, hn, h⟩
theorem x_gnil {QS : L2.St → Hp → Prop} (h : QS σ H) : gNil [] σ H QS := ⟨rfl, h⟩
theorem x_gcons {QS : L2.St → Hp → Prop} {g : TGs} {vs : List V} (h : g vs (σ.set i (some v)) H QS) : gCons (gName i) g (v :: vs) σ H QS := ⟨v, vs, rfl, h⟩
theorem x_setL {p : Addr} {xs : List V} {n : Int} {j : Nat} {P : Hp → Prop} (e : H p = some (.lst xs)) (hj : ixN xs.length n = some j) (h : P (upd H p (.lst (xs.set j v)))) : rSetL (.ref p) (.int n) v H P := ⟨p, xs, n, j, rfl, rfl, e, hj, h⟩
def LoopG (J : It) (g : TG) (tb : TS) (D : Ends) (σ : L2.St) (H : Hp) : Prop := ∃ W : Nat → Nat → L2.St → Hp → Prop, (∃ m, W 0 m σ H) ∧ ∀ i m σ H, W i m σ H →
  (J.stop i H ∧ D.nx σ H) ∨ (J.go i H ∧ ∃ N : L2.St → Hp → Prop, (∀ σ' H', N σ' H' → ∃ m', m' < m ∧ W (i + 1) m' σ' H') ∧ ∀ x H', J.yld i H x H' → g x σ H' fun σ2 H2 => tb { D with nx := N, ct := N, bk := D.nx } σ2 H2)
theorem x_for {wi : TI} {g : TG} {tb : TS} (h : wi σ H fun J H1 => LoopG J g tb D σ H1) : tFor wi g tb D σ H := h
def LcG (J : It) (g : TG) (tt : TT) (te : TE) (vs : List Nat) (σ : L2.St) (H : Hp) (Q : VK) : Prop := ∀ D, H D = none → ∃ W : Nat → Nat → Hp → Prop, (∃ m, W 0 m (upd H D (.lst []))) ∧ ∀ i m H, W i m H →
  (J.stop i H ∧ Q (.ref D) H) ∨ (J.go i H ∧ ∃ Nx : Hp → Prop, (∀ H', Nx H' → ∃ m', m' < m ∧ W (i + 1) m' H') ∧ ∀ x H', J.yld i H x H' → g x (wipe σ vs) H' fun σ2 H2 => wipe σ2 vs = wipe σ vs ∧ tt σ2 H2 fun b H3 =>
    if b = true then te σ2 H3 fun y H4 => ∃ acc, H4 D = some (.lst acc) ∧ acc.length < sizeLine ∧ Nx (upd H4 D (.lst (acc ++ [y]))) else Nx H3)
theorem x_lc {wi : TI} {g : TG} {tt : TT} {vs : List Nat} (h : wi σ H fun J H1 => LcG J g tt te vs σ H1 Q) : tLc wi g tt te vs σ H Q := h
variable {R : It → Hp → Prop}
def gList (K : PySem.W.Frag) (x : V) (H : Hp) (R : It → Hp → Prop) : Prop := ∃ a, x = .ref a ∧ (∃ xs, SqL K H a xs) ∧ R (Itl K a) H
theorem x_iList {tl : TE} (h : tl σ H fun x H1 => gList K x H1 R) : iList K tl σ H R := h
theorem x_gList {p : Addr} {xs : List V} (e : SqL K H p xs) (h : R (Itl K p) H) : gList K (.ref p) H R := ⟨p, rfl, ⟨xs, e⟩, h⟩
def gEnum (K : PySem.W.Frag) (vs : List V) (H : Hp) (R : It → Hp → Prop) : Prop := ∃ a xs, vs = [.ref a] ∧ SqL K H a xs ∧ R (Ite K a) H
theorem x_iEnum (h : tas σ H fun vs H1 => gEnum K vs H1 R) : iEnum K tas σ H R := h
theorem x_gEnum {p : Addr} {xs : List V} (e : SqL K H p xs) (h : R (Ite K p) H) : gEnum K [.ref p] H R := ⟨p, xs, rfl, e, h⟩
def gRng1 (vs : List V) (H : Hp) (R : It → Hp → Prop) : Prop := ∃ j : Int, vs = [.int j] ∧ -(2 ^ 62) ≤ j ∧ j < 2 ^ 62 ∧ R (Itr 0 j.toNat) H
theorem x_iRng1 (h : tas σ H fun vs H1 => gRng1 vs H1 R) : iRng1 tas σ H R := h
theorem x_gRng1 {j : Int} (h1 : -(2 ^ 62) ≤ j) (h2 : j < 2 ^ 62) (h : R (Itr 0 j.toNat) H) : gRng1 [.int j] H R := ⟨j, rfl, h1, h2, h⟩
def gRng2 (vs : List V) (H : Hp) (R : It → Hp → Prop) : Prop := ∃ i j : Int, vs = [.int i, .int j] ∧ (-(2 ^ 62) ≤ i ∧ i < 2 ^ 62 ∧ -(2 ^ 62) ≤ j ∧ j < 2 ^ 62) ∧ R (Itr i (j - i).toNat) H
theorem x_iRng2 (h : tas σ H fun vs H1 => gRng2 vs H1 R) : iRng2 tas σ H R := h
theorem x_gRng2 {i j : Int} (hb : -(2 ^ 62) ≤ i ∧ i < 2 ^ 62 ∧ -(2 ^ 62) ≤ j ∧ j < 2 ^ 62) (h : R (Itr i (j - i).toNat) H) : gRng2 [.int i, .int j] H R := ⟨i, j, rfl, hb, h⟩
def gKeys (x : V) (H : Hp) (R : It → Hp → Prop) : Prop := ∃ d o, x = .ref d ∧ ((∃ kvs, H d = some (.frz o (.dK kvs)) ∧ R (Itk d o kvs) H) ∨ ∃ kvs, H d = some (.frz o (.dT kvs)) ∧ R (Itkt d o kvs) H)
theorem x_iKeys (h : td σ H fun x H1 => gKeys x H1 R) : iKeys td σ H R := h
theorem x_gKeys {d : Addr} {o : Obj} {kvs : List (Key × V)} (e : H d = some (.frz o (.dK kvs))) (h : R (Itk d o kvs) H) : gKeys (.ref d) H R := ⟨d, o, rfl, .inl ⟨kvs, e, h⟩⟩
theorem x_iStr {z : Str} (h : R (Its z) H) : ∃ x, V.str z = .str x ∧ R (Its x) H := ⟨z, rfl, h⟩
/-! ### locks -/
theorem x_lock {t : TS} {d : Addr} {kvs : List (Key × V)} (hd : H d = some (.dK kvs)) (h : ∀ od, t ⟨fun σ' H' => H' d = some (.frz od (.dK kvs)) ∧ D.nx σ' (upd H' d (.dK kvs)), fun v H' => H' d = some (.frz od (.dK kvs)) ∧ D.rt v (upd H' d (.dK kvs)),
    fun σ' H' => H' d = some (.frz od (.dK kvs)) ∧ D.bk σ' (upd H' d (.dK kvs)), fun σ' H' => H' d = some (.frz od (.dK kvs)) ∧ D.ct σ' (upd H' d (.dK kvs))⟩ σ (upd H d (.frz od (.dK kvs)))) : tLock t D σ H := ⟨d, _, hd, True.intro, h⟩
theorem x_lockE {d : Addr} {kvs : List (Key × V)} (hd : H d = some (.dK kvs)) (h : ∀ od, te σ (upd H d (.frz od (.dK kvs))) fun v H' => H' d = some (.frz od (.dK kvs)) ∧ Q v (upd H' d (.dK kvs))) : tLockE te σ H Q := ⟨d, _, hd, True.intro, h⟩
theorem lock_rd {d a : Addr} {od : Obj} {kvs : List (Key × V)} {u : HO} (hd : H d = some (.dK kvs)) (hu : ∀ o z, u ≠ .frz o z) (h : Rd H a u) : Rd (upd H d (.frz od (.dK kvs))) a u := by
  by_cases e : a = d
  · subst e
    rcases h with h | ⟨o, h⟩
    · rw [hd] at h; cases h
      exact .inr ⟨od, upd_same⟩
    · rw [hd] at h; cases h
  · rcases h with h | ⟨o, h⟩
    · exact .inl (by rw [upd_ne e]; exact h)
    · exact .inr ⟨o, by rw [upd_ne e]; exact h⟩
theorem lock_sql {d a : Addr} {od : Obj} {kvs : List (Key × V)} {xs : List V} (hd : H d = some (.dK kvs)) (h : SqL K H a xs) : SqL K (upd H d (.frz od (.dK kvs))) a xs := by
  rcases h with h | h
  · exact .inl (lock_rd hd (fun _ _ => by intro z; cases z) h)
  · exact .inr h
theorem lock_sqt {d a : Addr} {od : Obj} {kvs : List (Key × V)} {xs : List V} (hd : H d = some (.dK kvs)) (h : SqT K H a xs) : SqT K (upd H d (.frz od (.dK kvs))) a xs := by
  rcases h with h | h
  · exact .inl (lock_rd hd (fun _ _ => by intro z; cases z) h)
  · exact .inr h
theorem unlock_same {d : Addr} {od : Obj} {kvs : List (Key × V)} {H2 : Hp} (hd : H d = some (.dK kvs)) (s : Same (upd H d (.frz od (.dK kvs))) H2) : Same H (upd H2 d (.dK kvs)) := fun b o e => by
  by_cases h : b = d
  · subst h
    rw [hd] at e; cases e
    exact upd_same
  · rw [upd_ne h]
    exact s b o (by rw [upd_ne h]; exact e)
theorem lock_at {d : Addr} {od : Obj} {kvs : List (Key × V)} {H2 : Hp} (s : Same (upd H d (.frz od (.dK kvs))) H2) : H2 d = some (.frz od (.dK kvs)) := s _ _ upd_same
/-- a new thing of the locked heap is new for the other one -/
theorem lock_new {d p : Addr} {od : Obj} {kvs : List (Key × V)} (hd : H d = some (.dK kvs)) (h : upd H d (.frz od (.dK kvs)) p = none) : H p = none := by
  have n : p ≠ d := fun z => by rw [z, upd_same] at h; cases h
  rw [upd_ne n] at h; exact h
/-- what could be read can be read -/
def Le (H H' : Hp) : Prop := ∀ a u, (∀ o z, u ≠ .frz o z) → Rd H a u → Rd H' a u
theorem Le.refl (H : Hp) : Le H H := fun _ _ _ h => h
theorem Le.trans {H1 H2 H3 : Hp} (a : Le H1 H2) (b : Le H2 H3) : Le H1 H3 := fun c u hu h => b c u hu (a c u hu h)
theorem Same.le {H H' : Hp} (s : Same H H') : Le H H' := fun _ _ _ h => Same.rd s h
theorem Le.sql {H H' : Hp} {a : Addr} {xs : List V} (s : Le H H') (h : SqL K H a xs) : SqL K H' a xs := by
  rcases h with h | h
  · exact .inl (s _ _ (fun _ _ z => by cases z) h)
  · exact .inr h
theorem Le.sqt {H H' : Hp} {a : Addr} {xs : List V} (s : Le H H') (h : SqT K H a xs) : SqT K H' a xs := by
  rcases h with h | h
  · exact .inl (s _ _ (fun _ _ z => by cases z) h)
  · exact .inr h
theorem Le.dk {H H' : Hp} {a : Addr} {kvs : List (Key × V)} (s : Le H H') (h : Rd H a (.dK kvs)) : Rd H' a (.dK kvs) := s _ _ (fun _ _ z => by cases z) h
theorem Le.put {H H' : Hp} {D : Addr} {o : HO} (s : Le H H') (h : H D = none) : Le H (upd H' D o) := fun a u hu e => by
  have ne : a ≠ D := by
    rcases e with e | ⟨_, e⟩
    · exact ne_of_none e h
    · exact ne_of_none e h
  rcases s a u hu e with q | ⟨x, q⟩
  · exact .inl (by rw [upd_ne ne]; exact q)
  · exact .inr ⟨x, by rw [upd_ne ne]; exact q⟩
theorem upd_swap {H : Hp} {a b : Addr} {o u : HO} (h : a ≠ b) : upd (upd H a o) b u = upd (upd H b u) a o := by
  funext c
  by_cases e : c = a
  · subst e; rw [upd_ne h, upd_same, upd_same]
  · rw [upd_ne e]
    by_cases e2 : c = b
    · subst e2; rw [upd_same, upd_same]
    · rw [upd_ne e2, upd_ne e2, upd_ne e]
theorem upd_own {H : Hp} {a : Addr} {o : HO} (h : H a = some o) : upd H a o = H := by
  funext c
  by_cases e : c = a
  · subst e; rw [upd_same, h]
  · rw [upd_ne e]
/-- the same, some dicts frozen -/
def Lf (H H' : Hp) : Prop := ∀ a o, H a = some o → H' a = some o ∨ ∃ od kvs, o = .dK kvs ∧ H' a = some (.frz od (.dK kvs))
theorem Lf.refl (H : Hp) : Lf H H := fun _ _ e => .inl e
theorem Same.lf {H H' : Hp} (s : Same H H') : Lf H H' := fun a o e => .inl (s a o e)
theorem Lf.trans {H1 H2 H3 : Hp} (a : Lf H1 H2) (b : Lf H2 H3) : Lf H1 H3 := fun c o e => by
  rcases a c o e with q | ⟨od, kvs, rfl, q⟩
  · exact b c o q
  · rcases b c _ q with r | ⟨_, _, r, _⟩
    · exact .inr ⟨od, kvs, rfl, r⟩
    · cases r
theorem Lf.le {H H' : Hp} (s : Lf H H') : Le H H' := fun a u hu h => by
  rcases h with h | ⟨o, h⟩
  · rcases s a _ h with q | ⟨od, kvs, rfl, q⟩
    · exact .inl q
    · exact .inr ⟨od, q⟩
  · rcases s a _ h with q | ⟨od, kvs, e, q⟩
    · exact .inr ⟨o, q⟩
    · cases e
theorem Lf.lst {H H' : Hp} {a : Addr} {xs : List V} (s : Lf H H') (h : H a = some (.lst xs)) : H' a = some (.lst xs) := by
  rcases s a _ h with q | ⟨od, kvs, e, q⟩
  · exact q
  · cases e
theorem Lf.tup {H H' : Hp} {a : Addr} {xs : List V} (s : Lf H H') (h : H a = some (.tup xs)) : H' a = some (.tup xs) := by
  rcases s a _ h with q | ⟨od, kvs, e, q⟩
  · exact q
  · cases e
theorem Lf.put {H H' : Hp} {D : Addr} {o : HO} (s : Lf H H') (h : H D = none) : Lf H (upd H' D o) := fun a u e => by
  rw [upd_ne (ne_of_none e h)]
  exact s a u e
theorem Lf.lock {H : Hp} {d : Addr} {od : Obj} {kvs : List (Key × V)} (hd : H d = some (.dK kvs)) : Lf H (upd H d (.frz od (.dK kvs))) := fun a o e => by
  by_cases h : a = d
  · subst h
    rw [hd] at e; cases e
    exact .inr ⟨od, kvs, rfl, upd_same⟩
  · exact .inl (by rw [upd_ne h]; exact e)
theorem Lf.free {H H' : Hp} {a : Addr} (s : Lf H H') (h : H' a = none) : H a = none := by
  cases e : H a with
  | none => rfl
  | some o =>
    rcases s a o e with q | ⟨_, _, _, q⟩ <;> rw [h] at q <;> cases q
/-- within the walk over the dict at d -/
structure Lk (H : Hp) (d : Addr) (kvs : List (Key × V)) (od : Obj) (H1 : Hp) (U : Hp → Hp) : Prop where
  at_ : H1 d = some (.frz od (.dK kvs))
  le : Le H H1
  lf : Lf H H1
  new : ∀ p, H1 p = none → H p = none
  back : ∀ H2, Same H1 H2 → Same H (U H2)
  else_ : ∀ H2 p, p ≠ d → U H2 p = H2 p
  comm : ∀ H2 q o, q ≠ d → U (upd H2 q o) = upd (U H2) q o
theorem Lk.lock {d : Addr} {kvs : List (Key × V)} {od : Obj} (hd : H d = some (.dK kvs)) : Lk H d kvs od (upd H d (.frz od (.dK kvs))) fun H2 => upd H2 d (.dK kvs) :=
  ⟨upd_same, fun a u hu h => lock_rd hd hu h, Lf.lock hd, fun p h => lock_new hd h, fun H2 s => unlock_same hd s, fun H2 p h => upd_ne h, fun H2 q o h => upd_swap h⟩
theorem Lk.none {d : Addr} {kvs : List (Key × V)} {od : Obj} (hd : H d = some (.frz od (.dK kvs))) : Lk H d kvs od H fun H2 => H2 := ⟨hd, Le.refl _, Lf.refl _, fun _ h => h, fun _ s => s, fun _ _ _ => rfl, fun _ _ _ _ => rfl⟩
theorem x_lock2 {t : TS} {d : Addr} {kvs : List (Key × V)} (hd : Rd H d (.dK kvs)) (h : ∀ od H1 U, Lk H d kvs od H1 U → t ⟨fun σ' H' => H' d = some (.frz od (.dK kvs)) ∧ D.nx σ' (U H'), fun v H' => H' d = some (.frz od (.dK kvs)) ∧ D.rt v (U H'),
    fun σ' H' => H' d = some (.frz od (.dK kvs)) ∧ D.bk σ' (U H'), fun σ' H' => H' d = some (.frz od (.dK kvs)) ∧ D.ct σ' (U H')⟩ σ H1) : tLock2 t D σ H := by
  rcases hd with hd | ⟨od, hd⟩
  · exact .inl (x_lock hd fun od => h od _ _ (Lk.lock hd))
  · exact .inr ⟨d, od, _, hd, h od _ _ (Lk.none hd)⟩
theorem x_lockE2 {d : Addr} {kvs : List (Key × V)} (hd : Rd H d (.dK kvs)) (h : ∀ od H1 U, Lk H d kvs od H1 U → te σ H1 fun v H' => H' d = some (.frz od (.dK kvs)) ∧ Q v (U H')) : tLockE2 te σ H Q := by
  rcases hd with hd | ⟨od, hd⟩
  · exact .inl (x_lockE hd fun od => h od _ _ (Lk.lock hd))
  · exact .inr ⟨d, od, _, hd, h od _ _ (Lk.none hd)⟩
/-! ### loops -/
theorem L_list {p : Addr} {xs : List V} {g : TG} {tb : TS} (Pv : Nat → L2.St → Hp → Prop) (h0 : Pv 0 σ H) (hl : ∀ i σ H, i ≤ xs.length → Pv i σ H → SqL K H p xs)
    (hs : ∀ i x σ H, xs[i]? = some x → Pv i σ H → g x σ H fun σ2 H2 => tb { D with nx := Pv (i + 1), ct := Pv (i + 1), bk := D.nx } σ2 H2) (hd : ∀ σ H, Pv xs.length σ H → D.nx σ H) : LoopG (Itl K p) g tb D σ H := for_list Pv h0 hl hs hd
theorem L_range {lo : Int} {n : Nat} {g : TG} {tb : TS} (Pv : Nat → L2.St → Hp → Prop) (h0 : Pv 0 σ H)
    (hs : ∀ i σ H, i < n → Pv i σ H → g (.int (lo + i)) σ H fun σ2 H2 => tb { D with nx := Pv (i + 1), ct := Pv (i + 1), bk := D.nx } σ2 H2) (hd : ∀ σ H, Pv n σ H → D.nx σ H) : LoopG (Itr lo n) g tb D σ H := for_range Pv h0 hs hd
theorem L_enum {p : Addr} {xs : List V} {a b : Nat} {tb : TS} (Pv : Nat → L2.St → Hp → Prop) (h0 : Pv 0 σ H) (hl : ∀ i σ H, i ≤ xs.length → Pv i σ H → SqL K H p xs)
    (hs : ∀ i x T σ H, xs[i]? = some x → Pv i σ H → H T = none → tb { D with nx := Pv (i + 1), ct := Pv (i + 1), bk := D.nx } ((σ.set a (some (.int (i : Nat)))).set b (some x)) (upd H T (.tup [.int (i : Nat), x]))) (hd : ∀ σ H, Pv xs.length σ H → D.nx σ H) :
    LoopG (Ite K p) (gTup K 2 (gCons (gName a) (gCons (gName b) gNil))) tb D σ H := by
  refine for_it (walk_enum (K := K) (a := p) (xs := xs)) Pv h0 hl (fun i v σ H H' hi p' y => ?_) hd
  obtain ⟨T, x, y, rfl, hT, rfl, e1, e2⟩ := y
  cases e1
  exact ⟨T, _, rfl, SqT.of upd_same, rfl, _, _, rfl, _, _, rfl, rfl, hs i y T σ H e2 p' hT⟩
theorem L_keys {d : Addr} {o : Obj} {kvs : List (Key × V)} {g : TG} {tb : TS} (Pv : Nat → L2.St → Hp → Prop) (h0 : Pv 0 σ H) (hl : ∀ i σ H, i ≤ kvs.length → Pv i σ H → H d = some (.frz o (.dK kvs)))
    (hs : ∀ i k v σ H, kvs[i]? = some (k, v) → Pv i σ H → g (kV k) σ H fun σ2 H2 => tb { D with nx := Pv (i + 1), ct := Pv (i + 1), bk := D.nx } σ2 H2) (hd : ∀ σ H, Pv kvs.length σ H → D.nx σ H) : LoopG (Itk d o kvs) g tb D σ H := by
  refine for_it (walk_keys (d := d) (o := o) (kvs := kvs)) Pv h0 hl (fun i v σ H H' hi p' y => ?_) hd
  obtain ⟨rfl, k, v, e, rfl⟩ := y
  exact hs i k v σ H' e p'
/-- a while loop: the invariant by what is left -/
theorem L_while {tb : TS} (Pv : Nat → L2.St → Hp → Prop) (m : Nat) (h0 : Pv m σ H)
    (hs : ∀ m σ H, Pv m σ H → c σ H fun b H1 => if b = true then ∃ N : L2.St → Hp → Prop, (∀ σ' H', N σ' H' → ∃ m', m' < m ∧ Pv m' σ' H') ∧ tb { D with nx := N, ct := N, bk := D.nx } σ H1 else D.nx σ H1) : tWhile c tb D σ H := ⟨Pv, ⟨m, h0⟩, hs⟩
theorem x_whileGo {Pv : Nat → L2.St → Hp → Prop} {m : Nat} {P : (L2.St → Hp → Prop) → Prop} (h : P (fun σ' H' => ∃ m', m' < m ∧ Pv m' σ' H')) : ∃ N : L2.St → Hp → Prop, (∀ σ' H', N σ' H' → ∃ m', m' < m ∧ Pv m' σ' H') ∧ P N := ⟨_, fun _ _ h => h, h⟩
/-- a comprehension over a list whose element and test are functions of the item -/
theorem L_lcP {p : Addr} {xs : List V} {g : TG} {tt : TT} {vs : List Nat} (F : V → Option V) (hp : SqL K H p xs) (hlen : xs.length ≤ 16000000)
    (hs : ∀ (i : Nat) (x : V) (H2 : Hp), xs[i]? = some x → Same H H2 → ∀ R : Option V → Hp → Prop, (∀ H3, Same H2 H3 → R (F x) H3) → g x (wipe σ vs) H2 fun σ2 H3 => wipe σ2 vs = wipe σ vs ∧ tt σ2 H3 fun b H4 =>
      if b = true then te σ2 H4 fun y H5 => R (some y) H5 else R none H4)
    (hq : ∀ D H2, H D = none → Same H H2 → H2 D = some (.lst (xs.filterMap F)) → Q (.ref D) H2) : LcG (Itl K p) g tt te vs σ H Q := by
  intro D hD
  refine lc_list (K := K) (a := p) (xs := xs) (fun i H2 => Same H H2 ∧ H2 D = some (.lst ((xs.take i).filterMap F))) ⟨Same.new hD, upd_same⟩ (fun i H2 _ h => Same.sql h.1 hp) (fun i x H2 hi h => ?_) (fun H2 h => ?_)
  · have tk : xs.take (i + 1) = xs.take i ++ [x] := by rw [List.take_add_one, hi]; rfl
    refine hs i x H2 hi h.1 (fun o H' => match o with
      | some y => ∃ acc, H' D = some (.lst acc) ∧ acc.length < sizeLine ∧ (Same H (upd H' D (.lst (acc ++ [y]))) ∧ (upd H' D (.lst (acc ++ [y]))) D = some (.lst ((xs.take (i + 1)).filterMap F)))
      | none => Same H H' ∧ H' D = some (.lst ((xs.take (i + 1)).filterMap F))) fun H3 s3 => ?_
    have hl : ((xs.take i).filterMap F).length < sizeLine := by
      have a1 : ((xs.take i).filterMap F).length ≤ (xs.take i).length := List.length_filterMap_le _ _
      have a2 : (xs.take i).length ≤ xs.length := by rw [List.length_take]; omega
      rw [sizeLine_eq]; omega
    rw [tk, List.filterMap_append]
    cases hF : F x with
    | some y =>
      refine ⟨_, s3 _ _ h.2, hl, Same.put (Same.trans h.1 s3) hD, ?_⟩
      rw [upd_same]; simp [hF]
    | none =>
      refine ⟨Same.trans h.1 s3, ?_⟩
      rw [s3 _ _ h.2]; simp [hF]
  · obtain ⟨s, e⟩ := h
    rw [List.take_length] at e
    exact hq D H2 hD s e
/-- a comprehension over any walk: the list so far and what is known with it (D: the new list) -/
theorem L_lcW {J : It} {n : Nat} {G : Hp → Prop} {Y : Nat → Hp → V → Hp → Prop} (wk : Walk J n G Y) {g : TG} {tt : TT} {vs : List Nat} (Pv : Addr → Nat → List V → Hp → Prop)
    (h0 : ∀ D, H D = none → Pv D 0 [] (upd H D (.lst []))) (hG : ∀ D i acc H', Pv D i acc H' → G H')
    (hs : ∀ D (i : Nat) (x : V) acc H2 H3, H D = none → i < n → Pv D i acc H2 → H2 D = some (.lst acc) → Y i H2 x H3 → ∀ R : Option V → Hp → Prop,
      (∀ y H6, H6 D = some (.lst acc) → acc.length < sizeLine → Pv D (i + 1) (acc ++ [y]) (upd H6 D (.lst (acc ++ [y]))) → R (some y) H6) → (∀ H5, Pv D (i + 1) acc H5 → H5 D = some (.lst acc) → R none H5) →
      g x (wipe σ vs) H3 fun σ2 H4 => wipe σ2 vs = wipe σ vs ∧ tt σ2 H4 fun b H5 => if b = true then te σ2 H5 fun y H6 => R (some y) H6 else R none H5)
    (hd : ∀ D acc H', H D = none → Pv D n acc H' → H' D = some (.lst acc) → Q (.ref D) H') : LcG J g tt te vs σ H Q := by
  intro D hD
  refine lc_it wk (fun i H' => ∃ acc, Pv D i acc H' ∧ H' D = some (.lst acc)) ⟨[], h0 D hD, upd_same⟩ (fun i H' _ ⟨acc, h, _⟩ => hG D i acc H' h) (fun i x H2 H3 hi ⟨acc, h, e⟩ y => ?_) (fun H' ⟨acc, h, e⟩ => hd D acc H' hD h e)
  exact hs D i x acc H2 H3 hD hi h e y (fun o H' => match o with
    | some y => ∃ acc, H' D = some (.lst acc) ∧ acc.length < sizeLine ∧ ∃ acc', Pv D (i + 1) acc' (upd H' D (.lst (acc ++ [y]))) ∧ (upd H' D (.lst (acc ++ [y]))) D = some (.lst acc')
    | none => ∃ acc, Pv D (i + 1) acc H' ∧ H' D = some (.lst acc)) (fun y H6 a1 a2 a3 => ⟨acc, a1, a2, _, a3, upd_same⟩) fun H5 a1 a2 => ⟨acc, a1, a2⟩
/-- the comprehension's own slot i -/
theorem x_own {x : V} {P : L2.St → Hp → Prop} (hi : i < σ.length) (h : (σ.set i (some x))[i]? = some (some x) → P (σ.set i (some x)) H) : gName i x (wipe σ [i]) H fun σ2 H4 => wipe σ2 [i] = wipe σ [i] ∧ P σ2 H4 := by
  have e1 : (wipe σ [i]).set i (some x) = σ.set i (some x) := by simp [wipe]
  show wipe ((wipe σ [i]).set i (some x)) [i] = wipe σ [i] ∧ P ((wipe σ [i]).set i (some x)) H
  rw [e1]
  exact ⟨by simp [wipe], h (by simp [hi])⟩
end
theorem x_ite {P : Prop} [Decidable P] {A B : Prop} (h1 : P → A) (h2 : ¬ P → B) : if decide P = true then A else B := by
  by_cases h : P
  · rw [decide_eq_true h, if_pos rfl]; exact h1 h
  · rw [decide_eq_false h, if_neg Bool.false_ne_true]; exact h2 h
theorem x_iteN {P : Prop} [Decidable P] {A B : Prop} (h1 : ¬ P → A) (h2 : P → B) : if (!decide P) = true then A else B := by
  by_cases h : P
  · rw [decide_eq_true h]; exact h2 h
  · rw [decide_eq_false h]; exact h1 h
theorem x_iteB {b : Bool} {A B : Prop} (h1 : b = true → A) (h2 : b = false → B) : if b = true then A else B := by
  cases b with
  | true => exact h1 rfl
  | false => exact h2 rfl
theorem x_iteT {A B : Prop} (h : A) : if true = true then A else B := h
theorem x_iteF {A B : Prop} (h : B) : if false = true then A else B := h
section
variable {K : PySem.W.Frag} {H : Hp} {Q : VK}
theorem x_mod {a b : Int} (hb : 0 < b) (h : Q (.int (a % b)) H) : oMod (.int a) (.int b) H Q := x_rI hb h
theorem x_fdv {a b : Int} (hb : CDivW a b) (h : Q (.int (a / b)) H) : oFdv (.int a) (.int b) H Q := x_rI hb h
theorem x_mulR {a b : Int} (hb : -(2 ^ 64) < b ∧ b < 2 ^ 64) (h : Q (.int (a * b)) H) : oMul (.int a) (.int b) H Q := x_rI (.inr hb) h
theorem x_mulL {a b : Int} (hb : -(2 ^ 64) < a ∧ a < 2 ^ 64) (h : Q (.int (a * b)) H) : oMul (.int a) (.int b) H Q := x_rI (.inl hb) h
theorem x_pow {a b : Int} (hb : CPow a b) (h : Q (.int (a ^ b.toNat)) H) : oPow (.int a) (.int b) H Q := x_rI hb h
theorem cdiv {i j : Int} (h : 0 < j ∧ j < 2 ^ 62) : CDivW i j := wide_div (b := 62) h.1 (by omega) (by decide) (by decide)
end
end SX0

open PySem PySem.Spec PyProof.Rows L2 SX0
local macro_rules | `(tactic| walk_at "v1") => `(tactic| first
  | with_reducible refine x_seq ?_
  | with_reducible refine x_asgN ?_
  | ((with_reducible refine' x_var ?ee ?_); (case ee => exact rfl))
  | with_reducible refine x_c ?_
  | with_reducible refine x_op ?_
  | with_reducible refine x_rI0 ?_
  | with_reducible refine x_ret ?_
  | with_reducible refine x_ifS ?_
  | with_reducible refine x_test ?_
  | with_reducible refine x_tB ?_
  | with_reducible refine x_bl ?_
  | with_reducible refine x_next ?_
  | with_reducible refine x_drop ?_
  | with_reducible refine x_cons ?_
  | with_reducible refine x_nil ?_
  | with_reducible refine x_cb ?_
  | with_reducible refine x_callS ?_
  | ((with_reducible refine' x_rEq ?ee ?_); (case ee => exact rfl))
  | ((with_reducible refine' x_rNe ?ee ?_); (case ee => exact rfl))
  | with_reducible refine x_isN ?_
  | with_reducible refine x_notN ?_
  | with_reducible refine x_and ?_
  | with_reducible refine x_or ?_
  | with_reducible refine x_not ?_
  | with_reducible refine x_andV ?_
  | with_reducible refine x_orV ?_
  | with_reducible refine x_notV ?_
  | with_reducible refine x_ifE ?_
  | with_reducible refine x_chain ?_
  | with_reducible refine x_lst ?_
  | with_reducible refine x_tup ?_
  | with_reducible refine x_dnewK ?_
  | with_reducible refine x_dnewT ?_
  | with_reducible refine x_dget ?_
  | with_reducible refine x_din ?_
  | with_reducible refine x_dnotin ?_
  | with_reducible refine x_dput ?_
  | with_reducible refine x_bm ?_
  | with_reducible refine x_bm0 ?_
  | with_reducible refine x_tru ?_
  | with_reducible refine x_yes ?_
  | with_reducible refine x_int1 ?_
  | with_reducible refine x_intB ?_
  | with_reducible refine x_sl ?_
  | with_reducible refine x_part ?_
  | with_reducible refine x_partI ?_
  | with_reducible refine x_nopart ?_
  | with_reducible refine x_asgT ?_
  | with_reducible refine x_asgS ?_
  | with_reducible refine x_gcons ?_
  | with_reducible refine x_gnil ?_
  | with_reducible refine x_retN ?_
  | with_reducible refine x_rz ?_
  | with_reducible refine x_un ?_
  | with_reducible refine x_neg ?_
  | with_reducible refine x_for ?_
  | with_reducible refine x_iList ?_
  | with_reducible refine x_iEnum ?_
  | with_reducible refine x_iRng1 ?_
  | with_reducible refine x_iRng2 ?_
  | with_reducible refine x_iKeys ?_
  | with_reducible refine x_lc ?_
  | with_reducible refine x_iteT ?_
  | with_reducible refine x_iteF ?_)
local macro_rules | `(tactic| walk_at "vv") => `(tactic| repeat walk_at "v1")
local macro_rules | `(tactic| walk_at "vz") => `(tactic| repeat first
  | walk_at "v1"
  | with_reducible refine x_mod (by decide) ?_
  | with_reducible refine x_fdv (cdiv (by decide)) ?_
  | with_reducible refine x_mulR (by decide) ?_
  | with_reducible refine x_mulL (by decide) ?_)
set_option Elab.async false
set_option linter.all false
set_option maxRecDepth 100000
set_option maxHeartbeats 1000000
namespace SX0
open PySem PySem.Spec PyProof.Rows L2
/-! ### what stands in the heap: chunks of cells, those that may be written apart from each other -/
abbrev Cell := Addr × HO
abbrev Chunk := List Cell
def isT : HO → Bool
  | .tup _ => true
  | _ => false
abbrev nt (l : List Cell) : List Addr := (l.filter fun e => !isT e.2).map (·.1)
structure Hs (H : Hp) (L : List Chunk) : Prop where
  nd : (nt L.flatten).Nodup
  at_ : ∀ e ∈ L.flatten, H e.1 = some e.2
theorem nt_app (a b : List Cell) : nt (a ++ b) = nt a ++ nt b := by simp [nt]
theorem nt_cons (e : Cell) (l : List Cell) : nt (e :: l) = if isT e.2 then nt l else e.1 :: nt l := by
  unfold nt
  cases h : isT e.2 <;> simp [List.filter_cons, h]
theorem mem_nt {l : List Cell} {a : Addr} : a ∈ nt l ↔ ∃ o, (a, o) ∈ l ∧ isT o = false := by
  unfold nt
  rw [List.mem_map]
  constructor
  · rintro ⟨e, he, rfl⟩
    obtain ⟨h1, h2⟩ := List.mem_filter.mp he
    exact ⟨e.2, h1, by simpa using h2⟩
  · rintro ⟨o, h1, h2⟩
    exact ⟨(a, o), List.mem_filter.mpr ⟨h1, by simpa using h2⟩, rfl⟩
section
variable {H : Hp} {L L' : List Chunk} {a p : Addr} {o o' : HO} {c : Chunk}
theorem Hs.cell {x : Cell} (h : Hs H L) (i : Nat) (e : L[i]? = some c) (m : x ∈ c) : H x.1 = some x.2 := h.at_ _ (List.mem_flatten.mpr ⟨c, List.mem_of_getElem? e, m⟩)
theorem Hs.g (h : Hs H L) (i : Nat) (e : L[i]? = some [(a, o)]) : H a = some o := h.cell (x := (a, o)) i e List.mem_cons_self
theorem Hs.to (h : Hs H L) (p : L'.flatten.Perm L.flatten) : Hs H L' := by
  refine ⟨?_, fun e he => h.at_ e (p.mem_iff.mp he)⟩
  have q : (nt L'.flatten).Perm (nt L.flatten) := (p.filter _).map _
  exact q.nodup_iff.mpr h.nd
theorem Hs.eq (h : Hs H L) (p : L'.flatten = L.flatten) : Hs H L' := h.to (by rw [p])
theorem Hs.sub (h : Hs H L) (p : L'.flatten.Sublist L.flatten) : Hs H L' :=
  ⟨((p.filter _).map _).nodup h.nd, fun e he => h.at_ e (p.subset he)⟩
theorem Hs.tail (h : Hs H (c :: L)) : Hs H L := h.sub (by simp)
theorem Hs.nil {H : Hp} : Hs H [] := ⟨by simp [nt], fun _ h => by simp at h⟩
theorem Hs.new (h : Hs H L) (hp : H p = none) : Hs (upd H p o) ([(p, o)] :: L) := by
  have ne : ∀ e ∈ L.flatten, e.1 ≠ p := fun e he => ne_of_none (h.at_ e he) hp
  refine ⟨?_, fun e he => ?_⟩
  · show (nt ((p, o) :: L.flatten)).Nodup
    rw [nt_cons]
    split
    · exact h.nd
    · refine List.nodup_cons.mpr ⟨fun z => ?_, h.nd⟩
      obtain ⟨u, h1, h2⟩ := mem_nt.mp z
      exact ne _ h1 rfl
  · have he' : e = (p, o) ∨ e ∈ L.flatten := by simpa using he
    rcases he' with z | z
    · subst z; exact upd_same
    · rw [upd_ne (ne e z)]; exact h.at_ e z
theorem Hs.apart {l1 l2 : List Cell} (h : Hs H L) (hf : L.flatten = l1 ++ (a, o) :: l2) (ho : isT o = false) : ∀ e, e ∈ l1 ∨ e ∈ l2 → e.1 ≠ a := by
  intro e he ea
  have hmem : e ∈ L.flatten := by rw [hf]; rcases he with z | z <;> simp [z]
  have hin : (a, o) ∈ L.flatten := by rw [hf]; simp
  have e1 := h.at_ e hmem
  have e2 := h.at_ _ hin
  rw [ea] at e1
  have eo : e.2 = o := Option.some.inj (e1.symm.trans e2)
  have nd := h.nd
  rw [hf, nt_app, nt_cons, if_neg (by simp [ho])] at nd
  obtain ⟨n1, n2, n3⟩ := List.nodup_append.mp nd
  rcases he with z | z
  · exact n3 a (mem_nt.mpr ⟨o, by rw [← ea, ← eo]; exact z, ho⟩) a List.mem_cons_self rfl
  · exact (List.nodup_cons.mp n2).1 (mem_nt.mpr ⟨o, by rw [← ea, ← eo]; exact z, ho⟩)
theorem Hs.put {l1 l2 : List Cell} (h : Hs H L) (hf : L.flatten = l1 ++ (a, o) :: l2) (hf' : L'.flatten = l1 ++ (a, o') :: l2) (ho : isT o = false) (ho' : isT o' = false) : Hs (upd H a o') L' := by
  have ap := h.apart hf ho
  have nd := h.nd
  refine ⟨?_, fun e he => ?_⟩
  · rw [hf, nt_app, nt_cons, if_neg (by simp [ho])] at nd
    rw [hf', nt_app, nt_cons, if_neg (by simp [ho'])]
    exact nd
  · rw [hf'] at he
    rcases List.mem_append.mp he with z | z
    · rw [upd_ne (ap e (.inl z))]; exact h.at_ e (by rw [hf]; simp [z])
    · rcases List.mem_cons.mp z with z | z
      · subst z; exact upd_same
      · rw [upd_ne (ap e (.inr z))]; exact h.at_ e (by rw [hf]; simp [z])
theorem flat_sub {L' L : List Chunk} (h : L'.Sublist L) : L'.flatten.Sublist L.flatten := by
  induction h with
  | slnil => exact List.Sublist.slnil
  | cons a _ ih => rw [List.flatten_cons]; exact ih.trans (List.sublist_append_right _ _)
  | cons_cons a _ ih => rw [List.flatten_cons, List.flatten_cons]; exact ih.append_left _
theorem flat_set : ∀ {L : List Chunk} {i : Nat} {c : Chunk}, L[i]? = some c → ∃ l1 l2, L.flatten = l1 ++ (c ++ l2) ∧ ∀ c', (L.set i c').flatten = l1 ++ (c' ++ l2)
  | [], i, c, h => by simp at h
  | d :: L, 0, c, h => by
    have e : d = c := by simpa using h
    subst e
    exact ⟨[], L.flatten, by simp, fun c' => by simp⟩
  | d :: L, i + 1, c, h => by
    obtain ⟨l1, l2, h1, h2⟩ := flat_set (L := L) (i := i) (c := c) (by simpa using h)
    exact ⟨d ++ l1, l2, by simp [h1], fun c' => by simp [h2]⟩
theorem Hs.set (h : Hs H L) (i : Nat) (e : L[i]? = some [(a, o)]) (ho : isT o = false) (ho' : isT o' = false) : Hs (upd H a o') (L.set i [(a, o')]) := by
  obtain ⟨l1, l2, h1, h2⟩ := flat_set e
  exact h.put (l1 := l1) (l2 := l2) (by rw [h1]; rfl) (by rw [h2]; rfl) ho ho'
/-- within a chunk of many cells -/
theorem Hs.setIn {c1 c2 : Chunk} (h : Hs H L) (i : Nat) (e : L[i]? = some (c1 ++ (a, o) :: c2)) (ho : isT o = false) (ho' : isT o' = false) : Hs (upd H a o') (L.set i (c1 ++ (a, o') :: c2)) := by
  obtain ⟨l1, l2, h1, h2⟩ := flat_set e
  exact h.put (l1 := l1 ++ c1) (l2 := c2 ++ l2) (by rw [h1]; simp) (by rw [h2]; simp) ho ho'
theorem Hs.front (h : Hs H L) (i : Nat) (e : L[i]? = some c) : Hs H (c :: L.eraseIdx i) := by
  refine h.to ?_
  have hp : (c :: L.eraseIdx i).Perm L := by
    induction L generalizing i with
    | nil => simp at e
    | cons d L ih =>
      cases i with
      | zero =>
        have z : d = c := by simpa using e
        subst z
        simp
      | succ i =>
        have := ih ⟨by have := h.tail.nd; exact this, h.tail.at_⟩ i (by simpa using e)
        rw [List.eraseIdx_cons_succ]
        exact (List.Perm.swap _ _ _).trans (List.Perm.cons _ this)
  exact hp.flatten
/-- what is known of tuples -/
theorem Hs.know (h : Hs H L) (c : Chunk) (hc : ∀ e ∈ c, isT e.2 = true ∧ H e.1 = some e.2) : Hs H (c :: L) := by
  refine ⟨?_, fun e he => ?_⟩
  · have z : nt c = [] := by
      cases q : nt c with
      | nil => rfl
      | cons x r =>
        have hx : x ∈ nt c := by rw [q]; exact List.mem_cons_self
        obtain ⟨o, h1, h2⟩ := mem_nt.mp hx
        have := (hc _ h1).1
        rw [h2] at this; cases this
    show (nt (c ++ L.flatten)).Nodup
    rw [nt_app, z]
    exact h.nd
  · have he' : e ∈ c ∨ e ∈ L.flatten := by simpa using he
    rcases he' with z | z
    · exact (hc e z).2
    · exact h.at_ e z
theorem Hs.erase (h : Hs H L) (i : Nat) : Hs H (L.eraseIdx i) := by
  exact h.sub (flat_sub (List.eraseIdx_sublist L i))
theorem Hs.split {c d : Chunk} (h : Hs H ((c ++ d) :: L)) : Hs H (c :: d :: L) := h.eq (by simp)
theorem Hs.join {c d : Chunk} (h : Hs H (c :: d :: L)) : Hs H ((c ++ d) :: L) := h.eq (by simp)
/-- a dict that a loop walks -/
theorem Hs.lockK {d : Addr} {kvs : List (Key × V)} (h : Hs H L) (i : Nat) (e : L[i]? = some [(d, .dK kvs)]) (od : Obj) : Hs (upd H d (.frz od (.dK kvs))) (L.set i [(d, .frz od (.dK kvs))]) := h.set i e rfl rfl
theorem Hs.unlockK {d : Addr} {od : Obj} {kvs : List (Key × V)} (h : Hs H L) (i : Nat) (e : L[i]? = some [(d, .frz od (.dK kvs))]) : H d = some (.frz od (.dK kvs)) ∧ Hs (upd H d (.dK kvs)) (L.set i [(d, .dK kvs)]) := ⟨h.g i e, h.set i e rfl rfl⟩
end
/-! ### new things -/
section
variable {K : PySem.W.Frag} {σ : L2.St} {H : Hp} {L : List Chunk} {Q : VK} {D : Ends} {v : V} {a p : Addr}
theorem Hs.alloc {o : HO} (hh : Hs H L) (k : ∀ p H', Hs H' ([(p, o)] :: L) → Q (.ref p) H') : ∀ p, H p = none → Q (.ref p) (upd H p o) := fun p hp => k p _ (hh.new hp)
theorem y_alloc {o : HO} {P : Prop} (hl : P) (hh : Hs H L) (k : ∀ p H', Hs H' ([(p, o)] :: L) → Q (.ref p) H') : P ∧ ∀ p, H p = none → Q (.ref p) (upd H p o) := ⟨hl, hh.alloc k⟩
/-! ### fields of objects -/
def gFd (Cs : List Addr) (f : Str) (x : V) (H1 : Hp) (Q : VK) : Prop := ∃ a C dx fs v, x = .ref a ∧ H1 a = some (.ins C dx fs) ∧ C ∈ Cs ∧ fs.lookup f = some v ∧ Q v H1
theorem x_fd {Cs : List Addr} {f : Str} {ta : TE} (h : ta σ H fun x H1 => gFd Cs f x H1 Q) : tFd Cs f ta σ H Q := h
theorem y_fd {Cs : List Addr} {C dx : Addr} {f : Str} {fs : List (Str × V)} (e : H a = some (.ins C dx fs)) (hC : C ∈ Cs) (hl : fs.lookup f = some v) (h : Q v H) : gFd Cs f (.ref a) H Q := ⟨a, C, dx, fs, v, rfl, e, hC, hl, h⟩
def gSFd (Cs : List Addr) (f : Str) (y x : V) (H2 : Hp) (P : Hp → Prop) : Prop := ∃ a C dx fs, x = .ref a ∧ H2 a = some (.ins C dx fs) ∧ C ∈ Cs ∧ fs.length < 1000 ∧ P (upd H2 a (.ins C dx (putF f y fs)))
theorem x_sfd {Cs : List Addr} {f : Str} {ta tv : TE} (h : tv σ H fun y H1 => ta σ H1 fun x H2 => gSFd Cs f y x H2 (D.nx σ)) : sFd Cs ta tv f D σ H := h
theorem y_sfd {Cs : List Addr} {C dx : Addr} {f : Str} {y : V} {fs : List (Str × V)} {P : Hp → Prop} (hh : Hs H L) (i : Nat) (e : L[i]? = some [(a, .ins C dx fs)]) (hC : C ∈ Cs) (hl : fs.length < 1000)
    (k : ∀ H', Hs H' (L.set i [(a, .ins C dx (putF f y fs))]) → P H') : gSFd Cs f y (.ref a) H P := ⟨a, C, dx, fs, rfl, hh.g i e, hC, hl, k _ (hh.set i e rfl rfl)⟩
def gFdAug (Cs : List Addr) (f : Str) (tv : TE) (rd : V → V → Hp → VK → Prop) (D : Ends) (σ : L2.St) (x : V) (H1 : Hp) : Prop := ∃ a C dx fs v, x = .ref a ∧ H1 a = some (.ins C dx fs) ∧ C ∈ Cs ∧ fs.lookup f = some v ∧
  tv σ H1 fun y H2 => rd v y H2 fun z H3 => ∃ dx' fs', H3 a = some (.ins C dx' fs') ∧ fs'.length < 1000 ∧ D.nx σ (upd H3 a (.ins C dx' (putF f z fs')))
theorem x_fdaug {Cs : List Addr} {f : Str} {ta tv : TE} {rd : V → V → Hp → VK → Prop} (h : ta σ H fun x H1 => gFdAug Cs f tv rd D σ x H1) : sFdAug Cs ta tv rd f D σ H := h
theorem y_fdaug {Cs : List Addr} {C dx : Addr} {f : Str} {tv : TE} {rd : V → V → Hp → VK → Prop} {fs : List (Str × V)} (e : H a = some (.ins C dx fs)) (hC : C ∈ Cs) (hl : fs.lookup f = some v)
    (h : tv σ H fun y H2 => rd v y H2 fun z H3 => ∃ dx' fs', H3 a = some (.ins C dx' fs') ∧ fs'.length < 1000 ∧ D.nx σ (upd H3 a (.ins C dx' (putF f z fs')))) : gFdAug Cs f tv rd D σ (.ref a) H := ⟨a, C, dx, fs, v, rfl, e, hC, hl, h⟩
theorem y_fdput {C dx : Addr} {f : Str} {z : V} {fs : List (Str × V)} {P : Hp → Prop} (hh : Hs H L) (i : Nat) (e : L[i]? = some [(a, .ins C dx fs)]) (hl : fs.length < 1000) (k : ∀ H', Hs H' (L.set i [(a, .ins C dx (putF f z fs))]) → P H') :
    ∃ dx' fs', H a = some (.ins C dx' fs') ∧ fs'.length < 1000 ∧ P (upd H a (.ins C dx' (putF f z fs'))) := ⟨dx, fs, hh.g i e, hl, k _ (hh.set i e rfl rfl)⟩
/-! ### methods -/
def gMU (alts : List Alt) (m : Str) (W : WX) (t : TA) (σ : L2.St) (x : V) (H1 : Hp) (Q : VK) : Prop := ∃ al ∈ alts, ∃ a dx fs, x = .ref a ∧ H1 a = some (.ins al.1 dx fs) ∧ fs.lookup m = none ∧ t σ H1 fun vs H2 => al.2.2 (x :: vs) H2 Q (WE W σ)
theorem x_mu {alts : List Alt} {m : Str} {W : WX} {ta : TE} {t : TA} (h : ta σ H fun x H1 => gMU alts m W t σ x H1 Q) : tMU alts m W ta t σ H Q := h
theorem y_mu {alts : List Alt} {m : Str} {W : WX} {t : TA} {C f dx : Addr} {sp : Sp} {fs : List (Str × V)} (e : H a = some (.ins C dx fs)) (hal : (C, f, sp) ∈ alts) (hl : fs.lookup m = none)
    (h : t σ H fun vs H2 => sp (.ref a :: vs) H2 Q (WE W σ)) : gMU alts m W t σ (.ref a) H Q := ⟨_, hal, a, dx, fs, rfl, e, hl, h⟩
def gMkS (C : Addr) (sp : Sp) (vs : List V) (H1 : Hp) (Q : VK) (R : XK) : Prop := ∀ x dx, H1 x = none → H1 dx = none → dx ≠ x → sp (.ref x :: vs) (upd (upd H1 dx (.own x)) x (.ins C dx [])) (fun v H2 => v = .non ∧ Q (.ref x) H2) R
theorem x_mks {C : Addr} {sp : Sp} {W : WX} {t : TA} (h : t σ H fun vs H1 => gMkS C sp vs H1 Q (WE W σ)) : tMkS C sp W t σ H Q := h
theorem y_mks {C : Addr} {sp : Sp} {vs : List V} {R : XK} (hh : Hs H L) (k : ∀ x dx H', Hs H' ([(x, .ins C dx [])] :: [(dx, .own x)] :: L) → sp (.ref x :: vs) H' (fun v H2 => v = .non ∧ Q (.ref x) H2) R) : gMkS C sp vs H Q R := fun x dx h1 h2 h3 =>
  k x dx _ ((hh.new h2).new (by rw [upd_ne (Ne.symm h3)]; exact h1))
/-! ### lists -/
theorem y_append {xs : List V} (hh : Hs H L) (i : Nat) (e : L[i]? = some [(a, .lst xs)]) (hl : xs.length < sizeLine) (k : ∀ H', Hs H' (L.set i [(a, .lst (xs ++ [v]))]) → Q .non H') : rAppend (.ref a) [v] H Q := x_append (hh.g i e) hl (k _ (hh.set i e rfl rfl))
theorem y_extend {b : Addr} {xs zs : List V} (hh : Hs H L) (i : Nat) (e : L[i]? = some [(a, .lst xs)]) (e2 : H b = some (.lst zs)) (hl : xs.length + zs.length ≤ sizeLine) (k : ∀ H', Hs H' (L.set i [(a, .lst (xs ++ zs))]) → Q .non H') : rExtend (.ref a) [.ref b] H Q := x_extend (hh.g i e) e2 hl (k _ (hh.set i e rfl rfl))
theorem y_setL {xs : List V} {n : Int} {j : Nat} {P : Hp → Prop} (hh : Hs H L) (i : Nat) (e : L[i]? = some [(a, .lst xs)]) (hj : ixN xs.length n = some j) (k : ∀ H', Hs H' (L.set i [(a, .lst (xs.set j v))]) → P H') : rSetL (.ref a) (.int n) v H P := x_setL (hh.g i e) hj (k _ (hh.set i e rfl rfl))
theorem y_pop {xs : List V} {y : V} (hh : Hs H L) (i : Nat) (e : L[i]? = some [(a, .lst xs)]) (hy : xs[xs.length - 1]? = some y) (k : ∀ H', Hs H' (L.set i [(a, .lst xs.dropLast)]) → Q y H') : rPop (.ref a) [] H Q := ⟨a, xs, y, rfl, rfl, hh.g i e, hy, k _ (hh.set i e rfl rfl)⟩
theorem y_popAt {xs : List V} {y : V} {n : Int} {j : Nat} (hh : Hs H L) (i : Nat) (e : L[i]? = some [(a, .lst xs)]) (h1 : -(2 ^ 63) ≤ n) (h2 : n < 2 ^ 63) (hj : seqIndex? n xs.length = some j) (hy : xs[j]? = some y) (k : ∀ H', Hs H' (L.set i [(a, .lst (xs.eraseIdx j))]) → Q y H') : rPopAt (.ref a) [.int n] H Q := ⟨a, xs, n, j, y, rfl, rfl, hh.g i e, h1, h2, hj, hy, k _ (hh.set i e rfl rfl)⟩
/-! ### dicts -/
theorem y_dput {kvs : List (Key × V)} {y : Int} {P : Hp → Prop} (hh : Hs H L) (i : Nat) (e : L[i]? = some [(a, .dK kvs)]) (hl : kvs.length < sizeLine) (k : ∀ H', Hs H' (L.set i [(a, .dK (putK kvs (Sum.inl y) v))]) → P H') : gDPut (.ref a) (.int y) v H P := x_dputK (hh.g i e) hl (k _ (hh.set i e rfl rfl))
theorem y_dputS {kvs : List (Key × V)} {y : Str} {P : Hp → Prop} (hh : Hs H L) (i : Nat) (e : L[i]? = some [(a, .dK kvs)]) (hl : kvs.length < sizeLine) (k : ∀ H', Hs H' (L.set i [(a, .dK (putK kvs (Sum.inr y) v))]) → P H') : gDPut (.ref a) (.str y) v H P := ⟨a, _, rfl, .inl ⟨kvs, Sum.inr y, hh.g i e, rfl, hl, rfl⟩, k _ (hh.set i e rfl rfl)⟩
def gDrop (a : Addr) (y : V) (H2 : Hp) (Q : VK) : Prop := ∃ kvs k v, H2 a = some (.dK kvs) ∧ y = kV k ∧ valV kvs k = some v ∧ Q v (upd H2 a (.dK (dropK kvs k)))
def gDPop1 (ty : TE) (σ : L2.St) (x : V) (H1 : Hp) (Q : VK) : Prop := ∃ a, x = .ref a ∧ IsD H1 a ∧ ty σ H1 fun y H2 => gDrop a y H2 Q
theorem x_dpop1 {td ty : TE} (h : td σ H fun x H1 => gDPop1 ty σ x H1 Q) : tDPop1 td ty σ H Q := h
theorem y_dpop1 {ty : TE} {kvs : List (Key × V)} (e : H a = some (.dK kvs)) (h : ty σ H fun y H2 => gDrop a y H2 Q) : gDPop1 ty σ (.ref a) H Q := ⟨a, rfl, .inl ⟨kvs, .inl e⟩, h⟩
theorem y_dropI {kvs : List (Key × V)} {y : Int} (hh : Hs H L) (i : Nat) (e : L[i]? = some [(a, .dK kvs)]) (hv : valV kvs (Sum.inl y : Key) = some v) (k : ∀ H', Hs H' (L.set i [(a, .dK (dropK kvs (Sum.inl y)))]) → Q v H') :
    gDrop a (.int y) H Q := ⟨kvs, Sum.inl y, v, hh.g i e, rfl, hv, k _ (hh.set i e rfl rfl)⟩
def gDPop2 (ty tx : TE) (σ : L2.St) (x : V) (H1 : Hp) (Q : VK) : Prop := ∃ a, x = .ref a ∧ IsD H1 a ∧ ty σ H1 fun y H2 => tx σ H2 fun z H3 => ∃ kvs k, H3 a = some (.dK kvs) ∧ y = kV k ∧ (∀ v, valV kvs k = some v → Q v (upd H3 a (.dK (dropK kvs k)))) ∧ (valV kvs k = none → Q z H3)
theorem x_dpop2 {td ty tx : TE} (h : td σ H fun x H1 => gDPop2 ty tx σ x H1 Q) : tDPop2 td ty tx σ H Q := h
theorem y_lenD {kvs : List (Key × V)} (e : H a = some (.dK kvs)) (h : Q (.int kvs.length) H) : cLenD [.ref a] H Q := ⟨a, kvs, rfl, e, h⟩
theorem y_listD {kvs : List (Key × V)} (hh : Hs H L) (e : Rd H a (.dK kvs)) (k : ∀ p H', Hs H' ([(p, .lst (kvs.map fun kv => kV kv.1))] :: L) → Q (.ref p) H') : cListDk [.ref a] H Q := ⟨a, kvs, rfl, e, hh.alloc k⟩
theorem y_listL {xs : List V} (hh : Hs H L) (e : SqL K H a xs) (k : ∀ p H', Hs H' ([(p, .lst xs)] :: L) → Q (.ref p) H') : cListOf K [.ref a] H Q := ⟨a, xs, rfl, .inl e, hh.alloc k⟩
theorem y_listT {xs : List V} (hh : Hs H L) (e : SqT K H a xs) (k : ∀ p H', Hs H' ([(p, .lst xs)] :: L) → Q (.ref p) H') : cListOf K [.ref a] H Q := ⟨a, xs, rfl, .inr e, hh.alloc k⟩
theorem y_tupL {xs : List V} (hh : Hs H L) (e : SqL K H a xs) (k : ∀ p H', Hs H' ([(p, .tup xs)] :: L) → Q (.ref p) H') : cTupleOf K [.ref a] H Q := ⟨a, xs, rfl, .inl ⟨e, hh.alloc k⟩⟩
theorem y_tupT {xs : List V} (e : SqT K H a xs) (h : Q (.ref a) H) : cTupleOf K [.ref a] H Q := ⟨a, xs, rfl, .inr ⟨e, h⟩⟩
theorem y_sorted {ns : List Int} (hh : Hs H L) (e : SqL K H a (ns.map V.int)) (k : ∀ (ms : List Int) p H', ms.Perm ns → ms.Pairwise (· ≤ ·) → Hs H' ([(p, .lst (ms.map V.int))] :: L) → Q (.ref p) H') : rSortedI K [.ref a] H Q := ⟨a, ns, rfl, e, fun ys q h1 h2 hq => k ys q _ h1 h2 (hh.new hq)⟩
theorem y_sortedD {kvs : List (Key × V)} {ns : List Int} (hh : Hs H L) (e : Rd H a (.dK kvs)) (hk : kvs.map (·.1) = ns.map Sum.inl) (k : ∀ (ms : List Int) p H', ms.Perm ns → ms.Pairwise (· ≤ ·) → Hs H' ([(p, .lst (ms.map V.int))] :: L) → Q (.ref p) H') : cSortedDk [.ref a] H Q := ⟨a, kvs, ns, rfl, e, hk, fun ys q h1 h2 hq => k ys q _ h1 h2 (hh.new hq)⟩
/-! ### comprehensions -/
variable {g : TG} {tt : TT} {te : TE} {vs : List Nat}
/-- an element and a test that are functions of the item (what is made on the way is forgotten) -/
theorem L_lcH {J : It} {n : Nat} {G : Hp → Prop} {Y : Nat → Hp → V → Hp → Prop} (wk : Walk J n G Y) (xs : List V) (hn : xs.length = n) (F : V → Option V) (hh : Hs H L) (hlen : xs.length ≤ 16000000)
    (hG : ∀ D acc H', Hs H' ([(D, .lst acc)] :: L) → G H') (hY : ∀ (i : Nat) D acc H2 H3 x, i < n → Hs H2 ([(D, .lst acc)] :: L) → Y i H2 x H3 → xs[i]? = some x ∧ Hs H3 ([(D, .lst acc)] :: L))
    (hs : ∀ (i : Nat) (x : V) D acc H2, xs[i]? = some x → Hs H2 ([(D, .lst acc)] :: L) → ∀ R : Option V → Hp → Prop, (∀ H3, Hs H3 ([(D, .lst acc)] :: L) → R (F x) H3) → g x (wipe σ vs) H2 fun σ2 H3 => wipe σ2 vs = wipe σ vs ∧ tt σ2 H3 fun b H4 =>
      if b = true then te σ2 H4 fun y H5 => R (some y) H5 else R none H4)
    (hq : ∀ D H2, Hs H2 ([(D, .lst (xs.filterMap F))] :: L) → Q (.ref D) H2) : LcG J g tt te vs σ H Q := by
  subst hn
  refine L_lcW wk (fun D i acc H' => acc = (xs.take i).filterMap F ∧ Hs H' ([(D, .lst acc)] :: L)) (fun D hD => ⟨by simp, hh.new hD⟩) (fun D i acc H' h => hG D acc H' h.2) ?_ ?_
  · rintro D i x acc H2 H3 hD hi ⟨rfl, h⟩ e y R r1 r2
    obtain ⟨hx, h3⟩ := hY i D _ H2 H3 x hi h y
    have tk : xs.take (i + 1) = xs.take i ++ [x] := by rw [List.take_add_one, hx]; rfl
    refine hs i x D _ H3 hx h3 R fun H4 h4 => ?_
    have hl : ((xs.take i).filterMap F).length < sizeLine := by
      have a1 : ((xs.take i).filterMap F).length ≤ (xs.take i).length := List.length_filterMap_le _ _
      have a2 : (xs.take i).length ≤ xs.length := by rw [List.length_take]; omega
      rw [sizeLine_eq]; omega
    cases hF : F x with
    | some y => exact r1 y H4 (h4.g 0 rfl) hl ⟨by rw [tk, List.filterMap_append]; simp [hF], h4.set 0 rfl rfl rfl⟩
    | none => exact r2 H4 ⟨by rw [tk, List.filterMap_append]; simp [hF], h4⟩ (h4.g 0 rfl)
  · rintro D acc H' hD ⟨rfl, h⟩ e
    rw [List.take_length] at h
    exact hq D H' h
theorem L_lcl {xs : List V} (F : V → Option V) (hh : Hs H L) (hp : ∀ D acc H', Hs H' ([(D, .lst acc)] :: L) → SqL K H' p xs) (hlen : xs.length ≤ 16000000)
    (hs : ∀ (i : Nat) (x : V) D acc H2, xs[i]? = some x → Hs H2 ([(D, .lst acc)] :: L) → ∀ R : Option V → Hp → Prop, (∀ H3, Hs H3 ([(D, .lst acc)] :: L) → R (F x) H3) → g x (wipe σ vs) H2 fun σ2 H3 => wipe σ2 vs = wipe σ vs ∧ tt σ2 H3 fun b H4 =>
      if b = true then te σ2 H4 fun y H5 => R (some y) H5 else R none H4)
    (hq : ∀ D H2, Hs H2 ([(D, .lst (xs.filterMap F))] :: L) → Q (.ref D) H2) : LcG (Itl K p) g tt te vs σ H Q :=
  L_lcH (walk_list (K := K) (a := p) (xs := xs)) xs rfl F hh hlen hp (fun i D acc H2 H3 x _ h y => ⟨y.2, y.1 ▸ h⟩) hs hq
theorem L_lcr {lo : Int} {n : Nat} (F : V → Option V) (hh : Hs H L) (hlen : n ≤ 16000000)
    (hs : ∀ (i : Nat) D acc H2, i < n → Hs H2 ([(D, .lst acc)] :: L) → ∀ R : Option V → Hp → Prop, (∀ H3, Hs H3 ([(D, .lst acc)] :: L) → R (F (.int (lo + i))) H3) → g (.int (lo + i)) (wipe σ vs) H2 fun σ2 H3 => wipe σ2 vs = wipe σ vs ∧ tt σ2 H3 fun b H4 =>
      if b = true then te σ2 H4 fun y H5 => R (some y) H5 else R none H4)
    (hq : ∀ D H2, Hs H2 ([(D, .lst (((List.range n).map fun i => V.int (lo + (i : Nat))).filterMap F))] :: L) → Q (.ref D) H2) : LcG (Itr lo n) g tt te vs σ H Q := by
  refine L_lcH (walk_range (lo := lo) (n := n)) ((List.range n).map fun i => V.int (lo + (i : Nat))) (by simp) F hh (by simpa using hlen) (fun _ _ _ _ => True.intro) (fun i D acc H2 H3 x hi h y => ?_) (fun i x D acc H2 hx h R r => ?_) hq
  · obtain ⟨rfl, rfl⟩ := y
    refine ⟨?_, h⟩
    rw [List.getElem?_map, List.getElem?_range hi]; rfl
  · obtain ⟨j, hj, rfl⟩ : ∃ j, (List.range n)[i]? = some j ∧ x = V.int (lo + (j : Nat)) := by
      rw [List.getElem?_map] at hx
      cases e : (List.range n)[i]? with
      | none => rw [e] at hx; cases hx
      | some j => rw [e] at hx; exact ⟨j, rfl, (Option.some.inj hx).symm⟩
    have hjn := List.getElem?_eq_some_iff.mp hj
    obtain ⟨h1, h2⟩ := hjn
    have hn : i < n := by simpa using h1
    have e : i = j := by simpa using h2
    subst e
    exact hs i D acc H2 hn h R r
theorem L_lck {d : Addr} {od : Obj} {kvs : List (Key × V)} (F : V → Option V) (hh : Hs H L) (hp : ∀ D acc H', Hs H' ([(D, .lst acc)] :: L) → H' d = some (.frz od (.dK kvs))) (hlen : kvs.length ≤ 16000000)
    (hs : ∀ (i : Nat) (k : Key) (v : V) D acc H2, kvs[i]? = some (k, v) → Hs H2 ([(D, .lst acc)] :: L) → ∀ R : Option V → Hp → Prop, (∀ H3, Hs H3 ([(D, .lst acc)] :: L) → R (F (kV k)) H3) → g (kV k) (wipe σ vs) H2 fun σ2 H3 => wipe σ2 vs = wipe σ vs ∧ tt σ2 H3 fun b H4 =>
      if b = true then te σ2 H4 fun y H5 => R (some y) H5 else R none H4)
    (hq : ∀ D H2, Hs H2 ([(D, .lst ((kvs.map fun e => kV e.1).filterMap F))] :: L) → Q (.ref D) H2) : LcG (Itk d od kvs) g tt te vs σ H Q := by
  refine L_lcH (walk_keys (d := d) (o := od) (kvs := kvs)) (kvs.map fun e => kV e.1) (by simp) F hh (by simpa using hlen) hp (fun i D acc H2 H3 x hi h y => ?_) (fun i x D acc H2 hx h R r => ?_) hq
  · obtain ⟨rfl, k, v, e, rfl⟩ := y
    exact ⟨by rw [List.getElem?_map, e]; rfl, h⟩
  · rw [List.getElem?_map] at hx
    cases e : kvs[i]? with
    | none => rw [e] at hx; cases hx
    | some kv =>
      rw [e] at hx
      have z := (Option.some.inj hx).symm
      subst z
      exact hs i kv.1 kv.2 D acc H2 e h R r
theorem y_keysL {d : Addr} {kvs : List (Key × V)} {R : It → Hp → Prop} (hh : Hs H L) (i : Nat) (e : L[i]? = some [(d, .dK kvs)]) (k : ∀ od H', Hs H' (L.set i [(d, .frz od (.dK kvs))]) → R (Itk d od kvs) H') : gKeysL (.ref d) H R := ⟨d, kvs, rfl, hh.g i e, fun od => k od _ (hh.lockK i e od)⟩
/-! ### locks -/
theorem y_lock {t : TS} {d : Addr} {kvs : List (Key × V)} (hh : Hs H L) (i : Nat) (e : L[i]? = some [(d, .dK kvs)]) (h : ∀ od H1, Hs H1 (L.set i [(d, .frz od (.dK kvs))]) → t ⟨fun σ' H' => H' d = some (.frz od (.dK kvs)) ∧ D.nx σ' (upd H' d (.dK kvs)), fun v H' => H' d = some (.frz od (.dK kvs)) ∧ D.rt v (upd H' d (.dK kvs)),
    fun σ' H' => H' d = some (.frz od (.dK kvs)) ∧ D.bk σ' (upd H' d (.dK kvs)), fun σ' H' => H' d = some (.frz od (.dK kvs)) ∧ D.ct σ' (upd H' d (.dK kvs))⟩ σ H1) : tLock2 t D σ H := .inl (x_lock (hh.g i e) fun od => h od _ (hh.lockK i e od))
theorem y_lockE {d : Addr} {kvs : List (Key × V)} (hh : Hs H L) (i : Nat) (e : L[i]? = some [(d, .dK kvs)]) (h : ∀ od H1, Hs H1 (L.set i [(d, .frz od (.dK kvs))]) → te σ H1 fun v H' => H' d = some (.frz od (.dK kvs)) ∧ Q v (upd H' d (.dK kvs))) : tLockE2 te σ H Q := .inl (x_lockE (hh.g i e) fun od => h od _ (hh.lockK i e od))
end
end SX0

set_option Elab.async false
set_option linter.all false
set_option maxRecDepth 100000
namespace SX0
open PySem PySem.Spec PyProof.Rows L2
/-! ### values that are None or a new tuple -/
class Enc (α : Type) where
  enc : α → Option (List V)
structure PV (α : Type) where
  d : α
  a : Addr
section
variable {α : Type} [Enc α]
def PV.v (p : PV α) : V := match Enc.enc p.d with
  | none => .non
  | some _ => .ref p.a
def PV.c (p : PV α) : Chunk := match Enc.enc p.d with
  | none => []
  | some xs => [(p.a, .tup xs)]
theorem PV.v_none {p : PV α} (h : Enc.enc p.d = none) : p.v = .non := by unfold PV.v; rw [h]
theorem PV.v_some {p : PV α} {xs : List V} (h : Enc.enc p.d = some xs) : p.v = .ref p.a := by unfold PV.v; rw [h]
theorem PV.c_some {p : PV α} {xs : List V} (h : Enc.enc p.d = some xs) : (p.a, HO.tup xs) ∈ p.c := by unfold PV.c; rw [h]; exact List.mem_cons_self
theorem PV.c_tup {p : PV α} {e : Cell} (h : e ∈ p.c) : isT e.2 = true := by
  unfold PV.c at h
  cases q : Enc.enc p.d with
  | none => rw [q] at h; cases h
  | some xs => rw [q] at h; rw [List.mem_singleton.mp h]; rfl
/-- the cells of some values -/
def vcs (ps : List (PV α)) : Chunk := ps.flatMap PV.c
theorem vcs_tup {ps : List (PV α)} {e : Cell} (h : e ∈ vcs ps) : isT e.2 = true := by
  obtain ⟨p, _, h2⟩ := List.mem_flatMap.mp h
  exact PV.c_tup h2
theorem vcs_mem {ps : List (PV α)} {p : PV α} (h : p ∈ ps) {e : Cell} (he : e ∈ p.c) : e ∈ vcs ps := List.mem_flatMap.mpr ⟨p, h, he⟩
/-- a value whose tuple is known in the heap -/
def PV.ok (H : Hp) (p : PV α) : Prop := ∀ e ∈ p.c, H e.1 = some e.2
theorem PV.ok_of {H : Hp} {L : List Chunk} {ps : List (PV α)} {p : PV α} (hh : Hs H L) (i : Nat) (e : L[i]? = some (vcs ps)) (h : p ∈ ps) : p.ok H := fun _ he => hh.cell i e (vcs_mem h he)
end
/-- chunks picked by their places, in any order -/
theorem Hs.pick {H : Hp} {L R : List Chunk} (h : Hs H (L ++ R)) (js : List Nat) (nd : js.Nodup := by decide) (hb : (js.all fun i => Nat.blt i L.length) = true := by rfl) : Hs H (js.map (fun i => L.getD i []) ++ R) := by
  have hl : ∀ i ∈ js, i < L.length := fun i hi => by
    have q : Nat.blt i L.length = true := (List.all_eq_true.mp hb) i hi
    unfold Nat.blt at q
    exact Nat.le_of_ble_eq_true q
  have e : L = (List.range L.length).map fun i => L.getD i [] := by
    apply List.ext_getElem
    · simp
    · intro i h1 h2; simp [h1]
  have pr : (js ++ (List.range L.length).filter fun i => !decide (i ∈ js)).Perm (List.range L.length) := by
    refine (List.perm_ext_iff_of_nodup ?_ List.nodup_range).mpr fun i => ?_
    · refine List.nodup_append.mpr ⟨nd, List.filter_sublist.nodup List.nodup_range, fun a ha b hb z => ?_⟩
      subst z
      have := (List.mem_filter.mp hb).2
      simp [ha] at this
    · rw [List.mem_append, List.mem_filter, List.mem_range]
      constructor
      · rintro (z | z)
        · exact hl i z
        · exact z.1
      · intro z
        by_cases c : i ∈ js
        · exact .inl c
        · exact .inr ⟨z, by simp [c]⟩
  have pm := pr.map fun i => L.getD i []
  rw [← e, List.map_append] at pm
  have h1 : Hs H ((js.map (fun i => L.getD i []) ++ ((List.range L.length).filter fun i => !decide (i ∈ js)).map fun i => L.getD i []) ++ R) := h.to (by
    rw [List.flatten_append, List.flatten_append (L₁ := L)]
    exact (pm.flatten).append (List.Perm.refl _))
  refine h1.sub ?_
  rw [List.flatten_append, List.flatten_append, List.flatten_append]
  exact (List.sublist_append_left _ _).append (List.Sublist.refl _)
theorem decStr (a b : Str) : decide (V.str a = V.str b) = decide (a = b) := by simp
theorem x_ite0 {b : Bool} {A B : Prop} (h : if b = true then A else B) : if b = true then A else B := h
theorem x_decT {P : Prop} [Decidable P] {A B : Prop} (p : P) (h : A) : if decide P = true then A else B := by rw [decide_eq_true p, if_pos rfl]; exact h
theorem x_decF {P : Prop} [Decidable P] {A B : Prop} (p : ¬ P) (h : B) : if decide P = true then A else B := by rw [decide_eq_false p, if_neg Bool.false_ne_true]; exact h
theorem x_ndecT {P : Prop} [Decidable P] {A B : Prop} (p : ¬ P) (h : A) : if (!decide P) = true then A else B := by rw [decide_eq_false p]; exact h
theorem x_ndecF {P : Prop} [Decidable P] {A B : Prop} (p : P) (h : B) : if (!decide P) = true then A else B := by rw [decide_eq_true p]; exact h
/-! ### new things, with the wish kept whole -/
def gNew (o : HO) (H : Hp) (Q : VK) : Prop := ∀ p, H p = none → Q (.ref p) (upd H p o)
def gLst (xs : List V) (H : Hp) (Q : VK) : Prop := xs.length ≤ sizeLine ∧ gNew (.lst xs) H Q
def gTupN (xs : List V) (H : Hp) (Q : VK) : Prop := xs.length ≤ sizeLine ∧ gNew (.tup xs) H Q
section
variable {K : PySem.W.Frag} {σ : L2.St} {H : Hp} {L : List Chunk} {Q : VK} {D : Ends} {tas : TA} {o : HO} {R : It → Hp → Prop}
theorem y_new (hh : Hs H L) (k : ∀ p H', Hs H' ([(p, o)] :: L) → Q (.ref p) H') : gNew o H Q := fun p hp => k p _ (hh.new hp)
theorem z_lst (h : tas σ H fun xs H1 => gLst xs H1 Q) : tLst tas σ H Q := h
theorem z_tup (h : tas σ H fun xs H1 => gTupN xs H1 Q) : tTup tas σ H Q := h
theorem y_lst {xs : List V} (hh : Hs H L) (k : ∀ p H', Hs H' ([(p, .lst xs)] :: L) → Q (.ref p) H') (hl : Nat.ble xs.length 16777216 = true := by rfl) : gLst xs H Q := ⟨by rw [sizeLine_eq]; exact Nat.le_of_ble_eq_true hl, y_new hh k⟩
theorem y_tup {xs : List V} (hh : Hs H L) (k : ∀ p H', Hs H' ([(p, .tup xs)] :: L) → Q (.ref p) H') (hl : Nat.ble xs.length 16777216 = true := by rfl) : gTupN xs H Q := ⟨by rw [sizeLine_eq]; exact Nat.le_of_ble_eq_true hl, y_new hh k⟩
theorem y_dnewK (hh : Hs H L) (k : ∀ p H', Hs H' ([(p, .dK [])] :: L) → Q (.ref p) H') : tDNewK σ H Q := fun p hp => k p _ (hh.new hp)
theorem y_dnewT (hh : Hs H L) (k : ∀ p H', Hs H' ([(p, .dT [])] :: L) → Q (.ref p) H') : tDNewT σ H Q := fun p hp => k p _ (hh.new hp)
theorem y_rng1 {j : Int} (h1 : -(2 ^ 62) ≤ j) (h2 : j < 2 ^ 62) (h : R (Itr 0 j.toNat) H) : gRng1 [.int j] H R := x_gRng1 h1 h2 h
theorem y_cat {p b : Addr} {xs zs : List V} (hh : Hs H L) (e : SqX K H p xs) (e2 : SqX K H b zs) (hl : xs.length + zs.length ≤ 16777216) (k : ∀ q H', Hs H' ([(q, .lst (xs ++ zs))] :: L) → Q (.ref q) H') : rCatS K (.ref p) (.ref b) H Q := x_cat e e2 (by rw [sizeLine_eq]; exact hl) fun q hq => k q _ (hh.new hq)
theorem y_slL {p : Addr} {xs : List V} {lo hi : Option Int} (hh : Hs H L) (e : SqL K H p xs) (k : ∀ q H', Hs H' ([(q, .lst (cutV xs lo hi))] :: L) → Q (.ref q) H') : rSlL K (.ref p) lo hi H Q := x_slL e fun q hq => k q _ (hh.new hq)
theorem y_rep {p : Addr} {xs : List V} {n : Int} (hh : Hs H L) (e : H p = some (.lst xs)) (h1 : -(2 ^ 63) ≤ n) (h2 : n < 2 ^ 63) (hl : xs.length * n.toNat ≤ 16777216) (k : ∀ q H', Hs H' ([(q, .lst (List.replicate n.toNat xs).flatten)] :: L) → Q (.ref q) H') : rRep (.ref p) (.int n) H Q :=
  ⟨p, n, xs, rfl, rfl, e, h1, h2, by rw [sizeLine_eq]; exact hl, fun q hq => k q _ (hh.new hq)⟩
end
end SX0

open PySem PySem.Spec PyProof.Rows L2 SX0
local macro_rules | `(tactic| walk_at "w1") => `(tactic| first
  | with_reducible refine x_seq ?_
  | with_reducible refine x_asgN ?_
  | ((with_reducible refine' x_var ?ee ?_); (case ee => exact rfl))
  | with_reducible refine x_c ?_
  | with_reducible refine x_op ?_
  | with_reducible refine x_rI0 ?_
  | with_reducible refine x_ret ?_
  | with_reducible refine x_ifS ?_
  | with_reducible refine x_test ?_
  | with_reducible refine x_tB ?_
  | with_reducible refine x_bl ?_
  | with_reducible refine x_next ?_
  | with_reducible refine x_drop ?_
  | with_reducible refine x_cons ?_
  | with_reducible refine x_nil ?_
  | with_reducible refine x_cb ?_
  | with_reducible refine x_callS ?_
  | ((with_reducible refine' x_rEq ?ee ?_); (case ee => exact rfl))
  | ((with_reducible refine' x_rNe ?ee ?_); (case ee => exact rfl))
  | with_reducible refine x_isN ?_
  | with_reducible refine x_notN ?_
  | with_reducible refine x_and ?_
  | with_reducible refine x_or ?_
  | with_reducible refine x_not ?_
  | with_reducible refine x_andV ?_
  | with_reducible refine x_orV ?_
  | with_reducible refine x_notV ?_
  | with_reducible refine x_ifE ?_
  | with_reducible refine x_chain ?_
  | with_reducible refine x_dget ?_
  | with_reducible refine x_din ?_
  | with_reducible refine x_dnotin ?_
  | with_reducible refine x_dput ?_
  | with_reducible refine x_bm ?_
  | with_reducible refine x_bm0 ?_
  | with_reducible refine x_tru ?_
  | with_reducible refine x_yes ?_
  | with_reducible refine x_int1 ?_
  | with_reducible refine x_intB ?_
  | with_reducible refine x_sl ?_
  | with_reducible refine x_part ?_
  | with_reducible refine x_partI ?_
  | with_reducible refine x_nopart ?_
  | with_reducible refine x_asgT ?_
  | with_reducible refine x_asgS ?_
  | with_reducible refine x_gcons ?_
  | with_reducible refine x_gnil ?_
  | with_reducible refine x_retN ?_
  | with_reducible refine x_rz ?_
  | with_reducible refine x_un ?_
  | with_reducible refine x_neg ?_
  | with_reducible refine x_for ?_
  | with_reducible refine x_iList ?_
  | with_reducible refine x_iKeys ?_
  | with_reducible refine x_iteT ?_
  | with_reducible refine x_iteF ?_)
set_option hygiene false in
local macro_rules | `(tactic| walk_at "hg") => `(tactic| first
  | exact hh.g 0 rfl
  | exact hh.g 1 rfl
  | exact hh.g 2 rfl
  | exact hh.g 3 rfl
  | exact hh.g 4 rfl
  | exact hh.g 5 rfl
  | exact hh.g 6 rfl
  | exact hh.g 7 rfl
  | exact hh.g 8 rfl
  | exact hh.g 9 rfl
  | exact hh.g 10 rfl
  | exact hh.g 11 rfl
  | exact hh.g 12 rfl
  | exact hh.g 13 rfl
  | exact hh.g 14 rfl
  | exact hh.g 15 rfl)
local macro_rules | `(tactic| walk_at "hm") => `(tactic| with_reducible first
  | exact List.mem_cons_self
  | exact List.mem_cons_of_mem _ List.mem_cons_self
  | exact List.mem_cons_of_mem _ (List.mem_cons_of_mem _ List.mem_cons_self)
  | exact List.mem_cons_of_mem _ (List.mem_cons_of_mem _ (List.mem_cons_of_mem _ List.mem_cons_self))
  | exact List.mem_cons_of_mem _ (List.mem_cons_of_mem _ (List.mem_cons_of_mem _ (List.mem_cons_of_mem _ List.mem_cons_self))))
local macro_rules | `(tactic| walk_at "vh1") => `(tactic| first
  | walk_at "w1"
  | with_reducible refine z_lst ?_
  | with_reducible refine z_tup ?_
  | with_reducible refine x_lc ?_
  | with_reducible refine x_iRng1 ?_
  | with_reducible refine x_iRng2 ?_
  | with_reducible refine x_iKeysL ?_
  | with_reducible refine x_fd ?_
  | with_reducible refine y_fd (by walk_at "hg") (by walk_at "hm") rfl ?_
  | with_reducible refine x_sfd ?_
  | with_reducible refine x_fdaug ?_
  | with_reducible refine y_fdaug (by walk_at "hg") (by walk_at "hm") rfl ?_
  | with_reducible refine x_mu ?_
  | with_reducible refine y_mu (by walk_at "hg") (by walk_at "hm") rfl ?_
  | with_reducible refine x_mks ?_
  | with_reducible refine x_dpop1 ?_
  | with_reducible refine y_dpop1 (by walk_at "hg") ?_
  | with_reducible refine x_gList (SqL.of (by walk_at "hg")) ?_
  | with_reducible refine x_lenL (SqL.of (by walk_at "hg")) ?_
  | with_reducible refine y_lenD (by walk_at "hg") ?_)
local macro_rules | `(tactic| walk_at "vh") => `(tactic| repeat walk_at "vh1")
set_option Elab.async false
set_option linter.all false
set_option maxRecDepth 100000
set_option maxHeartbeats 1000000
namespace SX0
open PySem PySem.Spec PyProof.Rows L2
section
variable {K : PySem.W.Frag} {H : Hp} {Q : VK} {E : XK} {σ : L2.St} {D : Ends} {L : List Chunk}
theorem slz {n m : Nat} (h : n ≤ m) (hm : m ≤ 16777216 := by decide) : n ≤ sizeLine := by rw [sizeLine_eq]; omega
theorem atI_at {α : Type} {xs : List α} {n : Nat} {v : α} (h : xs[n]? = some v) : atI xs (n : Int) = some v := by
  have hn : n < xs.length := (List.getElem?_eq_some_iff.mp h).1
  unfold atI
  have e : ixN xs.length (n : Int) = some n := by
    unfold ixN
    simp
    omega
  rw [e]
  exact h
theorem s_slS {z : Str} {lo hi : Option Int} (hz : z.length ≤ 16777216) (h : Q (.str (cutS z lo hi)) H) : rSlS (.str z) lo hi H Q := ⟨z, rfl, slz hz, h⟩
theorem s_ixS {z : Str} {i : Int} {c : Nat} (hz : z.length ≤ 16777216) (e : atI z.cps.toList i = some c) (h : Q (.str ⟨#[c]⟩) H) : rIxS (.str z) (.int i) H Q := ⟨z, i, c, rfl, rfl, slz hz, e, h⟩
theorem s_lenS {z : Str} (hz : z.length ≤ 16777216) (h : Q (.int z.length) H) : cLenStr [.str z] H Q := ⟨z, rfl, slz hz, h⟩
theorem s_m1 {r : V → List V → Hp → VK → Prop} {to te : TE} (h : to σ H fun x H1 => (∃ a, x = .str a) ∧ te σ H1 fun y H2 => r x [y] H2 Q) : tM1 r to te σ H Q := h
theorem s_m0 {r : V → List V → Hp → VK → Prop} {to : TE} (h : to σ H fun x H1 => (∃ a, x = .str a) ∧ r x [] H1 Q) : tM0 r to σ H Q := h
theorem s_ite {a b : Str} {A B : Prop} (h1 : a = b → A) (h2 : ¬ a = b → B) : if decide (V.str a = V.str b) = true then A else B := by
  by_cases z : a = b
  · rw [if_pos (by rw [z]; exact decide_eq_true rfl)]; exact h1 z
  · rw [if_neg (by simp [z])]; exact h2 z
theorem s_iteN {a b : Str} {A B : Prop} (h1 : ¬ a = b → A) (h2 : a = b → B) : if (!decide (V.str a = V.str b)) = true then A else B := by
  by_cases z : a = b
  · rw [if_neg (by simp [z])]; exact h2 z
  · rw [if_pos (by simp [z])]; exact h1 z
theorem i_ite {a b : Int} {A B : Prop} (h1 : a = b → A) (h2 : ¬ a = b → B) : if decide (V.int a = V.int b) = true then A else B := by
  by_cases z : a = b
  · rw [if_pos (by rw [z]; exact decide_eq_true rfl)]; exact h1 z
  · rw [if_neg (by simp [z])]; exact h2 z
theorem i_iteN {a b : Int} {A B : Prop} (h1 : ¬ a = b → A) (h2 : a = b → B) : if (!decide (V.int a = V.int b)) = true then A else B := by
  by_cases z : a = b
  · rw [if_neg (by simp [z])]; exact h2 z
  · rw [if_pos (by simp [z])]; exact h1 z
theorem s_iStr {ta : TE} {R : It → Hp → Prop} (h : ta σ H fun x H1 => ∃ z, x = .str z ∧ R (Its z) H1) : iStr ta σ H R := h
theorem L_strS {z : Str} {g : TG} {tb : TS} (Pv : Nat → L2.St → Hp → Prop) (h0 : Pv 0 σ H) (hs : ∀ i c σ H, z.cps.toList[i]? = some c → Pv i σ H → g (.str ⟨#[c]⟩) σ H fun σ2 H2 => tb { D with nx := Pv (i + 1), ct := Pv (i + 1), bk := D.nx } σ2 H2)
    (hd : ∀ σ H, Pv z.cps.size σ H → D.nx σ H) : LoopG (Its z) g tb D σ H := by
  refine for_it walk_str Pv h0 (fun _ _ _ _ _ => True.intro) (fun i v σ H H' hi p y => ?_) hd
  obtain ⟨rfl, c, e, rfl⟩ := y
  exact hs i c σ H' (by rw [Array.getElem?_toList]; exact e) p
theorem s_addS {a b : Str} (hl : a.length + b.length ≤ 16777216) (h : Q (.str (a ++ b)) H) : oAddStr (.str a) (.str b) H Q := ⟨a, b, rfl, rfl, slz hl, h⟩
theorem s_split {a b : Str} (hh : Hs H L) (hb : (b.length == 0) = false) (ha : a.length ≤ 16000000) (k : ∀ p H', Hs H' ([(p, .lst ((Txt.split a b).map V.str))] :: L) → Q (.ref p) H') : cSplit (.str a) [.str b] H Q :=
  ⟨a, b, rfl, rfl, hb, by rw [sizeLine_eq]; omega, fun p hp => k p _ (hh.new hp)⟩
theorem s_join {a : Str} {p : Addr} {ys : List Str} (e : SqL K H p (ys.map V.str)) (hl : (ys.map (·.length)).sum + ys.length * a.length ≤ 16777216) (h : Q (.str (Txt.join a ys)) H) : cJoin K (.str a) [.ref p] H Q := ⟨a, p, ys, rfl, rfl, .inl e, hl, h⟩
theorem s_intS {a : Str} {n : Int} (e : PySem.intText? a = some n) (hl : a.length ≤ 640) (h : Q (.int n) H) : cIntStr [.str a] H Q := ⟨a, n, rfl, e, hl, h⟩
theorem s_strI {n : Int} (e : n.natAbs.log2 < 1920) (h : Q (.str (toString n)) H) : cStrInt [.int n] H Q := ⟨n, rfl, e, h⟩
theorem strs_atS {ws : List Str} {n : Nat} {w : Str} (h : ws[n]? = some w) : atI (ws.map V.str) (n : Int) = some (.str w) := atI_at (by rw [List.getElem?_map, h]; rfl)
theorem inV_strs (w : Str) (l : List Str) : inV (.str w) (l.map V.str) = decide (w ∈ l) := by
  induction l with
  | nil => rfl
  | cons a r ih =>
    have e : inV (.str w) ((a :: r).map V.str) = (eqV (.str a) (.str w) || inV (.str w) (r.map V.str)) := by simp [inV]
    rw [e, ih]
    by_cases h : w = a
    · simp [h, eqV]
    · have h' : ¬ a = w := fun z => h z.symm
      simp [h, h', eqV]
theorem flat_strs (l : List Str) : (l.map V.str).all flatV = true := by simp [flatV]
/-- w in (texts) -/
theorem s_inT {w : Str} {p : Addr} {l : List Str} (e : SqT K H p (l.map V.str)) (h : Q (.bl (decide (w ∈ l))) H) : rIn K false (.str w) (.ref p) H Q := ⟨p, _, rfl, .inr e, rfl, flat_strs l, by rw [inV_strs]; exact h⟩
end
/-- what an enumeration tells -/
theorem L_enumX {K : PySem.W.Frag} {σ : L2.St} {H : Hp} {D : Ends} {L : List Chunk} {J : It} {n : Nat} {G : Hp → Prop} {xs : List V} {a b : Nat} {tb : TS} (wk : Walk J n G (YPair (fun i => some (.int (i : Nat))) (fun i => xs[i]?))) (hn : xs.length = n)
    (Pv : Nat → L2.St → Hp → Prop) (h0 : Pv 0 σ H) (hG : ∀ i σ H, i ≤ n → Pv i σ H → G H)
    (hs : ∀ i x T σ H, xs[i]? = some x → Pv i σ H → H T = none → tb { D with nx := Pv (i + 1), ct := Pv (i + 1), bk := D.nx } ((σ.set a (some (.int (i : Nat)))).set b (some x)) (upd H T (.tup [.int (i : Nat), x]))) (hd : ∀ σ H, Pv n σ H → D.nx σ H) :
    LoopG J (gTup K 2 (gCons (gName a) (gCons (gName b) gNil))) tb D σ H := by
  refine for_it wk Pv h0 hG (fun i v σ H H' hi p' y => ?_) hd
  obtain ⟨T, x, y, rfl, hT, rfl, e1, e2⟩ := y
  cases e1
  exact ⟨T, _, rfl, SqT.of upd_same, rfl, _, _, rfl, _, _, rfl, rfl, hs i y T σ H e2 p' hT⟩
namespace SJ
theorem cut_one {c : Nat} : ∀ {x y r s : List Nat}, c ∉ x → c ∉ y → x ++ c :: r = y ++ c :: s → x = y ∧ r = s
  | [], [], _, _, _, _, h => by simpa using h
  | [], b :: y, _, _, _, hy, h => by
    have : c = b := by simpa using (List.cons.inj h).1
    exact absurd (this ▸ List.mem_cons_self) hy
  | a :: x, [], _, _, hx, _, h => by
    have : a = c := (List.cons.inj h).1
    exact absurd (this ▸ List.mem_cons_self) hx
  | a :: x, b :: y, r, s, hx, hy, h => by
    obtain ⟨e1, e2⟩ := List.cons.inj h
    obtain ⟨i1, i2⟩ := cut_one (fun z => hx (List.mem_cons_of_mem _ z)) (fun z => hy (List.mem_cons_of_mem _ z)) e2
    rw [e1, i1, i2]
    exact ⟨rfl, rfl⟩
theorem no_cut {c : Nat} {x r y : List Nat} (hy : c ∉ y) (h : x ++ c :: r = y) : False := hy (h ▸ List.mem_append_right _ List.mem_cons_self)
theorem tl_join (c : Nat) (x y : Str) (r : List Str) : (Str.join ⟨#[c]⟩ (x :: y :: r)).cps.toList = x.cps.toList ++ c :: (Str.join ⟨#[c]⟩ (y :: r)).cps.toList := by
  show (x ++ ⟨#[c]⟩ ++ Str.join ⟨#[c]⟩ (y :: r)).cps.toList = _
  show ((x.cps ++ #[c]) ++ (Str.join ⟨#[c]⟩ (y :: r)).cps).toList = _
  simp
theorem str_ext {x y : Str} (h : x.cps.toList = y.cps.toList) : x = y := by
  obtain ⟨a⟩ := x
  obtain ⟨b⟩ := y
  have : a = b := Array.toList_inj.mp h
  rw [this]
theorem join_inj (c : Nat) : ∀ {as bs : List Str}, as ≠ [] → bs ≠ [] → (∀ a ∈ as, c ∉ a.cps.toList) → (∀ b ∈ bs, c ∉ b.cps.toList) → Str.join ⟨#[c]⟩ as = Str.join ⟨#[c]⟩ bs → as = bs
  | [], _, h, _, _, _, _ => absurd rfl h
  | _, [], _, h, _, _, _ => absurd rfl h
  | [a], [b], _, _, _, _, h => by rw [show a = b from h]
  | [a], b :: b' :: bs, _, _, ha, _, h => by
    have h2 := congrArg (fun s : Str => s.cps.toList) h
    rw [tl_join] at h2
    exact absurd h2.symm (fun z => no_cut (ha a List.mem_cons_self) z)
  | a :: a' :: as, [b], _, _, _, hb, h => by
    have h2 := congrArg (fun s : Str => s.cps.toList) h
    rw [tl_join] at h2
    exact absurd h2 (fun z => no_cut (hb b List.mem_cons_self) z)
  | a :: a' :: as, b :: b' :: bs, _, _, ha, hb, h => by
    have h2 := congrArg (fun s : Str => s.cps.toList) h
    rw [tl_join, tl_join] at h2
    obtain ⟨e1, e2⟩ := cut_one (ha a List.mem_cons_self) (hb b List.mem_cons_self) h2
    have ih := join_inj c (as := a' :: as) (bs := b' :: bs) (by simp) (by simp) (fun x hx => ha x (List.mem_cons_of_mem _ hx)) (fun x hx => hb x (List.mem_cons_of_mem _ hx)) (str_ext e2)
    rw [str_ext e1, ih]
theorem split_join (c : Nat) {ls : List Str} (h : ls ≠ []) (hf : ∀ l ∈ ls, c ∉ l.cps.toList) : Txt.split (Txt.join ⟨#[c]⟩ ls) ⟨#[c]⟩ = ls := by
  have e : Txt.join ⟨#[c]⟩ ls = Str.join ⟨#[c]⟩ ls := PySem.StrLaws.glued_eq_join _ _
  rw [e]
  have hp := PyProof.Rows.split_pos (Str.join ⟨#[c]⟩ ls) ⟨#[c]⟩
  refine join_inj c (by intro z; rw [z] at hp; simp at hp) h (PySem.StrLaws.split_free _ c) hf (PySem.StrLaws.join_split _ _)
def SP : Str := " "
def NL : Str := "\n"
theorem SP_eq : SP = ⟨#[32]⟩ := by decide +kernel
theorem NL_eq : NL = ⟨#[10]⟩ := by decide +kernel
theorem split_words {ls : List Str} (h : ls ≠ []) (hf : ∀ l ∈ ls, 32 ∉ l.cps.toList) : Txt.split (Txt.join " " ls) " " = ls := by
  have := split_join 32 h hf
  rw [← SP_eq] at this
  exact this
theorem split_lines {ls : List Str} (h : ls ≠ []) (hf : ∀ l ∈ ls, 10 ∉ l.cps.toList) : Txt.split (Txt.join "\n" ls) "\n" = ls := by
  have := split_join 10 h hf
  rw [← NL_eq] at this
  exact this
theorem len_app (a b : Str) : (a ++ b).length = a.length + b.length := by show (a.cps ++ b.cps).size = _; rw [Array.size_append]; rfl
theorem join_mem_len (sep : Str) : ∀ {ls : List Str} {w : Str}, w ∈ ls → w.length ≤ (Str.join sep ls).length
  | [a], w, h => by rw [List.mem_singleton.mp h]; exact Nat.le_refl _
  | a :: b :: r, w, h => by
    have e : (Str.join sep (a :: b :: r)).length = a.length + sep.length + (Str.join sep (b :: r)).length := by
      show (a ++ sep ++ Str.join sep (b :: r)).length = _
      rw [len_app, len_app]
    rcases List.mem_cons.mp h with z | z
    · rw [z, e]; omega
    · have := join_mem_len sep (ls := b :: r) z
      rw [e]; omega
theorem split_mem_len {t sep w : Str} (h : w ∈ Txt.split t sep) : w.length ≤ t.length := by
  have := join_mem_len sep h
  rw [PySem.StrLaws.join_split] at this
  exact this
end SJ
def gEnumX (K : PySem.W.Frag) (vs : List V) (H1 : Hp) (R : It → Hp → Prop) : Prop := (∃ a xs, vs = [.ref a] ∧ SqL K H1 a xs ∧ R (Ite K a) H1) ∨ (∃ a xs, vs = [.ref a] ∧ SqT K H1 a xs ∧ R (IteT K a) H1) ∨ ∃ z, vs = [.str z] ∧ R (IteS z) H1
theorem x_iEnumX {K : PySem.W.Frag} {tas : TA} {σ : L2.St} {H : Hp} {R : It → Hp → Prop} (h : tas σ H fun vs H1 => gEnumX K vs H1 R) : iEnumX K tas σ H R := h
theorem y_enumL {K : PySem.W.Frag} {a : Addr} {xs : List V} {H : Hp} {R : It → Hp → Prop} (e : SqL K H a xs) (h : R (Ite K a) H) : gEnumX K [.ref a] H R := .inl ⟨a, xs, rfl, e, h⟩
theorem y_enumT {K : PySem.W.Frag} {a : Addr} {xs : List V} {H : Hp} {R : It → Hp → Prop} (e : SqT K H a xs) (h : R (IteT K a) H) : gEnumX K [.ref a] H R := .inr (.inl ⟨a, xs, rfl, e, h⟩)
theorem y_enumS {K : PySem.W.Frag} {z : Str} {H : Hp} {R : It → Hp → Prop} (h : R (IteS z) H) : gEnumX K [.str z] H R := .inr (.inr ⟨z, rfl, h⟩)
theorem walk_enumS' {z : Str} : Walk (IteS z) z.cps.toList.length (fun _ => True) (YPair (fun i => some (.int (i : Nat))) (fun i => (z.cps.toList.map fun c => V.str ⟨#[c]⟩)[i]?)) := by
  have e : (fun i : Nat => (z.cps.toList.map fun c => V.str ⟨#[c]⟩)[i]?) = fun i : Nat => z.cps[i]?.map fun c => V.str ⟨#[c]⟩ := by
    funext i
    rw [List.getElem?_map, Array.getElem?_toList]
  rw [e]
  exact walk_enumS
end SX0

set_option Elab.async false
set_option linter.all false
set_option maxRecDepth 100000
set_option maxHeartbeats 1000000
namespace PI
open PySem PySem.Spec PyProof.Rows L2 SX0 R_k82
/-! ### values -/
inductive Val | non | num (x : Int) | thg (t : Int)
  deriving DecidableEq
instance : Enc Val := ⟨fun d => match d with
  | .non => none
  | .num x => some [.str "number", .int x]
  | .thg t => some [.str "thing", .int t]⟩
abbrev PVal := PV Val
def kindS : Val → Str
  | .non => "none"
  | .num _ => "number"
  | .thg _ => "thing"
def tOf : Val → Option Int
  | .thg t => some t
  | _ => none
def oV : Option Int → V
  | none => .non
  | some i => .int i
theorem oV_non (a : Option Int) : decide (oV a = .non) = decide (a = none) := by cases a <;> simp [oV]
variable {K : PySem.W.Frag} {H : Hp} {Q : VK} {E : XK} {L R : List Chunk}
abbrev Ex (K : PySem.W.Frag) (n : Str) : Value := .ref (He.ga K n)
theorem c_kind_of {p : PVal} (hp : p.ok H) (h : Q (.str (kindS p.d)) H) : sp_kind_of K [p.v] H Q E := by
  refine i_kind_of ?_
  unfold t_kind_of
  obtain ⟨d, a⟩ := p
  cases d with
  | non =>
    walk_at "vh"
    exact x_decT rfl (x_ret h)
  | num x =>
    walk_at "vh"
    refine x_decF (fun z => by cases z) ?_
    walk_at "vh"
    exact x_ixT (SqT.of (hp _ (PV.c_some rfl))) rfl h
  | thg t =>
    walk_at "vh"
    refine x_decF (fun z => by cases z) ?_
    walk_at "vh"
    exact x_ixT (SqT.of (hp _ (PV.c_some rfl))) rfl h
theorem c_thing_of {p : PVal} (hp : p.ok H) (h : Q (oV (tOf p.d)) H) : sp_thing_of K [p.v] H Q E := by
  refine i_thing_of ?_
  unfold t_thing_of
  walk_at "vh"
  refine c_kind_of hp ?_
  obtain ⟨d, a⟩ := p
  cases d with
  | non => walk_at "vh"; refine x_decF (by dsimp only [kindS]; decide +kernel) ?_; walk_at "vh"; exact h
  | num x => walk_at "vh"; refine x_decF (by dsimp only [kindS]; decide +kernel) ?_; walk_at "vh"; exact h
  | thg t =>
    walk_at "vh"
    refine x_decT rfl ?_
    walk_at "vh"
    exact x_ixT (SqT.of (hp _ (PV.c_some rfl))) rfl h
/-! ### marks: dicts whose keys are ints, with True -/
def mk1 (ts : List Int) : List (Key × V) := ts.map fun t => (Sum.inl t, V.bl true)
theorem val_map {α : Type} (k : α → Int) (g : α → V) (t : Int) : ∀ l : List α, valV (l.map fun e => ((Sum.inl (k e) : Key), g e)) (Sum.inl t : Key) = (l.find? fun e => decide (k e = t)).map g
  | [] => rfl
  | e :: r => by
    have ih := val_map k g t r
    by_cases h : k e = t
    · rw [List.map_cons, valV_pos (by simp [h]), List.find?_cons]
      simp [h]
    · rw [List.map_cons, valV_neg (by simpa using h), List.find?_cons, ih]
      simp [h]
theorem val_mk (ts : List Int) (t : Int) : valV (mk1 ts) (Sum.inl t : Key) = if t ∈ ts then some (.bl true) else none := by
  unfold mk1
  rw [val_map (fun t => t) (fun _ => V.bl true)]
  by_cases h : t ∈ ts
  · rw [if_pos h]
    cases e : ts.find? fun e => decide (e = t) with
    | none => exact absurd h (fun z => by simpa using List.find?_eq_none.mp e t z)
    | some x => rfl
  · rw [if_neg h]
    cases e : ts.find? fun e => decide (e = t) with
    | none => rfl
    | some x =>
      have e1 := List.mem_of_find?_eq_some e
      have e2 : x = t := by simpa using List.find?_some e
      exact absurd (e2 ▸ e1) h
theorem isSome_mk (ts : List Int) (t : Int) : (valV (mk1 ts) (Sum.inl t : Key)).isSome = decide (t ∈ ts) := by
  rw [val_mk]; by_cases h : t ∈ ts <;> simp [h]
def add1 (ts : List Int) (t : Int) : List Int := if t ∈ ts then ts else ts ++ [t]
theorem put_mk (ts : List Int) (t : Int) : putK (mk1 ts) (Sum.inl t) (.bl true) = mk1 (add1 ts t) := by
  unfold add1
  by_cases h : t ∈ ts
  · rw [if_pos h]
    unfold putK
    have e : ((mk1 ts).any fun kv => decide (kv.1 = (Sum.inl t : Key))) = true := by
      rw [valV_any, isSome_mk]; simpa using h
    rw [if_pos e]
    unfold mk1
    rw [List.map_map]
    refine List.map_congr_left fun x _ => ?_
    by_cases z : x = t <;> simp [z]
  · rw [if_neg h, putK_new _ (by rw [val_mk, if_neg h])]
    simp [mk1]
theorem mk_len (ts : List Int) : (mk1 ts).length = ts.length := by simp [mk1]
theorem mk_keys (ts : List Int) : ((mk1 ts).map fun kv => kV kv.1) = ts.map V.int := by simp [mk1, kV]
def ded (ts : List Int) : List Int := ts.foldl add1 []
theorem add1_len (ts : List Int) (t : Int) : (add1 ts t).length ≤ ts.length + 1 := by unfold add1; split <;> simp
theorem mem_add1 {ts : List Int} {t u : Int} : u ∈ add1 ts t ↔ u ∈ ts ∨ u = t := by
  unfold add1; split
  · constructor
    · exact .inl
    · rintro (h | rfl) <;> assumption
  · simp
theorem nd_add1 {ts : List Int} {t : Int} (h : ts.Nodup) : (add1 ts t).Nodup := by
  unfold add1; split
  · exact h
  · rename_i n
    refine List.nodup_append.mpr ⟨h, by simp, fun a ha b hb => ?_⟩
    rw [List.mem_singleton] at hb
    exact fun z => n (hb ▸ z ▸ ha)
theorem ded_len (ts : List Int) : (ded ts).length ≤ ts.length := by
  have : ∀ (l acc : List Int), (l.foldl add1 acc).length ≤ acc.length + l.length := by
    intro l
    induction l with
    | nil => intro acc; simp
    | cons a r ih => intro acc; have := ih (add1 acc a); have := add1_len acc a; simp; omega
  simpa [ded] using this ts []
theorem mem_ded {ts : List Int} {t : Int} : t ∈ ded ts ↔ t ∈ ts := by
  have : ∀ (l acc : List Int), t ∈ l.foldl add1 acc ↔ t ∈ acc ∨ t ∈ l := by
    intro l
    induction l with
    | nil => intro acc; simp
    | cons a r ih => intro acc; rw [List.foldl_cons, ih, mem_add1, List.mem_cons, or_assoc]
  simpa [ded] using this ts []
theorem nd_ded (ts : List Int) : (ded ts).Nodup := by
  have : ∀ (l acc : List Int), acc.Nodup → (l.foldl add1 acc).Nodup := by
    intro l
    induction l with
    | nil => intro acc h; exact h
    | cons a r ih => intro acc h; exact ih _ (nd_add1 h)
  exact this ts [] List.nodup_nil
def tsOf (vs : List PVal) : List Int := vs.filterMap fun p => tOf p.d
theorem sl {n m : Nat} (h : n ≤ m) (hm : m ≤ 16777216 := by decide) : n ≤ sizeLine := by rw [sizeLine_eq]; omega
theorem sl' {n m : Nat} (h : n < m) (hm : m ≤ 16777216 := by decide) : n < sizeLine := by rw [sizeLine_eq]; omega
theorem get_map {α β : Type} {f : α → β} {l : List α} {i : Nat} {y : β} (h : (l.map f)[i]? = some y) : ∃ x, l[i]? = some x ∧ y = f x := by
  rw [List.getElem?_map] at h
  cases e : l[i]? with
  | none => rw [e] at h; cases h
  | some x => rw [e] at h; exact ⟨x, rfl, (Option.some.inj h).symm⟩
theorem take_snoc {α : Type} {l : List α} {i : Nat} {x : α} (h : l[i]? = some x) : l.take (i + 1) = l.take i ++ [x] := by rw [List.take_add_one, h]; rfl
theorem c_things_of {p : Addr} {vs : List PVal} (hh : Hs H L) (hk : ∀ H', Hs H' L → SqL K H' p (vs.map PV.v) ∧ ∀ q ∈ vs, q.ok H') (hl : vs.length ≤ 1000000)
    (h : ∀ r H', Hs H' ([(r, .lst ((ded (tsOf vs)).map V.int))] :: L) → Q (.ref r) H') : sp_things_of K [.ref p] H Q E := by
  refine i_things_of ?_
  unfold t_things_of
  walk_at "vh"
  refine y_dnewK hh fun f H hh => ?_
  walk_at "vh"
  refine x_gList (hk H hh.tail).1 ?_
  refine L_list (xs := vs.map PV.v) (fun i σ H' => (∃ a b, σ = [some (.ref p), some (.ref f), a, b]) ∧ Hs H' ([(f, .dK (mk1 (ded (tsOf (vs.take i)))))] :: L)) ⟨⟨_, _, rfl⟩, hh⟩ (fun i σ H' _ q => (hk H' q.2.tail).1) ?_ ?_
  · rintro i x σ H ix ⟨⟨a, b, rfl⟩, hh⟩
    obtain ⟨q, iq, rfl⟩ := get_map ix
    show tSeq _ _ _ _ _
    walk_at "vh"
    refine c_thing_of ((hk H hh.tail).2 q (List.mem_of_getElem? iq)) ?_
    have lt : (tsOf (vs.take i)).length ≤ 1000000 := by
      have a1 : (tsOf (vs.take i)).length ≤ (vs.take i).length := List.length_filterMap_le _ _
      rw [List.length_take] at a1; omega
    have tk : tsOf (vs.take (i + 1)) = tsOf (vs.take i) ++ (tOf q.d).toList := by
      rw [take_snoc iq, tsOf, List.filterMap_append]
      unfold tsOf
      cases e : tOf q.d <;> simp [e]
    cases e : tOf q.d with
    | none =>
      walk_at "vh"
      refine x_ndecF rfl ?_
      walk_at "vh"
      refine ⟨⟨_, _, rfl⟩, ?_⟩
      rw [tk, e]; simpa using hh
    | some t =>
      walk_at "vh"
      refine x_ndecT (fun z => by cases z) ?_
      walk_at "vh"
      refine y_dput (y := t) hh 0 rfl (by rw [mk_len]; have := ded_len (tsOf (vs.take i)); exact sl' (m := 1000001) (by omega)) fun H hh => ?_
      refine ⟨⟨_, _, rfl⟩, ?_⟩
      rw [put_mk] at hh
      rw [tk, e]
      simpa [ded] using hh
  · rintro σ H ⟨⟨a, b, rfl⟩, hh⟩
    rw [List.length_map, List.take_length] at hh
    walk_at "vh"
    refine y_listD hh (.inl (hh.g 0 rfl)) fun r H hh => ?_
    rw [mk_keys] at hh
    exact h r H (hh.sub (by simp))
end PI

set_option Elab.async false
set_option linter.all false
set_option maxRecDepth 100000
set_option maxHeartbeats 1000000
namespace PI
open PySem PySem.Spec PyProof.Rows L2 SX0 R_k82
variable {K : PySem.W.Frag} {H : Hp} {Q : VK} {E : XK} {L R : List Chunk}
/-! ### things -/
structure TH where
  t : Int
  o : Addr
  dx : Addr
  l : Addr
  fs : List PVal
  aged : Bool
  lw : Option Int
abbrev IT (K : PySem.W.Frag) : Addr := He.ga K "IdealThing"
def TH.ob (K : PySem.W.Frag) (e : TH) : HO := .ins (IT K) e.dx [("inside", .ref e.l), ("aged", .bl e.aged), ("last_word", oV e.lw)]
def TH.c (K : PySem.W.Frag) (e : TH) : Chunk := [(e.o, e.ob K), (e.l, .lst (e.fs.map PV.v))]
def kK (kept : List TH) : List (Key × V) := kept.map fun e => (Sum.inl e.t, V.ref e.o)
def ids (kept : List TH) : List Int := kept.map (·.t)
def thc (K : PySem.W.Frag) (kept : List TH) : Chunk := kept.flatMap (TH.c K)
def vac (kept : List TH) : Chunk := kept.flatMap fun e => vcs e.fs
theorem thc_o {kept : List TH} {e : TH} (h : e ∈ kept) : (e.o, e.ob K) ∈ thc K kept := List.mem_flatMap.mpr ⟨e, h, List.mem_cons_self⟩
theorem thc_l {kept : List TH} {e : TH} (h : e ∈ kept) : (e.l, HO.lst (e.fs.map PV.v)) ∈ thc K kept := List.mem_flatMap.mpr ⟨e, h, List.mem_cons_of_mem _ List.mem_cons_self⟩
theorem vac_m {kept : List TH} {e : TH} (h : e ∈ kept) {q : PVal} (hq : q ∈ e.fs) {x : Cell} (hx : x ∈ q.c) : x ∈ vac kept := List.mem_flatMap.mpr ⟨e, h, vcs_mem hq hx⟩
theorem find_id {α : Type} {l : List α} {k : α → Int} (nd : (l.map k).Nodup) {e : α} (h : e ∈ l) : l.find? (fun x => decide (k x = k e)) = some e := by
  induction l with
  | nil => cases h
  | cons x r ih =>
    rw [List.map_cons] at nd
    obtain ⟨n1, n2⟩ := List.nodup_cons.mp nd
    rw [List.find?_cons]
    rcases List.mem_cons.mp h with z | z
    · subst z; simp
    · have ne : ¬ k x = k e := fun q => n1 (q ▸ List.mem_map.mpr ⟨e, z, rfl⟩)
      simp only [ne, decide_false]
      exact ih n2 z
theorem val_kK {kept : List TH} (nd : (ids kept).Nodup) {e : TH} (h : e ∈ kept) : valV (kK kept) (Sum.inl e.t : Key) = some (.ref e.o) := by
  unfold kK
  rw [val_map (fun e : TH => e.t) (fun e => V.ref e.o), find_id nd h]; rfl
theorem isSome_kK {kept : List TH} (t : Int) : (valV (kK kept) (Sum.inl t : Key)).isSome = decide (t ∈ ids kept) := by
  unfold kK
  rw [val_map (fun e : TH => e.t) (fun e => V.ref e.o), Option.isSome_map]
  induction kept with
  | nil => rfl
  | cons x r ih =>
    rw [List.find?_cons]
    by_cases z : x.t = t
    · simp [z, ids]
    · have z' : ¬ t = x.t := fun q => z q.symm
      simp only [z, decide_false, ih]
      simp [ids, z']
theorem id_mem {kept : List TH} {t : Int} (h : t ∈ ids kept) : ∃ e ∈ kept, e.t = t := by simpa [ids] using h
/-- what is known of things -/
structure Kn (K : PySem.W.Frag) (kept : List TH) (H : Hp) : Prop where
  o : ∀ e ∈ kept, H e.o = some (e.ob K)
  l : ∀ e ∈ kept, H e.l = some (.lst (e.fs.map PV.v))
  v : ∀ e ∈ kept, ∀ q ∈ e.fs, q.ok H
theorem Kn.of {kept : List TH} (h1 : ∀ x ∈ thc K kept, H x.1 = some x.2) (h2 : ∀ x ∈ vac kept, H x.1 = some x.2) : Kn K kept H :=
  ⟨fun e he => h1 _ (thc_o he), fun e he => h1 _ (thc_l he), fun e he q hq x hx => h2 _ (vac_m he hq hx)⟩
theorem Kn.ofL {kept : List TH} (hh : Hs H L) (i j : Nat) (h1 : L[i]? = some (thc K kept)) (h2 : L[j]? = some (vac kept)) : Kn K kept H :=
  .of (fun x hx => hh.cell i h1 hx) (fun x hx => hh.cell j h2 hx)
/-! ### led_within -/
def flo (kept : List TH) (t : Int) : List Int := match kept.find? fun e => decide (e.t = t) with
  | some e => tsOf (e.fs)
  | none => []
inductive Led (fl : Int → List Int) (som : Int → Prop) (st : List Int) : Int → Prop
  | start {t : Int} : t ∈ st → som t → Led fl som st t
  | step {t u : Int} : Led fl som st t → u ∈ fl t → som u → Led fl som st u
theorem flo_of {kept : List TH} (nd : (ids kept).Nodup) {e : TH} (h : e ∈ kept) : flo kept e.t = tsOf e.fs := by
  unfold flo; rw [find_id (k := fun e : TH => e.t) nd h]
theorem lookIT (a b c : V) : ([("inside", a), ("aged", b), ("last_word", c)] : List (Str × V)).lookup ("inside" : Str) = some a := rfl
/-- [x for x in xs if x in d] -/
theorem lc_in {p sm : Addr} {l : List Int} {skvs : List (Key × V)} {som : List Int} {i j : Nat} {σ : L2.St} (hi : i < σ.length) (hj : σ[j]? = some (some (.ref sm))) (hij : j ≠ i) (hh : Hs H L)
    (hp : ∀ H', Hs H' L → SqL K H' p (l.map V.int) ∧ H' sm = some (.dK skvs)) (hs : ∀ t, (valV skvs (Sum.inl t : Key)).isSome = decide (t ∈ som)) (hl : l.length ≤ 16000000)
    (hq : ∀ D H2, Hs H2 ([(D, .lst ((l.filter fun t => decide (t ∈ som)).map V.int))] :: L) → Q (.ref D) H2) :
    LcG (Itl K p) (gName i) (tB (tDIn (tVar i) (tVar j))) (tVar i) [i] σ H Q := by
  refine L_lcl (xs := l.map V.int) (fun v => match v with | .int t => if t ∈ som then some (.int t) else none | _ => none) hh (fun D acc H' h => (hp H' h.tail).1) (by simpa using hl) (fun k x D acc H2 hx h R hR => ?_) fun D H2 h => hq D H2 ?_
  · obtain ⟨t, _, rfl⟩ := get_map hx
    refine x_own hi fun e => ?_
    walk_at "vh"
    refine x_tB (x_din (x_var e (x_var (by rw [List.getElem?_set_ne (Ne.symm hij)]; exact hj) (x_dinK (y := t) (.inl (hp H2 h.tail).2) ?_))))
    rw [hs]
    refine x_bl ?_
    have r := hR H2 h
    by_cases z : t ∈ som
    · simp only [if_pos z] at r
      exact x_decT z (x_var e r)
    · simp only [if_neg z] at r
      exact x_decF z r
  · have e : (l.map V.int).filterMap (fun v => match v with | .int t => if t ∈ som then some (V.int t) else none | _ => none) = (l.filter fun t => decide (t ∈ som)).map V.int := by
      clear hp hq h hl
      induction l with
      | nil => rfl
      | cons a r ih =>
        by_cases z : a ∈ som
        · simp [z, ih]
        · simp [z, ih]
    rw [e] at h
    exact h
theorem nodup_len : ∀ {l m : List Int}, l.Nodup → (∀ x ∈ l, x ∈ m) → l.length ≤ m.length
  | [], _, _, _ => Nat.zero_le _
  | a :: l, m, nd, h => by
    obtain ⟨n1, n2⟩ := List.nodup_cons.mp nd
    have hm : a ∈ m := h a List.mem_cons_self
    have q := nodup_len (l := l) (m := m.erase a) n2 fun x hx => by
      have ne : x ≠ a := fun z => n1 (z ▸ hx)
      exact (List.mem_erase_of_ne ne).mpr (h x (List.mem_cons_of_mem _ hx))
    have e := List.length_erase_of_mem hm
    have pos : 0 < m.length := List.length_pos_of_mem hm
    rw [List.length_cons]
    omega
structure LW (kept : List TH) (som st ks left : List Int) : Prop where
  nd : ks.Nodup
  k1 : ∀ t ∈ ks, Led (flo kept) (· ∈ som) st t
  l1 : ∀ t ∈ left, Led (flo kept) (· ∈ som) st t
  cl : ∀ t ∈ ks, ∀ u ∈ flo kept t, u ∈ som → u ∈ ks ∨ u ∈ left
  s0 : ∀ t ∈ st, t ∈ som → t ∈ ks ∨ t ∈ left
  ln : left.length ≤ st.length + 1000 * ks.length
theorem Led.som {fl : Int → List Int} {som : Int → Prop} {st : List Int} {t : Int} (h : Led fl som st t) : som t := by cases h <;> assumption
theorem c_led_within {kp sp sm : Addr} {kept : List TH} {st som : List Int} {skvs : List (Key × V)} (hh : Hs H L)
    (hk : ∀ H', Hs H' L → Kn K kept H' ∧ H' kp = some (.dK (kK kept)) ∧ H' sp = some (.lst (st.map V.int)) ∧ H' sm = some (.dK skvs)) (nd : (ids kept).Nodup)
    (hs : ∀ t, (valV skvs (Sum.inl t : Key)).isSome = decide (t ∈ som)) (hsub : ∀ t ∈ som, t ∈ ids kept) (hl : st.length ≤ 1000000 ∧ kept.length ≤ 10000) (hf : ∀ e ∈ kept, e.fs.length ≤ 900)
    (h : ∀ r ks H', ks.Nodup → (∀ t, t ∈ ks ↔ Led (flo kept) (· ∈ som) st t) → Hs H' ([(r, .dK (mk1 ks))] :: L) → Q (.ref r) H') : sp_led_within K [.ref kp, .ref sp, .ref sm] H Q E := by
  refine i_led_within ?_
  unfold t_led_within
  walk_at "vh"
  refine y_dnewK hh fun f H hh => ?_
  walk_at "vh"
  refine x_gList (SqL.of (hk H hh.tail).2.2.1) ?_
  refine lc_in (som := som) (skvs := skvs) (by simp) rfl (by decide) hh (fun H' h' => ⟨SqL.of (hk H' h'.tail).2.2.1, (hk H' h'.tail).2.2.2⟩) hs (by omega) fun lf H hh => ?_
  walk_at "vh"
  refine L_while (fun m σ H' => ∃ ks left, m = (kept.length - ks.length) * 1000 + left.length ∧ LW kept som st ks left ∧ (∃ a b, σ = [some (.ref kp), some (.ref sp), some (.ref sm), some (.ref f), some (.ref lf), a, b]) ∧ Hs H' ([(lf, .lst (left.map V.int))] :: [(f, .dK (mk1 ks))] :: L)) _
    ⟨[], st.filter fun t => decide (t ∈ som), rfl, ⟨List.nodup_nil, (fun t ht => by cases ht), fun t ht => ?_, (fun t ht => by cases ht), fun t ht hm => .inr (by simp [ht, hm]), by have := List.length_filter_le (fun t => decide (t ∈ som)) st; simp; omega⟩, ⟨_, _, rfl⟩, hh⟩ ?_
  · have z := List.mem_filter.mp ht
    exact .start z.1 (by simpa using z.2)
  rintro m σ H ⟨ks, left, rfl, w, ⟨a, b, rfl⟩, hh⟩
  have ksub : ∀ t ∈ ks, t ∈ ids kept := fun t ht => hsub t (w.k1 t ht).som
  have kl : ks.length ≤ kept.length := by have := nodup_len w.nd ksub; simpa [ids] using this
  walk_at "vh"
  refine x_truL (SqL.of (hh.g 0 rfl)) ?_
  refine x_iteB (fun hne => ?_) (fun he => ?_)
  · have ne : left ≠ [] := by rintro rfl; simp at hne
    obtain ⟨l0, x, rfl⟩ : ∃ l0 x, left = l0 ++ [x] := ⟨left.dropLast, left.getLast ne, (List.dropLast_concat_getLast ne).symm⟩
    refine x_whileGo ?_
    walk_at "vh"
    refine ⟨x_tyL (hh.g 0 rfl), ?_⟩
    refine y_pop (y := .int x) hh 0 rfl (by simp) fun H hh => ?_
    have ed : ((l0 ++ [x]).map V.int).dropLast = l0.map V.int := by simp
    rw [ed] at hh
    walk_at "vh"
    refine x_dnotinK (y := x) (.inl (hh.g 1 rfl)) ?_
    rw [isSome_mk]
    refine x_bl ?_
    have lx := w.l1 x (by simp)
    by_cases hx : x ∈ ks
    · refine x_ndecF hx ?_
      walk_at "vh"
      refine ⟨_, ?_, ks, l0, rfl, ⟨w.nd, w.k1, fun t ht => w.l1 t (by simp [ht]), fun t ht u hu hs => ?_, fun t ht hs => ?_, ?_⟩, ⟨_, _, rfl⟩, hh⟩
      · simp
      · rcases w.cl t ht u hu hs with z | z
        · exact .inl z
        · rcases List.mem_append.mp z with z | z
          · exact .inr z
          · rw [List.mem_singleton] at z; subst z; exact .inl hx
      · rcases w.s0 t ht hs with z | z
        · exact .inl z
        · rcases List.mem_append.mp z with z | z
          · exact .inr z
          · rw [List.mem_singleton] at z; subst z; exact .inl hx
      · have := w.ln; simp at this; omega
    · refine x_ndecT hx ?_
      have xs' := hsub x lx.som
      obtain ⟨e, he, rfl⟩ := id_mem xs'
      have kl2 : (e.t :: ks).length ≤ kept.length := by
        have := nodup_len (l := e.t :: ks) (m := ids kept) (List.nodup_cons.mpr ⟨hx, w.nd⟩) (fun t ht => by
          rcases List.mem_cons.mp ht with z | z
          · rw [z]; exact xs'
          · exact ksub t z)
        simpa [ids] using this
      rw [List.length_cons] at kl2
      walk_at "vh"
      refine y_dput (y := e.t) hh 1 rfl (by rw [mk_len]; exact sl' (m := 1000001) (by omega)) fun H hh => ?_
      rw [put_mk, show add1 ks e.t = ks ++ [e.t] from if_neg hx] at hh
      walk_at "vh"
      refine ⟨x_tyL (hh.g 0 rfl), ?_⟩
      walk_at "vh"
      refine x_dgetK (y := e.t) (.inl (hk H hh.tail.tail).2.1) (val_kK nd he) ?_
      refine y_fd ((hk H hh.tail.tail).1.o e he) (by walk_at "hm") (lookIT _ _ _) ?_
      walk_at "vh"
      have fl := hf e he
      refine c_things_of hh (fun H' h' => ⟨SqL.of ((hk H' h'.tail.tail).1.l e he), (hk H' h'.tail.tail).1.v e he⟩) (by omega) fun r H hh => ?_
      refine x_gList (SqL.of (hh.g 0 rfl)) ?_
      have dl : (ded (tsOf e.fs)).length ≤ 900 := by
        have a1 := ded_len (tsOf e.fs)
        have a2 : (tsOf e.fs).length ≤ e.fs.length := List.length_filterMap_le _ _
        omega
      refine lc_in (som := som) (skvs := skvs) (by simp) rfl (by decide) hh (fun H' h' => ⟨SqL.of (h'.g 0 rfl), (hk H' h'.tail.tail.tail).2.2.2⟩) hs (by omega) fun D H hh => ?_
      walk_at "vh"
      have fl2 : ((ded (tsOf e.fs)).filter fun t => decide (t ∈ som)).length ≤ 900 := Nat.le_trans (List.length_filter_le _ _) dl
      have wl := w.ln
      simp at wl
      refine y_extend hh 2 rfl (hh.g 0 rfl) (by rw [List.length_map, List.length_map]; exact sl (m := 16777216) (by omega)) fun H hh => ?_
      rw [← List.map_append] at hh
      have fe := flo_of nd he
      refine ⟨_, ?_, ks ++ [e.t], l0 ++ (ded (tsOf e.fs)).filter fun t => decide (t ∈ som), rfl, ⟨?_, fun t ht => ?_, fun t ht => ?_, fun t ht u hu hs => ?_, fun t ht hs => ?_, ?_⟩, ⟨_, _, rfl⟩, hh.tail.tail⟩
      · simp; omega
      · refine List.nodup_append.mpr ⟨w.nd, by simp, fun a ha b hb => ?_⟩
        rw [List.mem_singleton] at hb
        exact fun z => hx (hb ▸ z ▸ ha)
      · rcases List.mem_append.mp ht with z | z
        · exact w.k1 t z
        · rw [List.mem_singleton] at z; rw [z]; exact lx
      · rcases List.mem_append.mp ht with z | z
        · exact w.l1 t (by simp [z])
        · have q := List.mem_filter.mp z
          exact .step lx (by rw [fe]; exact mem_ded.mp q.1) (by simpa using q.2)
      · rcases List.mem_append.mp ht with z | z
        · rcases w.cl t z u hu hs with y | y
          · exact .inl (by simp [y])
          · rcases List.mem_append.mp y with y | y
            · exact .inr (by simp [y])
            · rw [List.mem_singleton] at y; exact .inl (by simp [y])
        · rw [List.mem_singleton] at z
          subst z
          rw [fe] at hu
          exact .inr (by simp [mem_ded, hu, hs])
      · rcases w.s0 t ht hs with y | y
        · exact .inl (by simp [y])
        · rcases List.mem_append.mp y with y | y
          · exact .inr (by simp [y])
          · rw [List.mem_singleton] at y; exact .inl (by simp [y])
      · simp; omega
  · have e0 : left = [] := by
      cases left with
      | nil => rfl
      | cons _ _ => simp at he
    subst e0
    walk_at "vh"
    refine h f ks H w.nd (fun t => ⟨w.k1 t, fun z => ?_⟩) hh.tail
    induction z with
    | start h1 h2 => rcases w.s0 _ h1 h2 with y | y; exact y; cases y
    | step _ h2 h3 ih => rcases w.cl _ ih _ h2 h3 with y | y; exact y; cases y
end PI

set_option Elab.async false
set_option linter.all false
set_option maxRecDepth 100000
set_option maxHeartbeats 1000000
namespace PI
open PySem PySem.Spec PyProof.Rows L2 SX0 R_k82
variable {K : PySem.W.Frag} {H : Hp} {Q : VK} {E : XK} {L R : List Chunk}
/-! ### looks -/
theorem c_look_at_hand {h : Int} (h1 : 0 ≤ h ∧ h < 8 → Q .non H) (h2 : ¬ (0 ≤ h ∧ h < 8) → E (Ex K "BadHand") none H) : sp_look_at_hand K [.int h] H Q E := by
  refine i_look_at_hand ?_
  unfold t_look_at_hand
  walk_at "vh"
  refine x_ite (fun a => ?_) fun a => ?_
  · walk_at "vh"; exact h2 (by omega)
  · walk_at "vh"
    refine x_ite (fun b => ?_) fun b => ?_
    · walk_at "vh"; exact h2 (by omega)
    · walk_at "vh"; exact h1 (by omega)
theorem c_look_at_name {h : Int} (h1 : 0 ≤ h ∧ h < 8 → Q .non H) (h2 : ¬ (0 ≤ h ∧ h < 8) → E (Ex K "BadName") none H) : sp_look_at_name K [.int h] H Q E := by
  refine i_look_at_name ?_
  unfold t_look_at_name
  walk_at "vh"
  refine x_ite (fun a => ?_) fun a => ?_
  · walk_at "vh"; exact h2 (by omega)
  · walk_at "vh"
    refine x_ite (fun b => ?_) fun b => ?_
    · walk_at "vh"; exact h2 (by omega)
    · walk_at "vh"; exact h1 (by omega)
theorem c_words_of {n : Int} (h1 : 0 ≤ n ∧ n ≤ 6 → Q (.int (n + 1)) H) (h2 : ¬ (0 ≤ n ∧ n ≤ 6) → E (Ex K "BadCount") none H) : sp_words_of K [.int n] H Q E := by
  refine i_words_of ?_
  unfold t_words_of
  walk_at "vh"
  refine x_ite (fun a => ?_) fun a => ?_
  · walk_at "vh"; exact h2 (by omega)
  · walk_at "vh"
    refine x_ite (fun b => ?_) fun b => ?_
    · walk_at "vh"; exact h2 (by omega)
    · walk_at "vh"; exact h1 (by omega)
abbrev FAR : Int := 1000000000000000000000000000000000000000000000000000000000000
theorem c_number_value {x : Int} (hh : Hs H L) (h1 : -FAR ≤ x ∧ x ≤ FAR → ∀ a H', Hs H' ([(a, .tup [.str "number", .int x])] :: L) → Q (.ref a) H') (h2 : ¬ (-FAR ≤ x ∧ x ≤ FAR) → E (Ex K "BadCount") none H) : sp_number_value K [.int x] H Q E := by
  refine i_number_value ?_
  unfold t_number_value
  have eF : FAR = 1000000000000000000000000000000000000000000000000000000000000 := rfl
  walk_at "vh"
  refine x_ite (fun a => ?_) fun a => ?_
  · walk_at "vh"; exact h2 (by omega)
  · walk_at "vh"
    refine x_ite (fun b => ?_) fun b => ?_
    · walk_at "vh"; exact h2 (by omega)
    · walk_at "vh"; exact y_tup hh fun p H' hh => h1 (by omega) p H' hh
theorem c_thing_value {t : Int} (hh : Hs H L) (h1 : ∀ a H', Hs H' ([(a, .tup [.str "thing", .int t])] :: L) → Q (.ref a) H') : sp_thing_value K [.int t] H Q E := by
  refine i_thing_value ?_
  unfold t_thing_value
  walk_at "vh"
  exact y_tup hh fun p H' hh => h1 p H' hh
/-! ### the young ones, words -/
def yids (kept : List TH) : List Int := ids (kept.filter fun e => !e.aged)
theorem getIT1 (a b c : V) : ([("inside", a), ("aged", b), ("last_word", c)] : List (Str × V)).lookup ("aged" : Str) = some b := rfl
theorem getIT2 (a b c : V) : ([("inside", a), ("aged", b), ("last_word", c)] : List (Str × V)).lookup ("last_word" : Str) = some c := rfl
theorem yids_sub {kept : List TH} {t : Int} (h : t ∈ yids kept) : t ∈ ids kept := by
  obtain ⟨e, he, rfl⟩ := List.mem_map.mp h
  exact List.mem_map.mpr ⟨e, (List.mem_filter.mp he).1, rfl⟩
theorem yids_nd {kept : List TH} (h : (ids kept).Nodup) : (yids kept).Nodup := ((List.filter_sublist).map _).nodup h
theorem at_kK {kept : List TH} {i : Nat} {k : Key} {v : V} (h : (kK kept)[i]? = some (k, v)) : ∃ e, kept[i]? = some e ∧ k = Sum.inl e.t ∧ v = .ref e.o := by
  obtain ⟨e, he, h2⟩ := get_map h
  cases h2
  exact ⟨e, he, rfl, rfl⟩
theorem c_young_things {kp : Addr} {kept : List TH} (hh : Hs H L) (i : Nat) (ei : L[i]? = some [(kp, .dK (kK kept))]) (hk : ∀ od H', Hs H' (L.set i [(kp, .frz od (.dK (kK kept)))]) → Kn K kept H') (nd : (ids kept).Nodup) (hl : kept.length ≤ 1000000)
    (h : ∀ r H', Hs H' ([(r, .dK (mk1 (yids kept)))] :: L) → Q (.ref r) H') : sp_young_things K [.ref kp] H Q E := by
  refine i_young_things ?_
  unfold t_young_things
  walk_at "vh"
  refine y_dnewK hh fun f H hh => ?_
  walk_at "vh"
  refine y_lock hh (i + 1) (by simpa using ei) fun od H hh => ?_
  rw [List.set_cons_succ] at hh
  have hi : ∀ {H' : Hp} {c : Chunk}, Hs H' (c :: L.set i [(kp, .frz od (.dK (kK kept)))]) → H' kp = some (.frz od (.dK (kK kept))) := fun {H'} {c} h' => h'.g (i + 1) (by
    have := (List.getElem?_eq_some_iff.mp ei).1
    simp [List.getElem?_set, this])
  walk_at "vh"
  refine x_gKeys (hi hh) ?_
  refine L_keys (fun j σ H' => (∃ b, σ = [some (.ref kp), some (.ref f), b]) ∧ Hs H' ([(f, .dK (mk1 (yids (kept.take j))))] :: L.set i [(kp, .frz od (.dK (kK kept)))])) ⟨⟨_, rfl⟩, hh⟩ (fun j σ H' _ q => hi q.2) ?_ ?_
  · rintro j k v σ H ij ⟨⟨b, rfl⟩, hh⟩
    obtain ⟨e, ie, rfl, rfl⟩ := at_kK ij
    have em := List.mem_of_getElem? ie
    show tIfS _ _ _ _ _ _
    walk_at "vh"
    refine x_dgetK (y := e.t) (.inr ⟨_, hi hh⟩) (val_kK nd em) ?_
    refine y_fd ((hk od H hh.tail).o e em) (by walk_at "hm") (getIT1 _ _ _) ?_
    walk_at "vh"
    have tk : yids (kept.take (j + 1)) = yids (kept.take j) ++ (if e.aged then [] else [e.t]) := by
      rw [take_snoc ie]
      unfold yids ids
      rw [List.filter_append, List.map_append]
      cases z : e.aged <;> simp [z]
    cases z : e.aged with
    | true =>
      refine x_iteF ?_
      walk_at "vh"
      refine ⟨⟨_, rfl⟩, ?_⟩
      rw [tk, z]; simpa using hh
    | false =>
      refine x_iteT ?_
      walk_at "vh"
      have lt : (yids (kept.take j)).length ≤ 1000000 := by
        have a1 : (yids (kept.take j)).length ≤ (kept.take j).length := by unfold yids ids; rw [List.length_map]; exact List.length_filter_le _ _
        rw [List.length_take] at a1; omega
      refine y_dput (y := e.t) hh 0 rfl (by rw [mk_len]; exact sl' (m := 1000001) (by omega)) fun H hh => ?_
      refine ⟨⟨_, rfl⟩, ?_⟩
      have ne : e.t ∉ yids (kept.take j) := fun z2 => by
        have n1 : (ids (kept.take (j + 1))).Nodup := (List.take_sublist _ _ |>.map _).nodup nd
        rw [take_snoc ie] at n1
        unfold ids at n1
        rw [List.map_append] at n1
        exact (List.nodup_append.mp n1).2.2 e.t (yids_sub z2) e.t (by simp) rfl
      rw [put_mk, show add1 (yids (kept.take j)) e.t = yids (kept.take j) ++ [e.t] from if_neg ne] at hh
      rw [tk, z]
      exact hh
  · rintro σ H ⟨⟨b, rfl⟩, hh⟩
    rw [kK, List.length_map, List.take_length] at hh
    obtain ⟨u1, u2⟩ := hh.unlockK (i + 1) (d := kp) (od := od) (kvs := kK kept) (by
      have := (List.getElem?_eq_some_iff.mp ei).1
      simp [List.getElem?_set, this, kK])
    refine ⟨u1, ?_⟩
    walk_at "vh"
    refine h f _ ?_
    rw [List.set_cons_succ, List.set_set] at u2
    have e2 : L.set i [(kp, HO.dK (kK kept))] = L := by
      have := List.getElem?_eq_some_iff.mp ei
      obtain ⟨q1, q2⟩ := this
      rw [← q2]; exact List.set_getElem_self q1
    rw [e2] at u2
    exact u2
/-- the words of the things of some marks -/
def wsum (kept : List TH) (ts : List Int) : Int := (ts.map fun t => match kept.find? fun e => decide (e.t = t) with
  | some e => (e.fs.length : Int) + 1
  | none => 0).sum
theorem c_words_in {kp sm : Addr} {kept : List TH} {ts : List Int} {skvs : List (Key × V)} (hh : Hs H L) (i : Nat) (ei : L[i]? = some [(sm, .dK skvs)]) (ek : skvs.map (·.1) = ts.map Sum.inl)
    (hk : ∀ od H', Hs H' (L.set i [(sm, .frz od (.dK skvs))]) → Kn K kept H' ∧ Rd H' kp (.dK (kK kept))) (nd : (ids kept).Nodup) (hsub : ∀ t ∈ ts, t ∈ ids kept) (h6 : ∀ e ∈ kept, e.fs.length ≤ 6) (hl : ts.length ≤ 1000000)
    (h : ∀ H', Hs H' L → Q (.int (wsum kept ts)) H') : sp_words_in K [.ref kp, .ref sm] H Q E := by
  refine i_words_in ?_
  unfold t_words_in
  walk_at "vh"
  refine y_lockE hh i ei fun od H hh => ?_
  have hi : ∀ {H' : Hp}, Hs H' (L.set i [(sm, .frz od (.dK skvs))]) → H' sm = some (.frz od (.dK skvs)) := fun {H'} h' => h'.g i (by
    have := (List.getElem?_eq_some_iff.mp ei).1
    simp [List.getElem?_set, this])
  have hkl : skvs.length = ts.length := by
    have := congrArg List.length ek
    simpa using this
  walk_at "vh"
  refine x_gKeys (hi hh) ?_
  refine L_lck (fun v => match v with | .int t => some (.int (match kept.find? fun e => decide (e.t = t) with | some e => (e.fs.length : Int) + 1 | none => 0)) | _ => none) hh (fun D acc H' h' => hi h'.tail) (by omega) (fun j k v D acc H2 hj h' R hR => ?_) fun D H2 h' => ?_
  · have hk1 : ∃ t, t ∈ ts ∧ k = Sum.inl t := by
      have a1 : (skvs.map (·.1))[j]? = some k := by rw [List.getElem?_map, hj]; rfl
      rw [ek] at a1
      obtain ⟨t, ht, e⟩ := get_map a1
      exact ⟨t, List.mem_of_getElem? ht, e⟩
    obtain ⟨t, ht, rfl⟩ := hk1
    obtain ⟨e, he, rfl⟩ := id_mem (hsub t ht)
    refine x_own (by simp) fun ev => ?_
    refine x_yes (x_iteT ?_)
    refine x_callS (x_cons (x_cb (x_cons (x_fd (x_dget ?_)))))
    walk_at "vh"
    refine x_dgetK (y := e.t) (hk od H2 h'.tail).2 (val_kK nd he) ?_
    refine y_fd ((hk od H2 h'.tail).1.o e he) (by walk_at "hm") (lookIT _ _ _) ?_
    walk_at "vh"
    refine x_lenL (SqL.of ((hk od H2 h'.tail).1.l e he)) ?_
    walk_at "vh"
    rw [List.length_map]
    have l6 := h6 e he
    refine c_words_of (fun _ => ?_) fun q => absurd ⟨by omega, by omega⟩ q
    have r := hR H2 h'
    simp only [kV] at r
    rw [find_id (k := fun e : TH => e.t) nd he] at r
    exact r
  · refine ⟨hi h'.tail, ?_⟩
    have hlen := (List.getElem?_eq_some_iff.mp ei).1
    obtain ⟨u1, u2⟩ := h'.unlockK (i + 1) (d := sm) (od := od) (kvs := skvs) (by simp [List.getElem?_set, hlen])
    rw [List.set_cons_succ, List.set_set, show L.set i [(sm, HO.dK skvs)] = L from by
      obtain ⟨q1, q2⟩ := List.getElem?_eq_some_iff.mp ei
      rw [← q2]; exact List.set_getElem_self q1] at u2
    have e1 : (skvs.map fun e => kV e.1) = ts.map V.int := by
      have : (skvs.map fun e => kV e.1) = (skvs.map (·.1)).map kV := by rw [List.map_map]; rfl
      rw [this, ek, List.map_map]; rfl
    have e2 : ((skvs.map fun e => kV e.1).filterMap fun v => match v with | .int t => some (V.int (match kept.find? fun e => decide (e.t = t) with | some e => (e.fs.length : Int) + 1 | none => 0)) | _ => none) = (ts.map fun t => match kept.find? fun e => decide (e.t = t) with
  | some e => (e.fs.length : Int) + 1
  | none => 0).map V.int := by
      rw [e1]
      clear hk hsub hh h' hkl ek e1 h u2 hl
      induction ts with
      | nil => rfl
      | cons a r ih => simp [ih]
    rw [e2] at u2
    walk_at "vh"
    exact ⟨D, _, rfl, SqL.of (u2.g 0 rfl), h _ u2.tail⟩
/-- what hands and old things' fields tell -/
def stK (hands : List PVal) (kept : List TH) : List Int := ded (tsOf hands) ++ (kept.filter fun e => e.aged).flatMap fun e => ded (tsOf e.fs)
theorem dd_len (vs : List PVal) : (ded (tsOf vs)).length ≤ vs.length := Nat.le_trans (ded_len _) (List.length_filterMap_le _ _)
theorem stK_len {hands : List PVal} {kept : List TH} (h6 : ∀ e ∈ kept, e.fs.length ≤ 6) : (stK hands kept).length ≤ hands.length + 6 * kept.length := by
  have a1 := dd_len hands
  unfold stK
  rw [List.length_append]
  have z2 : ((kept.filter fun e => e.aged).flatMap fun e => ded (tsOf e.fs)).length ≤ 6 * kept.length := by
    clear a1
    induction kept with
    | nil => simp
    | cons a r ih =>
      have b1 := ih fun e he => h6 e (List.mem_cons_of_mem _ he)
      have b2 := dd_len a.fs
      have b3 := h6 a List.mem_cons_self
      rw [List.filter_cons]
      split
      · rw [List.flatMap_cons, List.length_append, List.length_cons]; omega
      · rw [List.length_cons]; omega
  omega
theorem set_self {i : Nat} {c : Chunk} (ei : L[i]? = some c) : L.set i c = L := by
  obtain ⟨q1, q2⟩ := List.getElem?_eq_some_iff.mp ei
  rw [← q2]; exact List.set_getElem_self q1
theorem getE_set {i : Nat} {c d : Chunk} (ei : L[i]? = some c) : (L.set i d)[i]? = some d := by
  have := (List.getElem?_eq_some_iff.mp ei).1
  simp [List.getElem?_set, this]
theorem c_young_kept {kp hp : Addr} {kept : List TH} {hands : List PVal} (hh : Hs H L) (i : Nat) (ei : L[i]? = some [(kp, .dK (kK kept))])
    (hk : ∀ c H', Hs H' (L.set i [(kp, c)]) → Kn K kept H' ∧ H' hp = some (.lst (hands.map PV.v)) ∧ ∀ q ∈ hands, q.ok H') (nd : (ids kept).Nodup) (hl : kept.length ≤ 10000 ∧ hands.length ≤ 1000) (h6 : ∀ e ∈ kept, e.fs.length ≤ 6)
    (h : ∀ r ks H', ks.Nodup → (∀ t, t ∈ ks ↔ Led (flo kept) (· ∈ yids kept) (stK hands kept) t) → Hs H' ([(r, .dK (mk1 ks))] :: L) → Q (.ref r) H') : sp_young_kept K [.ref kp, .ref hp] H Q E := by
  refine i_young_kept ?_
  unfold t_young_kept
  walk_at "vh"
  have hL : ∀ {H' : Hp}, Hs H' L → Kn K kept H' ∧ H' hp = some (.lst (hands.map PV.v)) ∧ ∀ q ∈ hands, q.ok H' := fun {H'} h' => hk (.dK (kK kept)) H' (by rw [set_self ei]; exact h')
  refine c_things_of hh (fun H' h' => ⟨SqL.of (hL h').2.1, (hL h').2.2⟩) (by omega) fun s H hh => ?_
  walk_at "vh"
  refine y_lock hh (i + 1) (by simpa using ei) fun od H hh => ?_
  rw [List.set_cons_succ] at hh
  have hi : ∀ {H' : Hp} {c : Chunk}, Hs H' (c :: L.set i [(kp, .frz od (.dK (kK kept)))]) → H' kp = some (.frz od (.dK (kK kept))) := fun {H'} {c} h' => h'.g (i + 1) (by rw [List.getElem?_cons_succ]; exact getE_set ei)
  walk_at "vh"
  refine x_gKeys (hi hh) ?_
  refine L_keys (fun j σ H' => (∃ b, σ = [some (.ref kp), some (.ref hp), some (.ref s), b]) ∧ Hs H' ([(s, .lst ((stK hands (kept.take j)).map V.int))] :: L.set i [(kp, .frz od (.dK (kK kept)))])) ⟨⟨_, rfl⟩, by simpa [stK] using hh⟩ (fun j σ H' _ q => hi q.2) ?_ ?_
  · rintro j k v σ H ij ⟨⟨b, rfl⟩, hh⟩
    obtain ⟨e, ie, rfl, rfl⟩ := at_kK ij
    have em := List.mem_of_getElem? ie
    show tIfS _ _ _ _ _ _
    walk_at "vh"
    refine x_dgetK (y := e.t) (.inr ⟨_, hi hh⟩) (val_kK nd em) ?_
    refine y_fd ((hk _ H hh.tail).1.o e em) (by walk_at "hm") (getIT1 _ _ _) ?_
    walk_at "vh"
    have tk : stK hands (kept.take (j + 1)) = stK hands (kept.take j) ++ (if e.aged then ded (tsOf e.fs) else []) := by
      rw [take_snoc ie]
      unfold stK
      rw [List.filter_append, List.flatMap_append, List.append_assoc]
      cases z : e.aged <;> simp [z]
    cases z : e.aged with
    | false =>
      refine x_iteF ?_
      walk_at "vh"
      refine ⟨⟨_, rfl⟩, ?_⟩
      rw [tk, z]; simpa using hh
    | true =>
      refine x_iteT ?_
      walk_at "vh"
      refine ⟨x_tyL (hh.g 0 rfl), ?_⟩
      walk_at "vh"
      refine x_dgetK (y := e.t) (.inr ⟨_, hi hh⟩) (val_kK nd em) ?_
      refine y_fd ((hk _ H hh.tail).1.o e em) (by walk_at "hm") (lookIT _ _ _) ?_
      walk_at "vh"
      have l6 := h6 e em
      refine c_things_of hh (fun H' h' => ⟨SqL.of ((hk _ H' h'.tail).1.l e em), (hk _ H' h'.tail).1.v e em⟩) (by omega) fun r H hh => ?_
      have sz : (stK hands (kept.take j)).length + (ded (tsOf e.fs)).length ≤ 1000000 := by
        have a1 := stK_len (hands := hands) (kept := kept.take j) fun e he => h6 e (List.mem_of_mem_take he)
        have a3 := dd_len e.fs
        have a4 : (kept.take j).length ≤ kept.length := by rw [List.length_take]; omega
        omega
      walk_at "vh"
      refine y_extend hh 1 rfl (hh.g 0 rfl) (by rw [List.length_map, List.length_map]; exact sl (m := 1000000) sz) fun H hh => ?_
      rw [← List.map_append] at hh
      refine ⟨⟨_, rfl⟩, ?_⟩
      rw [tk, z]
      exact hh.tail
  · rintro σ H ⟨⟨b, rfl⟩, hh⟩
    rw [kK, List.length_map, List.take_length] at hh
    obtain ⟨u1, hh⟩ := hh.unlockK (i + 1) (d := kp) (od := od) (kvs := kK kept) (by rw [List.getElem?_cons_succ]; exact getE_set ei)
    refine ⟨u1, ?_⟩
    rw [List.set_cons_succ, List.set_set, set_self ei] at hh
    generalize upd H kp (.dK (kK kept)) = H at hh
    walk_at "vh"
    refine c_young_things hh (i + 1) (by simpa using ei) (fun od H' h' => (hk _ H' (by rw [List.set_cons_succ] at h'; exact h'.tail)).1) nd (by omega) fun y H hh => ?_
    walk_at "vh"
    have szK : (stK hands kept).length ≤ 1000000 := by
      have a1 := stK_len (hands := hands) h6
      omega
    refine c_led_within (som := yids kept) (st := stK hands kept) hh (fun H' h' => ⟨(hL h'.tail.tail).1, h'.g (i + 2) (by simpa using ei), h'.g 1 rfl, h'.g 0 rfl⟩) nd (fun t => isSome_mk _ _) (fun t => yids_sub) ⟨szK, hl.1⟩ (fun e he => by have := h6 e he; omega) fun r ks H' n1 n2 h' => ?_
    exact h r ks H' n1 n2 (h'.sub (by simp))
end PI

set_option Elab.async false
set_option linter.all false
set_option maxRecDepth 100000
set_option maxHeartbeats 1000000
namespace PI
open PySem PySem.Spec PyProof.Rows L2 SX0 R_k82
/-! ### the ideal heap, plain -/
structure PT where
  t : Int
  fs : List Val
  aged : Bool
  lw : Option Int
structure ID where
  room : Int
  limit : Int
  count : Int
  hands : List Val
  names : List (Option Int)
  kept : List PT
  going : Option (List Int)
  spoken : List Int
def pids (k : List PT) : List Int := k.map (·.t)
def tsv (vs : List Val) : List Int := vs.filterMap tOf
def pflo (k : List PT) (t : Int) : List Int := match k.find? fun e => decide (e.t = t) with
  | some e => tsv e.fs
  | none => []
def pyids (k : List PT) : List Int := pids (k.filter fun e => !e.aged)
def pst (hands : List Val) (k : List PT) : List Int := tsv hands ++ (k.filter fun e => e.aged).flatMap fun e => tsv e.fs
def pwords (k : List PT) : Int := (k.map fun e => (e.fs.length : Int) + 1).sum
def ID.settle (s : ID) (gone : List Int) : ID :=
  { s with spoken := s.spoken ++ (s.kept.filter fun e => decide (e.t ∈ gone)).filterMap (·.lw), kept := s.kept.filter fun e => !decide (e.t ∈ gone), names := s.names.map fun o => match o with | some t => if t ∈ gone then none else some t | none => none }
def ID.Stay (s : ID) (t : Int) : Prop := Led (pflo s.kept) (· ∈ pyids s.kept) (pst s.hands s.kept) t
open Classical in
noncomputable def ID.small (s : ID) : ID :=
  let s1 := s.settle ((pyids s.kept).filter fun t => !decide (s.Stay t))
  { s1 with kept := s1.kept.map fun e => { e with aged := true } }
def ID.Reach (s : ID) (t : Int) : Prop := Led (pflo s.kept) (· ∈ pids s.kept) (tsv s.hands) t
open Classical in
noncomputable def ID.begin_ (s : ID) : ID :=
  { s.small with going := some ((pids s.small.kept).filter fun t => !decide (s.small.Reach t)) }
def ID.end_ (s : ID) : ID := ({ s with going := none } : ID).settle (s.going.getD [])
structure ID.Wf (s : ID) : Prop where
  asc : (pids s.kept).Pairwise (· < ·)
  lt : ∀ t ∈ pids s.kept, t < s.count
  h8 : s.hands.length = 8
  n8 : s.names.length = 8
  f6 : ∀ e ∈ s.kept, e.fs.length ≤ 6
  hv : ∀ t ∈ tsv s.hands, t ∈ pids s.kept
  fv : ∀ e ∈ s.kept, ∀ t ∈ tsv e.fs, t ∈ pids s.kept
  nv : ∀ t, some t ∈ s.names → t ∈ pids s.kept
  gs : ∀ g, s.going = some g → (∀ t ∈ g, t ∈ pids s.kept) ∧ g.Nodup ∧ (∀ t ∈ tsv s.hands, t ∉ g) ∧ (∀ e ∈ s.kept, e.t ∉ g → ∀ t ∈ tsv e.fs, t ∉ g) ∧ ∀ e ∈ s.kept, e.t ∈ g → e.aged = true
  wl : pwords s.kept ≤ 400
  lm : s.limit ≤ 400
/-! ### and as it stands -/
structure IS where
  self : Addr
  dx : Addr
  hd : Addr
  nm : Addr
  kp : Addr
  sp : Addr
  room : Int
  limit : Int
  count : Int
  hands : List PVal
  names : List (Option Int)
  kept : List TH
  going : Option (Addr × List Int)
  spoken : List Int
abbrev IC (K : PySem.W.Frag) : Addr := He.ga K "IdealHeap"
def gV : Option (Addr × List Int) → V
  | none => .non
  | some g => .ref g.1
def gC : Option (Addr × List Int) → Chunk
  | none => []
  | some g => [(g.1, .dK (mk1 g.2))]
def IS.fs (s : IS) : List (Str × V) := [("room", .int s.room), ("limit", .int s.limit), ("in_hands", .ref s.hd), ("naming", .ref s.nm), ("kept", .ref s.kp), ("count", .int s.count), ("going", gV s.going), ("spoken", .ref s.sp)]
def IS.L (K : PySem.W.Frag) (s : IS) : List Chunk := [[(s.self, .ins (IC K) s.dx s.fs)], [(s.hd, .lst (s.hands.map PV.v))], [(s.nm, .lst (s.names.map oV))], [(s.kp, .dK (kK s.kept))], [(s.sp, .lst (s.spoken.map V.int))], gC s.going, thc K s.kept, vcs s.hands, vac s.kept]
def IS.c (K : PySem.W.Frag) (s : IS) : Chunk := (s.L K).flatten
def TH.d (e : TH) : PT := ⟨e.t, e.fs.map (·.d), e.aged, e.lw⟩
def IS.d (s : IS) : ID := ⟨s.room, s.limit, s.count, s.hands.map (·.d), s.names, s.kept.map TH.d, s.going.map (·.2), s.spoken⟩
def At (K : PySem.W.Frag) (a : Addr) (d : ID) (R : List Chunk) (H : Hp) : Prop := ∃ s : IS, s.self = a ∧ s.d = d ∧ Hs H (s.c K :: R)
variable {K : PySem.W.Frag} {H : Hp} {Q : VK} {E : XK} {L R : List Chunk} {s : IS}
theorem IS.op (h : Hs H (s.c K :: R)) : Hs H (s.L K ++ R) := h.eq (by simp [IS.c])
theorem IS.cl (h : Hs H (s.L K ++ R)) : Hs H (s.c K :: R) := h.eq (by simp [IS.c])
theorem Kn.ofS (h : Hs H (s.L K ++ R)) : Kn K s.kept H := Kn.ofL h 6 8 rfl rfl
theorem IS.hok (h : Hs H (s.L K ++ R)) : ∀ q ∈ s.hands, q.ok H := fun q hq => PV.ok_of h 7 rfl hq
theorem pids_d (k : List TH) : pids (k.map TH.d) = ids k := by simp [pids, ids, TH.d]
theorem tsv_d (vs : List PVal) : tsv (vs.map (·.d)) = tsOf vs := by simp [tsv, tsOf, List.filterMap_map, Function.comp_def]
theorem find_d (k : List TH) (t : Int) : (k.map TH.d).find? (fun e => decide (e.t = t)) = (k.find? fun e => decide (e.t = t)).map TH.d := by
  induction k with
  | nil => rfl
  | cons a r ih =>
    rw [List.map_cons, List.find?_cons, List.find?_cons]
    by_cases h : a.t = t
    · have h2 : a.d.t = t := h
      rw [decide_eq_true h, decide_eq_true h2]; rfl
    · have h2 : ¬ a.d.t = t := h
      rw [decide_eq_false h, decide_eq_false h2]; exact ih
theorem pflo_d (k : List TH) : pflo (k.map TH.d) = flo k := by
  funext t
  unfold pflo flo
  rw [find_d]
  cases k.find? fun e => decide (e.t = t) with
  | none => rfl
  | some e => exact tsv_d e.fs
theorem filt_d (p : Int → Bool) (k : List TH) : (k.map TH.d).filter (fun e => p e.t) = (k.filter fun e => p e.t).map TH.d := by
  rw [List.filter_map]; rfl
theorem pyids_d (k : List TH) : pyids (k.map TH.d) = yids k := by
  unfold pyids yids
  rw [List.filter_map, pids_d]; rfl
theorem mem_pst (hands : List PVal) (k : List TH) (t : Int) : t ∈ pst (hands.map (·.d)) (k.map TH.d) ↔ t ∈ stK hands k := by
  unfold pst stK
  rw [tsv_d, List.mem_append, List.mem_append, mem_ded]
  refine or_congr Iff.rfl ?_
  rw [List.mem_flatMap, List.mem_flatMap]
  constructor
  · rintro ⟨e, he, ht⟩
    obtain ⟨h1, h2⟩ := List.mem_filter.mp he
    obtain ⟨x, hx, rfl⟩ := List.mem_map.mp h1
    exact ⟨x, List.mem_filter.mpr ⟨hx, h2⟩, mem_ded.mpr (by rw [← tsv_d]; exact ht)⟩
  · rintro ⟨x, hx, ht⟩
    obtain ⟨h1, h2⟩ := List.mem_filter.mp hx
    exact ⟨x.d, List.mem_filter.mpr ⟨List.mem_map.mpr ⟨x, h1, rfl⟩, h2⟩, by show t ∈ tsv (x.fs.map (·.d)); rw [tsv_d]; exact mem_ded.mp ht⟩
theorem Led.mono {fl : Int → List Int} {som som' : Int → Prop} {st st' : List Int} (h1 : ∀ t, t ∈ st → t ∈ st') (h2 : ∀ t, som t → som' t) {t : Int} (h : Led fl som st t) : Led fl som' st' t := by
  induction h with
  | start a b => exact .start (h1 _ a) (h2 _ b)
  | step a b c ih => exact .step ih b (h2 _ c)
theorem Led.congr {fl : Int → List Int} {som som' : Int → Prop} {st st' : List Int} (h1 : ∀ t, t ∈ st ↔ t ∈ st') (h2 : ∀ t, som t ↔ som' t) {t : Int} : Led fl som st t ↔ Led fl som' st' t :=
  ⟨.mono (fun t => (h1 t).mp) fun t => (h2 t).mp, .mono (fun t => (h1 t).mpr) fun t => (h2 t).mpr⟩
theorem stay_d (s : IS) (t : Int) : s.d.Stay t ↔ Led (flo s.kept) (· ∈ yids s.kept) (stK s.hands s.kept) t := by
  unfold ID.Stay IS.d
  simp only [pflo_d, pyids_d]
  exact Led.congr (mem_pst _ _) fun _ => Iff.rfl
theorem nd_of {s : IS} (w : s.d.Wf) : (ids s.kept).Nodup := by
  have h := w.asc
  rw [show s.d.kept = s.kept.map TH.d from rfl, pids_d] at h
  exact h.imp fun q => Int.ne_of_lt q
theorem kl_of {s : IS} (w : s.d.Wf) : s.kept.length ≤ 400 := by
  have h := w.wl
  have : ∀ k : List PT, (k.length : Int) ≤ pwords k := by
    intro k
    induction k with
    | nil => simp [pwords]
    | cons a r ih => simp only [pwords, List.map_cons, List.sum_cons, List.length_cons] at *; omega
  have a := this s.d.kept
  rw [show s.d.kept = s.kept.map TH.d from rfl, List.length_map] at a
  rw [show s.d.kept = s.kept.map TH.d from rfl] at h
  omega
theorem f6_of {s : IS} (w : s.d.Wf) : ∀ e ∈ s.kept, e.fs.length ≤ 6 := fun e he => by
  have := w.f6 e.d (List.mem_map.mpr ⟨e, he, rfl⟩)
  simpa [TH.d] using this
theorem h8_of {s : IS} (w : s.d.Wf) : s.hands.length = 8 := by simpa [IS.d] using w.h8
theorem n8_of {s : IS} (w : s.d.Wf) : s.names.length = 8 := w.n8
theorem lkI (s : IS) : s.fs.lookup ("room" : Str) = some (.int s.room) ∧ s.fs.lookup ("limit" : Str) = some (.int s.limit) ∧ s.fs.lookup ("in_hands" : Str) = some (.ref s.hd) ∧ s.fs.lookup ("naming" : Str) = some (.ref s.nm) ∧ s.fs.lookup ("kept" : Str) = some (.ref s.kp) ∧ s.fs.lookup ("count" : Str) = some (.int s.count) ∧ s.fs.lookup ("going" : Str) = some (gV s.going) ∧ s.fs.lookup ("spoken" : Str) = some (.ref s.sp) := ⟨rfl, rfl, rfl, rfl, rfl, rfl, rfl, rfl⟩
theorem atI_hand {α : Type} {xs : List α} {h : Int} (h0 : 0 ≤ h) (hl : h < xs.length) : atI xs h = some (xs[h.toNat]'(by omega)) ∧ ixN xs.length h = some h.toNat := by
  have e : ixN xs.length h = some h.toNat := by unfold ixN; rw [if_pos h0, if_pos hl]
  refine ⟨?_, e⟩
  unfold atI
  rw [e]
  simp
def ID.hand (s : ID) (h : Int) : Val := (s.hands[h.toNat]?).getD .non
/-- reading a hand -/
theorem at_hand {s : IS} (w : s.d.Wf) {h : Int} (h8 : 0 ≤ h ∧ h < 8) : ∃ q ∈ s.hands, atI (s.hands.map PV.v) h = some q.v ∧ q.d = s.d.hand h ∧ s.hands[h.toNat]? = some q := by
  have l8 := h8_of w
  have hl : h < s.hands.length := by omega
  obtain ⟨q1, q2⟩ := atI_hand (xs := s.hands.map PV.v) h8.1 (by rw [List.length_map]; exact hl)
  refine ⟨s.hands[h.toNat]'(by omega), List.getElem_mem _, by rw [q1]; simp, ?_, by simp⟩
  unfold ID.hand IS.d
  have : h.toNat < s.hands.length := by omega
  simp [this]
theorem c_kind {a : Addr} {d : ID} {h : Int} (hA : At K a d R H) (w : d.Wf) (h1 : 0 ≤ h ∧ h < 8 → Q (.str (kindS (d.hand h))) H) (h2 : ¬ (0 ≤ h ∧ h < 8) → E (Ex K "BadHand") none H) : sp_IdealHeap_kind K [.ref a, .int h] H Q E := by
  obtain ⟨s, rfl, rfl, hh⟩ := hA
  replace hh := IS.op hh
  refine i_IdealHeap_kind ?_
  unfold t_IdealHeap_kind
  walk_at "vh"
  refine c_look_at_hand (fun h8 => ?_) h2
  obtain ⟨q, qm, e1, e2, _⟩ := at_hand w h8
  walk_at "vh"
  refine x_ixL (SqL.of (by walk_at "hg")) e1 ?_
  walk_at "vh"
  refine c_kind_of (IS.hok hh q qm) ?_
  rw [e2]
  exact h1 h8
theorem c_value {a : Addr} {d : ID} {h : Int} (hA : At K a d R H) (w : d.Wf) (h1 : 0 ≤ h ∧ h < 8 → ∀ x, d.hand h = .num x → Q (.int x) H) (h2 : ¬ (0 ≤ h ∧ h < 8 ∧ ∃ x, d.hand h = .num x) → E (Ex K "BadHand") none H) : sp_IdealHeap_value K [.ref a, .int h] H Q E := by
  obtain ⟨s, rfl, rfl, hh⟩ := hA
  replace hh := IS.op hh
  refine i_IdealHeap_value ?_
  unfold t_IdealHeap_value
  walk_at "vh"
  refine c_look_at_hand (fun h8 => ?_) fun z => h2 fun y => z ⟨y.1, y.2.1⟩
  obtain ⟨q, qm, e1, e2, _⟩ := at_hand w h8
  walk_at "vh"
  refine x_ixL (SqL.of (by walk_at "hg")) e1 ?_
  walk_at "vh"
  refine c_kind_of (IS.hok hh q qm) ?_
  walk_at "vh"
  obtain ⟨qd, qa⟩ := q
  cases qd with
  | num x =>
    refine x_ndecF rfl ?_
    walk_at "vh"
    refine x_ixL (SqL.of (by walk_at "hg")) e1 ?_
    walk_at "vh"
    exact x_ixT (SqT.of (IS.hok hh _ qm _ (PV.c_some rfl))) rfl (h1 h8 x e2.symm)
  | non =>
    refine x_ndecT (by dsimp only [kindS]; decide +kernel) ?_
    walk_at "vh"
    exact h2 fun ⟨_, _, x, z⟩ => by rw [← e2] at z; cases z
  | thg t =>
    refine x_ndecT (by dsimp only [kindS]; decide +kernel) ?_
    walk_at "vh"
    exact h2 fun ⟨_, _, x, z⟩ => by rw [← e2] at z; cases z
theorem c_thing_in {a : Addr} {d : ID} {h : Int} (hA : At K a d R H) (w : d.Wf) (h1 : 0 ≤ h ∧ h < 8 → ∀ t, d.hand h = .thg t → Q (.int t) H) (h2 : ¬ (0 ≤ h ∧ h < 8 ∧ ∃ t, d.hand h = .thg t) → E (Ex K "BadHand") none H) : sp_IdealHeap_thing_in K [.ref a, .int h] H Q E := by
  obtain ⟨s, rfl, rfl, hh⟩ := hA
  replace hh := IS.op hh
  refine i_IdealHeap_thing_in ?_
  unfold t_IdealHeap_thing_in
  walk_at "vh"
  refine c_look_at_hand (fun h8 => ?_) fun z => h2 fun y => z ⟨y.1, y.2.1⟩
  obtain ⟨q, qm, e1, e2, _⟩ := at_hand w h8
  walk_at "vh"
  refine x_ixL (SqL.of (by walk_at "hg")) e1 ?_
  walk_at "vh"
  refine c_thing_of (IS.hok hh q qm) ?_
  walk_at "vh"
  obtain ⟨qd, qa⟩ := q
  cases qd with
  | thg x =>
    refine x_decF (fun z => by cases z) ?_
    walk_at "vh"
    exact h1 h8 x e2.symm
  | non =>
    refine x_decT rfl ?_
    walk_at "vh"
    exact h2 fun ⟨_, _, x, z⟩ => by rw [← e2] at z; cases z
  | num t =>
    refine x_decT rfl ?_
    walk_at "vh"
    exact h2 fun ⟨_, _, x, z⟩ => by rw [← e2] at z; cases z
end PI

set_option Elab.async false
set_option linter.all false
set_option maxRecDepth 100000
set_option maxHeartbeats 1000000
namespace PI
open PySem PySem.Spec PyProof.Rows L2 SX0 R_k82
variable {K : PySem.W.Frag} {H : Hp} {Q : VK} {E : XK} {L R : List Chunk} {s : IS}
theorem Hs.swapT {c c' : Chunk} (h : Hs H L) (i : Nat) (ei : L[i]? = some c) (hc : ∀ e ∈ c, isT e.2 = true) (hc' : ∀ e ∈ c', isT e.2 = true ∧ H e.1 = some e.2) : Hs H (L.set i c') := by
  obtain ⟨l1, l2, h1, h2⟩ := flat_set ei
  have z : ∀ c : Chunk, (∀ e ∈ c, isT e.2 = true) → nt c = [] := fun c hc => by
    cases q : nt c with
    | nil => rfl
    | cons x r =>
      have hx : x ∈ nt c := by rw [q]; exact List.mem_cons_self
      obtain ⟨o, h1, h2⟩ := mem_nt.mp hx
      rw [hc _ h1] at h2; cases h2
  refine ⟨?_, fun e he => ?_⟩
  · have nd := h.nd
    rw [h1, nt_app, nt_app, z c hc] at nd
    rw [h2 c', nt_app, nt_app, z c' fun e he => (hc' e he).1]
    exact nd
  · rw [h2 c'] at he
    rcases List.mem_append.mp he with y | y
    · exact h.at_ e (by rw [h1]; simp [y])
    · rcases List.mem_append.mp y with y | y
      · exact (hc' e y).2
      · exact h.at_ e (by rw [h1]; simp [y])
/-! ### == of values -/
def Val.data : Val → PyData
  | .non => .none
  | .num x => .tuple [.str "number", .int x]
  | .thg t => .tuple [.str "thing", .int t]
theorem data_eqv (a b : Val) : PyData.eqv a.data b.data = decide (a = b) := by
  have ne : (Str.ofString "number" == Str.ofString "thing") = false := by decide +kernel
  have ne2 : (Str.ofString "thing" == Str.ofString "number") = false := by decide +kernel
  cases a <;> cases b <;> simp [Val.data, PyData.eqv, PyData.eqvAll, ne, ne2] <;> exact (by rw [Bool.eq_iff_iff]; simp)
theorem data_shaped (a : Val) : SeqAt.shaped a.data = true := by cases a <;> simp [SeqAt.shaped, Val.data, PyData.canLay0, PyData.canLayAll0, PyData.depth, PyData.depthAll] <;> decide +kernel
theorem PV.dp {q : PVal} (h : q.ok H) : Dp K H q.v q.d.data := by
  obtain ⟨d, a⟩ := q
  cases d with
  | non => exact .non
  | num x => exact .tup (SqT.of (h _ (PV.c_some rfl))) (.cons (.str _) (.cons (.int _) .nil))
  | thg t => exact .tup (SqT.of (h _ (PV.c_some rfl))) (.cons (.str _) (.cons (.int _) .nil))
theorem y_eqV {p q : PVal} (hp : p.ok H) (hq : q.ok H) (h : Q (.bl (decide (p.d = q.d))) H) : rEqU K p.v q.v H Q :=
  .inl ⟨_, _, PV.dp hp, PV.dp hq, data_shaped _, data_shaped _, by rw [data_eqv]; exact h⟩
theorem c_same {a : Addr} {d : ID} {h g : Int} (hA : At K a d R H) (w : d.Wf) (h1 : 0 ≤ h ∧ h < 8 → 0 ≤ g ∧ g < 8 → Q (.bl (decide (d.hand h = d.hand g))) H) (h2 : ¬ ((0 ≤ h ∧ h < 8) ∧ 0 ≤ g ∧ g < 8) → E (Ex K "BadHand") none H) : sp_IdealHeap_same K [.ref a, .int h, .int g] H Q E := by
  obtain ⟨s, rfl, rfl, hh⟩ := hA
  replace hh := IS.op hh
  refine i_IdealHeap_same ?_
  unfold t_IdealHeap_same
  walk_at "vh"
  refine c_look_at_hand (fun h8 => ?_) fun z => h2 fun y => z y.1
  walk_at "vh"
  refine c_look_at_hand (fun g8 => ?_) fun z => h2 fun y => z y.2
  obtain ⟨q, qm, e1, e2, _⟩ := at_hand w h8
  obtain ⟨p, pm, f1, f2, _⟩ := at_hand w g8
  walk_at "vh"
  refine x_ixL (SqL.of (by walk_at "hg")) e1 ?_
  walk_at "vh"
  refine x_ixL (SqL.of (by walk_at "hg")) f1 ?_
  refine y_eqV (IS.hok hh q qm) (IS.hok hh p pm) ?_
  rw [e2, f2]
  exact h1 h8 g8
/-! ### things held -/
def ID.fsOf (s : ID) (t : Int) : List Val := match s.kept.find? fun e => decide (e.t = t) with
  | some e => e.fs
  | none => []
theorem held_at {s : IS} (w : s.d.Wf) {t : Int} (ht : t ∈ pids s.d.kept) : ∃ e ∈ s.kept, e.t = t ∧ e.fs.map (·.d) = s.d.fsOf t := by
  rw [show s.d.kept = s.kept.map TH.d from rfl, pids_d] at ht
  obtain ⟨e, he, rfl⟩ := id_mem ht
  refine ⟨e, he, rfl, ?_⟩
  unfold ID.fsOf
  rw [show s.d.kept = s.kept.map TH.d from rfl, find_d, find_id (k := fun e : TH => e.t) (nd_of w) he]; rfl
theorem c_fields {a : Addr} {d : ID} {h : Int} (hA : At K a d R H) (w : d.Wf) (h1 : 0 ≤ h ∧ h < 8 → ∀ t, d.hand h = .thg t → Q (.int (d.fsOf t).length) H) (h2 : ¬ (0 ≤ h ∧ h < 8 ∧ ∃ t, d.hand h = .thg t) → E (Ex K "BadHand") none H) : sp_IdealHeap_fields K [.ref a, .int h] H Q E := by
  have hA' := hA
  obtain ⟨s, rfl, rfl, hh⟩ := hA
  replace hh := IS.op hh
  refine i_IdealHeap_fields ?_
  unfold t_IdealHeap_fields
  walk_at "vh"
  refine c_thing_in hA' w (fun h8 t ht => ?_) h2
  have hm : t ∈ pids s.d.kept := w.hv t (by
    obtain ⟨q, qm, e1, e2, e3⟩ := at_hand w h8
    rw [← e2] at ht
    exact List.mem_filterMap.mpr ⟨q.d, List.mem_map.mpr ⟨q, qm, rfl⟩, by rw [ht]; rfl⟩)
  obtain ⟨e, he, rfl, ef⟩ := held_at w hm
  refine x_dgetK (y := e.t) (.inl (by walk_at "hg")) (val_kK (nd_of w) he) ?_
  refine y_fd ((Kn.ofS hh).o e he) (by walk_at "hm") (lookIT _ _ _) ?_
  walk_at "vh"
  refine x_lenL (SqL.of ((Kn.ofS hh).l e he)) ?_
  have := h1 h8 e.t ht
  rw [← ef, List.length_map] at this
  rw [List.length_map]
  walk_at "vh"
  exact this
theorem c_field_due {a : Addr} {d : ID} {t k : Int} (hA : At K a d R H) (w : d.Wf) (ht : t ∈ pids d.kept) (h1 : 0 ≤ k ∧ k < (d.fsOf t).length → Q .non H) (h2 : ¬ (0 ≤ k ∧ k < (d.fsOf t).length) → E (Ex K "BadField") none H) : sp_IdealHeap_field_due K [.ref a, .int t, .int k] H Q E := by
  obtain ⟨s, rfl, rfl, hh⟩ := hA
  replace hh := IS.op hh
  refine i_IdealHeap_field_due ?_
  unfold t_IdealHeap_field_due
  obtain ⟨e, he, rfl, ef⟩ := held_at w ht
  rw [← ef, List.length_map] at h1 h2
  walk_at "vh"
  refine x_ite (fun a => ?_) fun a => ?_
  · walk_at "vh"; exact h2 (by omega)
  · walk_at "vh"
    refine x_dgetK (y := e.t) (.inl (by walk_at "hg")) (val_kK (nd_of w) he) ?_
    refine y_fd ((Kn.ofS hh).o e he) (by walk_at "hm") (lookIT _ _ _) ?_
    walk_at "vh"
    refine x_lenL (SqL.of ((Kn.ofS hh).l e he)) ?_
    rw [List.length_map]
    walk_at "vh"
    refine x_ite (fun b => ?_) fun b => ?_
    · walk_at "vh"; exact h2 (by omega)
    · walk_at "vh"; exact h1 (by omega)
/-! ### hands that are set -/
def ID.setHand (s : ID) (h : Int) (v : Val) : ID := { s with hands := s.hands.set h.toNat v }
theorem ix8 {s : IS} (w : s.d.Wf) {h : Int} (h8 : 0 ≤ h ∧ h < 8) : ixN (s.hands.map PV.v).length h = some h.toNat := by
  have := h8_of w
  exact (atI_hand (xs := s.hands.map PV.v) h8.1 (by rw [List.length_map]; omega)).2
theorem mem_set {α : Type} {l : List α} {i : Nat} {x y : α} (h : y ∈ l.set i x) : y ∈ l ∨ y = x := by
  rcases List.mem_or_eq_of_mem_set h with z | z
  · exact .inl z
  · exact .inr z
theorem close_hand {q : PVal} {i : Nat} {R' : List Chunk} (hh : Hs H ((s.L K).set 1 [(s.hd, .lst ((s.hands.map PV.v).set i q.v))] ++ R)) (hq : q.ok H) : Hs H (({ s with hands := s.hands.set i q } : IS).c K :: R) := by
  refine IS.cl ?_
  rw [← List.map_set] at hh
  refine Hs.swapT (c := vcs s.hands) (c' := vcs (s.hands.set i q)) hh 7 rfl (fun e he => vcs_tup he) fun e he => ⟨vcs_tup he, ?_⟩
  obtain ⟨p, hp, hpe⟩ := List.mem_flatMap.mp he
  rcases mem_set hp with z | z
  · exact hh.cell 7 rfl (vcs_mem z hpe)
  · exact hq e (z ▸ hpe)
theorem c_copy {a : Addr} {d : ID} {h g : Int} (hA : At K a d R H) (w : d.Wf) (h1 : 0 ≤ h ∧ h < 8 → 0 ≤ g ∧ g < 8 → ∀ H', At K a (d.setHand h (d.hand g)) R H' → Q .non H') (h2 : ¬ ((0 ≤ h ∧ h < 8) ∧ 0 ≤ g ∧ g < 8) → E (Ex K "BadHand") none H) : sp_IdealHeap_copy K [.ref a, .int h, .int g] H Q E := by
  obtain ⟨s, rfl, rfl, hh⟩ := hA
  replace hh := IS.op hh
  refine i_IdealHeap_copy ?_
  unfold t_IdealHeap_copy
  walk_at "vh"
  refine c_look_at_hand (fun h8 => ?_) fun z => h2 fun y => z y.1
  walk_at "vh"
  refine c_look_at_hand (fun g8 => ?_) fun z => h2 fun y => z y.2
  obtain ⟨q, qm, e1, e2, _⟩ := at_hand w g8
  walk_at "vh"
  refine x_ixL (SqL.of (by walk_at "hg")) e1 ?_
  walk_at "vh"
  refine y_setL hh 1 rfl (ix8 w h8) fun H' hh' => h1 h8 g8 H' ⟨{ s with hands := s.hands.set h.toNat q }, rfl, ?_, close_hand (R' := R) hh' (PV.ok_of hh' 7 rfl qm)⟩
  simp [IS.d, ID.setHand, List.map_set, e2]
theorem c_drop {a : Addr} {d : ID} {h : Int} (hA : At K a d R H) (w : d.Wf) (h1 : 0 ≤ h ∧ h < 8 → ∀ H', At K a (d.setHand h .non) R H' → Q .non H') (h2 : ¬ (0 ≤ h ∧ h < 8) → E (Ex K "BadHand") none H) : sp_IdealHeap_drop K [.ref a, .int h] H Q E := by
  obtain ⟨s, rfl, rfl, hh⟩ := hA
  replace hh := IS.op hh
  refine i_IdealHeap_drop ?_
  unfold t_IdealHeap_drop
  walk_at "vh"
  refine c_look_at_hand (fun h8 => ?_) h2
  walk_at "vh"
  refine y_setL hh 1 rfl (ix8 w h8) fun H' hh' => h1 h8 H' ⟨{ s with hands := s.hands.set h.toNat ⟨.non, 0⟩ }, rfl, ?_, close_hand (R' := R) (q := ⟨.non, 0⟩) hh' fun e he => by cases he⟩
  simp [IS.d, ID.setHand, List.map_set]
theorem c_number {a : Addr} {d : ID} {h x : Int} (hA : At K a d R H) (w : d.Wf) (h1 : 0 ≤ h ∧ h < 8 → -FAR ≤ x ∧ x ≤ FAR → ∀ H', At K a (d.setHand h (.num x)) R H' → Q .non H') (h2 : ¬ (0 ≤ h ∧ h < 8) → E (Ex K "BadHand") none H)
    (h3 : 0 ≤ h ∧ h < 8 → ¬ (-FAR ≤ x ∧ x ≤ FAR) → E (Ex K "BadCount") none H) : sp_IdealHeap_number K [.ref a, .int h, .int x] H Q E := by
  obtain ⟨s, rfl, rfl, hh⟩ := hA
  replace hh := IS.op hh
  refine i_IdealHeap_number ?_
  unfold t_IdealHeap_number
  walk_at "vh"
  refine c_look_at_hand (fun h8 => ?_) h2
  walk_at "vh"
  refine c_number_value hh (fun hx p H hh => ?_) (h3 h8)
  walk_at "vh"
  refine y_setL hh 2 rfl (ix8 w h8) fun H' hh' => h1 h8 hx H' ⟨{ s with hands := s.hands.set h.toNat ⟨.num x, p⟩ }, rfl, ?_, close_hand (R' := R) (q := ⟨.num x, p⟩) hh'.tail fun e he => ?_⟩
  · simp [IS.d, ID.setHand, List.map_set]
  · exact hh'.cell 0 rfl he
theorem c_held {a : Addr} {d : ID} (hA : At K a d R H) (w : d.Wf) (h1 : ∀ H', At K a d R H' → Q (.int (pwords d.kept)) H') : sp_IdealHeap_held K [.ref a] H Q E := by
  obtain ⟨s, rfl, rfl, hh⟩ := hA
  replace hh := IS.op hh
  refine i_IdealHeap_held ?_
  unfold t_IdealHeap_held
  have kl := kl_of w
  walk_at "vh"
  refine c_words_in (ts := ids s.kept) (kept := s.kept) hh 3 rfl (by simp [kK, ids]) (fun od H' h' => ⟨Kn.of (fun x hx => h'.cell 6 rfl hx) (fun x hx => h'.cell 8 rfl hx), .inr ⟨od, h'.g 3 rfl⟩⟩) (nd_of w) (fun t ht => ht) (f6_of w) (by simp [ids]; omega) fun H' h' => ?_
  have e : wsum s.kept (ids s.kept) = pwords s.d.kept := by
    unfold wsum pwords ids
    rw [show s.d.kept = s.kept.map TH.d from rfl, List.map_map, List.map_map]
    refine congrArg List.sum (List.map_congr_left fun e he => ?_)
    show (match s.kept.find? fun x => decide (x.t = e.t) with | some e => (e.fs.length : Int) + 1 | none => 0) = _
    rw [find_id (k := fun e : TH => e.t) (nd_of w) he]
    simp [TH.d]
  rw [e]
  exact h1 H' ⟨s, rfl, rfl, IS.cl h'⟩
theorem c_take {a : Addr} {d : ID} (hA : At K a d R H) (hl : d.spoken.length ≤ 1000000) (h1 : d.spoken = [] → Q .non H) (h2 : ∀ x r, d.spoken = x :: r → ∀ H', At K a { d with spoken := r } R H' → Q (.int x) H') : sp_IdealHeap_take K [.ref a] H Q E := by
  obtain ⟨s, rfl, rfl, hh⟩ := hA
  replace hh := IS.op hh
  refine i_IdealHeap_take ?_
  unfold t_IdealHeap_take
  walk_at "vh"
  rw [List.length_map]
  cases e : s.spoken with
  | nil =>
    refine x_decT (by simp) ?_
    walk_at "vh"
    exact h1 e
  | cons x r =>
    refine x_decF (by simp; omega) ?_
    walk_at "vh"
    refine ⟨x_tyL (by walk_at "hg"), ?_⟩
    walk_at "vh"
    refine y_popAt (j := 0) (y := .int x) hh 4 rfl (by decide) (by decide) (by rw [e]; simp [seqIndex?]) (by rw [e]; rfl) fun H' hh' => h2 x r e H' ⟨{ s with spoken := r }, rfl, rfl, IS.cl ?_⟩
    rw [e] at hh'
    exact hh'
end PI

set_option Elab.async false
set_option linter.all false
set_option maxRecDepth 100000
set_option maxHeartbeats 1000000
namespace PI
open PySem PySem.Spec PyProof.Rows L2 SX0 R_k82
variable {K : PySem.W.Frag} {H : Hp} {Q : VK} {E : XK} {L R : List Chunk} {s : IS}
/-! ### one thing among others -/
def onT (k : List TH) (t : Int) (f : TH → TH) : List TH := k.map fun x => if x.t = t then f x else x
theorem thc_split {kept : List TH} (nd : (ids kept).Nodup) {e : TH} (he : e ∈ kept) : ∃ k1 k2, kept = k1 ++ e :: k2 ∧ ∀ f : TH → TH, onT kept e.t f = k1 ++ f e :: k2 := by
  obtain ⟨k1, k2, rfl⟩ := List.append_of_mem he
  refine ⟨k1, k2, rfl, fun f => ?_⟩
  unfold ids at nd
  rw [List.map_append, List.map_cons] at nd
  obtain ⟨n1, n2, n3⟩ := List.nodup_append.mp nd
  have n4 := (List.nodup_cons.mp n2).1
  unfold onT
  rw [List.map_append, List.map_cons, if_pos rfl]
  congr 1
  · have : ∀ x ∈ k1, (if x.t = e.t then f x else x) = x := fun x hx => if_neg fun z => n3 x.t (List.mem_map.mpr ⟨x, hx, rfl⟩) e.t List.mem_cons_self z
    rw [List.map_congr_left this, List.map_id']
  · congr 1
    have : ∀ x ∈ k2, (if x.t = e.t then f x else x) = x := fun x hx => if_neg fun z => n4 (by rw [← z]; exact List.mem_map.mpr ⟨x, hx, rfl⟩)
    rw [List.map_congr_left this, List.map_id']
theorem thc_app (k1 k2 : List TH) (e : TH) : thc K (k1 ++ e :: k2) = thc K k1 ++ (e.o, e.ob K) :: ((e.l, HO.lst (e.fs.map PV.v)) :: thc K k2) := by
  unfold thc
  rw [List.flatMap_append, List.flatMap_cons]; rfl
theorem thc_app2 (k1 k2 : List TH) (e : TH) : thc K (k1 ++ e :: k2) = (thc K k1 ++ [(e.o, e.ob K)]) ++ (e.l, HO.lst (e.fs.map PV.v)) :: thc K k2 := by
  rw [thc_app]; simp
/-- a thing's field list is changed -/
theorem Hs.thL {kept : List TH} (hh : Hs H L) (i : Nat) (ei : L[i]? = some (thc K kept)) (nd : (ids kept).Nodup) {e : TH} (he : e ∈ kept) (fs' : List PVal) :
    Hs (upd H e.l (.lst (fs'.map PV.v))) (L.set i (thc K (onT kept e.t fun x => { x with fs := fs' }))) := by
  obtain ⟨k1, k2, h1, h2⟩ := thc_split nd he
  rw [h2]
  have e1 : L[i]? = some ((thc K k1 ++ [(e.o, e.ob K)]) ++ (e.l, HO.lst (e.fs.map PV.v)) :: thc K k2) := by rw [ei]; congr 1; rw [← thc_app2, ← h1]
  have := hh.setIn (o' := .lst (fs'.map PV.v)) i e1 rfl rfl
  rw [thc_app2]
  exact this
/-- a thing's own attributes are changed -/
theorem Hs.thO {kept : List TH} (hh : Hs H L) (i : Nat) (ei : L[i]? = some (thc K kept)) (nd : (ids kept).Nodup) {e : TH} (he : e ∈ kept) (e' : TH) (h1 : e'.o = e.o) (h2 : e'.l = e.l) (h3 : e'.fs = e.fs) :
    Hs (upd H e.o (e'.ob K)) (L.set i (thc K (onT kept e.t fun _ => e'))) := by
  obtain ⟨k1, k2, h4, h5⟩ := thc_split nd he
  rw [h5]
  have e1 : L[i]? = some (thc K k1 ++ (e.o, e.ob K) :: ((e.l, HO.lst (e.fs.map PV.v)) :: thc K k2)) := by rw [ei]; congr 1; rw [← thc_app, ← h4]
  have := hh.setIn (o' := e'.ob K) i e1 rfl rfl
  rw [thc_app, h1, h2, h3]
  exact this
theorem onT_ids (k : List TH) (t : Int) (f : TH → TH) (hf : ∀ x, (f x).t = x.t) : ids (onT k t f) = ids k := by
  unfold onT ids
  rw [List.map_map]
  refine List.map_congr_left fun x _ => ?_
  show (if x.t = t then f x else x).t = x.t
  split
  · exact hf x
  · rfl
theorem onT_kK (k : List TH) (t : Int) (f : TH → TH) (hf : ∀ x, (f x).t = x.t ∧ (f x).o = x.o) : kK (onT k t f) = kK k := by
  unfold onT kK
  rw [List.map_map]
  refine List.map_congr_left fun x _ => ?_
  show ((Sum.inl (if x.t = t then f x else x).t : Key), V.ref (if x.t = t then f x else x).o) = _
  split
  · rw [(hf x).1, (hf x).2]
  · rfl
/-! ### load, store -/
def onP (k : List PT) (t : Int) (f : PT → PT) : List PT := k.map fun x => if x.t = t then f x else x
def ID.setField (s : ID) (t k : Int) (v : Val) : ID := { s with kept := onP s.kept t fun e => { e with fs := e.fs.set k.toNat v } }
theorem onT_d (k : List TH) (t : Int) (f : TH → TH) (g : PT → PT) (h : ∀ x ∈ k, x.t = t → (f x).d = g x.d) : (onT k t f).map TH.d = onP (k.map TH.d) t g := by
  unfold onT onP
  rw [List.map_map, List.map_map]
  refine List.map_congr_left fun x hx => ?_
  show (if x.t = t then f x else x).d = if x.t = t then g x.d else x.d
  split
  · exact h x hx (by assumption)
  · rfl
theorem hand_mem {s : IS} (w : s.d.Wf) {h t : Int} (h8 : 0 ≤ h ∧ h < 8) (ht : s.d.hand h = .thg t) : t ∈ pids s.d.kept := w.hv t (by
    obtain ⟨q, qm, e1, e2, e3⟩ := at_hand w h8
    rw [← e2] at ht
    exact List.mem_filterMap.mpr ⟨q.d, List.mem_map.mpr ⟨q, qm, rfl⟩, by rw [ht]; rfl⟩)
def ID.fieldV (s : ID) (t k : Int) : Val := ((s.fsOf t)[k.toNat]?).getD .non
theorem field_at {s : IS} (w : s.d.Wf) {t k : Int} {e : TH} (he : e ∈ s.kept) (et : e.t = t) (ef : e.fs.map (·.d) = s.d.fsOf t) (hk : 0 ≤ k ∧ k < (s.d.fsOf t).length) :
    ∃ q ∈ e.fs, atI (e.fs.map PV.v) k = some q.v ∧ q.d = s.d.fieldV t k ∧ ixN (e.fs.map PV.v).length k = some k.toNat := by
  rw [← ef, List.length_map] at hk
  obtain ⟨q1, q2⟩ := atI_hand (xs := e.fs.map PV.v) hk.1 (by rw [List.length_map]; exact hk.2)
  have hl : k.toNat < e.fs.length := by omega
  refine ⟨e.fs[k.toNat], List.getElem_mem _, by rw [q1]; simp, ?_, q2⟩
  unfold ID.fieldV
  rw [← ef]
  simp [hl]
theorem c_load {a : Addr} {d : ID} {h g k : Int} (hA : At K a d R H) (w : d.Wf) (h1 : 0 ≤ h ∧ h < 8 → 0 ≤ g ∧ g < 8 → ∀ t, d.hand g = .thg t → 0 ≤ k ∧ k < (d.fsOf t).length → ∀ H', At K a (d.setHand h (d.fieldV t k)) R H' → Q .non H')
    (h2 : ¬ ((0 ≤ h ∧ h < 8) ∧ (0 ≤ g ∧ g < 8) ∧ ∃ t, d.hand g = .thg t) → E (Ex K "BadHand") none H) (h3 : 0 ≤ h ∧ h < 8 → 0 ≤ g ∧ g < 8 → ∀ t, d.hand g = .thg t → ¬ (0 ≤ k ∧ k < (d.fsOf t).length) → E (Ex K "BadField") none H) : sp_IdealHeap_load K [.ref a, .int h, .int g, .int k] H Q E := by
  have hA' := hA
  obtain ⟨s, rfl, rfl, hh⟩ := hA
  replace hh := IS.op hh
  refine i_IdealHeap_load ?_
  unfold t_IdealHeap_load
  walk_at "vh"
  refine c_look_at_hand (fun h8 => ?_) fun z => h2 fun y => z y.1
  walk_at "vh"
  refine c_thing_in hA' w (fun g8 t ht => ?_) fun z => h2 fun y => z ⟨y.2.1.1, y.2.1.2, y.2.2⟩
  walk_at "vh"
  have hm := hand_mem w g8 ht
  refine c_field_due hA' w hm (fun hk => ?_) fun z => h3 h8 g8 t ht z
  obtain ⟨e, he, rfl, ef⟩ := held_at w hm
  obtain ⟨q, qm, e1, e2, e3⟩ := field_at w he rfl ef hk
  walk_at "vh"
  refine x_dgetK (y := e.t) (.inl (by walk_at "hg")) (val_kK (nd_of w) he) ?_
  refine y_fd ((Kn.ofS hh).o e he) (by walk_at "hm") (lookIT _ _ _) ?_
  walk_at "vh"
  refine x_ixL (SqL.of ((Kn.ofS hh).l e he)) e1 ?_
  walk_at "vh"
  refine y_setL hh 1 rfl (ix8 w h8) fun H' hh' => h1 h8 g8 e.t ht hk H' ⟨{ s with hands := s.hands.set h.toNat q }, rfl, ?_, close_hand (R' := R) hh' fun x hx => hh'.cell 8 rfl (vac_m he qm hx)⟩
  simp [IS.d, ID.setHand, List.map_set, e2]
theorem c_store {a : Addr} {d : ID} {g k h : Int} (hA : At K a d R H) (w : d.Wf) (h1 : 0 ≤ g ∧ g < 8 → 0 ≤ h ∧ h < 8 → ∀ t, d.hand g = .thg t → 0 ≤ k ∧ k < (d.fsOf t).length → ∀ H', At K a (d.setField t k (d.hand h)) R H' → Q .non H')
    (h2 : ¬ ((0 ≤ g ∧ g < 8) ∧ (∃ t, d.hand g = .thg t) ∧ (0 ≤ h ∧ h < 8)) → E (Ex K "BadHand") none H) (h3 : 0 ≤ g ∧ g < 8 → 0 ≤ h ∧ h < 8 → ∀ t, d.hand g = .thg t → ¬ (0 ≤ k ∧ k < (d.fsOf t).length) → E (Ex K "BadField") none H) : sp_IdealHeap_store K [.ref a, .int g, .int k, .int h] H Q E := by
  have hA' := hA
  obtain ⟨s, rfl, rfl, hh⟩ := hA
  replace hh := IS.op hh
  refine i_IdealHeap_store ?_
  unfold t_IdealHeap_store
  walk_at "vh"
  refine c_thing_in hA' w (fun g8 t ht => ?_) fun z => h2 fun y => z ⟨y.1.1, y.1.2, y.2.1⟩
  walk_at "vh"
  refine c_look_at_hand (fun h8 => ?_) fun z => h2 fun y => z y.2.2
  walk_at "vh"
  have hm := hand_mem w g8 ht
  refine c_field_due hA' w hm (fun hk => ?_) fun z => h3 g8 h8 t ht z
  obtain ⟨e, he, rfl, ef⟩ := held_at w hm
  obtain ⟨_, _, _, _, e3⟩ := field_at w he rfl ef hk
  obtain ⟨q, qm, e1, e2, _⟩ := at_hand w h8
  walk_at "vh"
  refine x_ixL (SqL.of (by walk_at "hg")) e1 ?_
  walk_at "vh"
  refine x_dgetK (y := e.t) (.inl (by walk_at "hg")) (val_kK (nd_of w) he) ?_
  refine y_fd ((Kn.ofS hh).o e he) (by walk_at "hm") (lookIT _ _ _) ?_
  walk_at "vh"
  refine x_setL ((Kn.ofS hh).l e he) e3 ?_
  have nd := nd_of w
  have hs := Hs.thL (K := K) hh 6 rfl nd he (e.fs.set k.toNat q)
  rw [List.map_set] at hs
  generalize upd H e.l (.lst ((e.fs.map PV.v).set k.toNat q.v)) = H' at hs
  refine h1 g8 h8 e.t ht hk H' ⟨{ s with kept := onT s.kept e.t fun x => { x with fs := e.fs.set k.toNat q } }, rfl, ?_, IS.cl ?_⟩
  · unfold IS.d ID.setField
    simp only
    congr 1
    refine onT_d _ _ _ _ fun x hx hxe => ?_
    have : x = e := by
      have a1 := find_id (k := fun e : TH => e.t) nd hx
      have a2 := find_id (k := fun e : TH => e.t) nd he
      rw [hxe, a2] at a1
      exact (Option.some.inj a1).symm
    subst this
    simp only [TH.d]
    congr 1
    have e2' : q.d = ID.hand s.d h := e2
    rw [List.map_set, e2']; rfl
  · have hs2 := Hs.swapT (c := vac s.kept) (c' := vac (onT s.kept e.t fun x => { x with fs := e.fs.set k.toNat q })) hs 8 rfl (fun x hx => by
      obtain ⟨y, _, z⟩ := List.mem_flatMap.mp hx
      exact vcs_tup z) (fun x hx => by
      obtain ⟨y, hy, z⟩ := List.mem_flatMap.mp hx
      refine ⟨vcs_tup z, ?_⟩
      obtain ⟨y0, hy0, rfl⟩ := List.mem_map.mp hy
      by_cases c : y0.t = e.t
      · rw [if_pos c] at z
        obtain ⟨p, hp, hpe⟩ := List.mem_flatMap.mp z
        rcases mem_set hp with u | u
        · exact hs.cell 8 rfl (vac_m he u hpe)
        · exact hs.cell 7 rfl (vcs_mem qm (u ▸ hpe))
      · rw [if_neg c] at z
        exact hs.cell 8 rfl (List.mem_flatMap.mpr ⟨y0, hy0, z⟩))
    refine hs2.eq ?_
    simp only [IS.L, IS.fs, List.set_cons_zero, List.set_cons_succ, List.cons_append, List.nil_append]
    rw [onT_kK _ _ (fun x : TH => { x with fs := e.fs.set k.toNat q }) fun _ => ⟨rfl, rfl⟩]
/-! ### weak names -/
def ID.setName (s : ID) (i : Int) (t : Int) : ID := { s with names := s.names.set i.toNat (some t) }
theorem c_name {a : Addr} {d : ID} {i h : Int} (hA : At K a d R H) (w : d.Wf) (h1 : 0 ≤ h ∧ h < 8 → ∀ t, d.hand h = .thg t → 0 ≤ i ∧ i < 8 → ∀ H', At K a (d.setName i t) R H' → Q .non H')
    (h2 : ¬ ((0 ≤ h ∧ h < 8) ∧ ∃ t, d.hand h = .thg t) → E (Ex K "BadHand") none H) (h3 : 0 ≤ h ∧ h < 8 → ∀ t, d.hand h = .thg t → ¬ (0 ≤ i ∧ i < 8) → E (Ex K "BadName") none H) : sp_IdealHeap_name K [.ref a, .int i, .int h] H Q E := by
  have hA' := hA
  obtain ⟨s, rfl, rfl, hh⟩ := hA
  replace hh := IS.op hh
  refine i_IdealHeap_name ?_
  unfold t_IdealHeap_name
  walk_at "vh"
  refine c_thing_in hA' w (fun h8 t ht => ?_) fun z => h2 fun y => z ⟨y.1.1, y.1.2, y.2⟩
  walk_at "vh"
  refine c_look_at_name (fun i8 => ?_) fun z => h3 h8 t ht z
  walk_at "vh"
  have n8 := n8_of w
  have := (atI_hand (xs := s.names.map oV) i8.1 (by rw [List.length_map]; omega)).2
  refine y_setL hh 2 rfl this fun H' hh' => h1 h8 t ht i8 H' ⟨{ s with names := s.names.set i.toNat (some t) }, rfl, rfl, IS.cl ?_⟩
  rw [show V.int t = oV (some t) from rfl, ← List.map_set] at hh'
  exact hh'
/-! ### last words -/
def ID.setWord (s : ID) (t x : Int) : ID := { s with kept := onP s.kept t fun e => { e with lw := some x } }
def ID.lwOf (s : ID) (t : Int) : Option Int := (s.kept.find? fun e => decide (e.t = t)).bind (·.lw)
def ID.bearers (s : ID) : Nat := (s.kept.filter fun e => e.lw.isSome).length
theorem c_word {a : Addr} {d : ID} {h x : Int} (hA : At K a d R H) (w : d.Wf) (h1 : 0 ≤ h ∧ h < 8 → ∀ t, d.hand h = .thg t → -FAR ≤ x ∧ x ≤ FAR → (d.lwOf t = none → d.bearers < 12) → ∀ H', At K a (d.setWord t x) R H' → Q .non H')
    (h2 : ¬ ((0 ≤ h ∧ h < 8) ∧ ∃ t, d.hand h = .thg t) → E (Ex K "BadHand") none H) (h3 : 0 ≤ h ∧ h < 8 → ∀ t, d.hand h = .thg t → ¬ (-FAR ≤ x ∧ x ≤ FAR) → E (Ex K "BadCount") none H)
    (h4 : 0 ≤ h ∧ h < 8 → ∀ t, d.hand h = .thg t → -FAR ≤ x ∧ x ≤ FAR → d.lwOf t = none → ¬ d.bearers < 12 → ∀ H', At K a d R H' → E (Ex K "TooManyWords") none H') : sp_IdealHeap_word K [.ref a, .int h, .int x] H Q E := by
  have hA' := hA
  obtain ⟨s, rfl, rfl, hh⟩ := hA
  replace hh := IS.op hh
  refine i_IdealHeap_word ?_
  unfold t_IdealHeap_word
  walk_at "vh"
  refine c_thing_in hA' w (fun h8 t ht => ?_) fun z => h2 fun y => z ⟨y.1.1, y.1.2, y.2⟩
  walk_at "vh"
  refine c_number_value hh (fun hx p H hh => ?_) (h3 h8 t ht)
  have hm := hand_mem w h8 ht
  obtain ⟨e, he, rfl, ef⟩ := held_at w hm
  replace hh := hh.tail
  have nd := nd_of w
  have kl := kl_of w
  walk_at "vh"
  refine y_lock hh 3 rfl fun od H hh => ?_
  walk_at "vh"
  refine x_gKeys (by walk_at "hg") ?_
  refine L_lck (F := fun v => match v with | .int t => (if ((s.kept.find? fun e => decide (e.t = t)).bind (·.lw)).isSome then some (.int t) else none) | _ => none) hh (fun D acc H' h' => h'.tail.g 3 rfl) (by simp [kK]; omega) (fun j kk v D acc H2 hj h' R hR => ?_) fun D H h' => ?_
  · obtain ⟨y, iy, rfl, rfl⟩ := at_kK hj
    have ym := List.mem_of_getElem? iy
    refine x_own (by simp) fun ev => ?_
    have kn : Kn K s.kept H2 := Kn.of (fun z hz => h'.tail.cell 6 rfl hz) (fun z hz => h'.tail.cell 8 rfl hz)
    refine x_test (x_op (x_fd (x_dget (x_fd (x_var rfl (y_fd (h'.tail.g 0 rfl) (by walk_at "hm") rfl (x_var ev ?_)))))))
    refine x_dgetK (y := y.t) (.inr ⟨od, h'.tail.g 3 rfl⟩) (val_kK nd ym) ?_
    refine y_fd (kn.o y ym) (by walk_at "hm") (getIT2 _ _ _) (x_c (x_notN (x_bl ?_)))
    rw [oV_non]
    have r := hR H2 h'
    simp only [kV] at r
    rw [find_id (k := fun e : TH => e.t) nd ym] at r
    cases z : y.lw with
    | none => exact x_ndecF rfl (by simpa [z] using r)
    | some u => exact x_ndecT (fun q => by cases q) (x_var ev (show R (some (V.int y.t)) H2 by simpa [z] using r))
  · obtain ⟨u1, hh⟩ := h'.unlockK 4 (d := s.kp) (od := od) (kvs := kK s.kept) rfl
    replace hh : Hs _ (_ :: (s.L K ++ R)) := hh
    refine ⟨h'.tail.g 3 rfl, ?_⟩
    generalize upd H s.kp (.dK (kK s.kept)) = H at hh
    have eb : ((kK s.kept).map fun e => kV e.1).filterMap (fun v => match v with | .int t => (if ((s.kept.find? fun e => decide (e.t = t)).bind (·.lw)).isSome then some (V.int t) else none) | _ => none) = (ids (s.kept.filter fun e => e.lw.isSome)).map V.int := by
      have e1 : ((kK s.kept).map fun e => kV e.1) = s.kept.map fun e => V.int e.t := by simp [kK, kV]
      rw [e1]
      have gen : ∀ l : List TH, (∀ y ∈ l, s.kept.find? (fun e => decide (e.t = y.t)) = some y) → (l.map fun e => V.int e.t).filterMap (fun v => match v with | .int t => (if ((s.kept.find? fun e => decide (e.t = t)).bind (·.lw)).isSome then some (V.int t) else none) | _ => none) = (ids (l.filter fun e => e.lw.isSome)).map V.int := by
        intro l
        induction l with
        | nil => intro _; rfl
        | cons y r ih =>
          intro q
          have q1 := q y List.mem_cons_self
          have q2 := ih fun z hz => q z (List.mem_cons_of_mem _ hz)
          rw [List.map_cons, List.filterMap_cons, q2, List.filter_cons]
          simp only [q1]
          cases z : y.lw with
          | none => simp [z]
          | some u => simp [z, ids]
      exact gen s.kept fun y hy => find_id (k := fun e : TH => e.t) nd hy
    rw [eb] at hh
    have kn : ∀ {H' : Hp}, Hs H' (s.L K ++ R) → Kn K s.kept H' := fun h' => Kn.ofS h'
    walk_at "vh"
    refine x_dgetK (y := e.t) (.inl (by walk_at "hg")) (val_kK nd he) ?_
    refine y_fd ((kn hh.tail).o e he) (by walk_at "hm") (getIT2 _ _ _) ?_
    walk_at "vh"
    rw [oV_non]
    have elw : s.d.lwOf e.t = e.lw := by
      unfold ID.lwOf
      rw [show s.d.kept = s.kept.map TH.d from rfl, find_d, find_id (k := fun e : TH => e.t) nd he]; rfl
    have ebl : s.d.bearers = (s.kept.filter fun e => e.lw.isSome).length := by
      unfold ID.bearers
      rw [show s.d.kept = s.kept.map TH.d from rfl, List.filter_map, List.length_map]; rfl
    have fin : (s.d.lwOf e.t = none → s.d.bearers < 12) → gDGet (.ref s.kp) (.int e.t) H fun y H2 => gSFd [He.ga K "IdealThing"] "last_word" (.int x) y H2 fun H' => Q .non H' := by
      intro hb
      refine x_dgetK (y := e.t) (.inl (by walk_at "hg")) (val_kK nd he) ?_
      refine ⟨e.o, _, _, _, rfl, (kn hh.tail).o e he, by walk_at "hm", by show (3 : Nat) < 1000; decide, ?_⟩
      have hs := Hs.thO (K := K) hh.tail 6 rfl nd he { e with lw := some x } rfl rfl rfl
      have eo : HO.ins (IT K) e.dx (putF "last_word" (.int x) [("inside", .ref e.l), ("aged", .bl e.aged), ("last_word", oV e.lw)]) = ({ e with lw := some x } : TH).ob K := rfl
      rw [eo]
      generalize upd H e.o (({ e with lw := some x } : TH).ob K) = H' at hs
      have eq1 : (onT s.kept e.t fun _ => { e with lw := some x }) = onT s.kept e.t fun y => { y with lw := some x } := by
        refine List.map_congr_left fun y hy => ?_
        by_cases c : y.t = e.t
        · have : y = e := by
            have a1 := find_id (k := fun e : TH => e.t) nd hy
            have a2 := find_id (k := fun e : TH => e.t) nd he
            rw [c, a2] at a1
            exact (Option.some.inj a1).symm
          subst this; rfl
        · rw [if_neg c, if_neg c]
      rw [eq1] at hs
      refine h1 h8 e.t ht hx hb H' ⟨{ s with kept := onT s.kept e.t fun y => { y with lw := some x } }, rfl, ?_, IS.cl ?_⟩
      · unfold IS.d ID.setWord
        simp only
        congr 1
        exact onT_d _ _ _ _ fun y _ _ => rfl
      · refine hs.eq ?_
        simp only [IS.L, IS.fs, List.set_cons_zero, List.set_cons_succ, List.cons_append, List.nil_append]
        rw [onT_kK _ _ (fun y : TH => { y with lw := some x }) fun _ => ⟨rfl, rfl⟩]
        have ev : vac (onT s.kept e.t fun y => { y with lw := some x }) = vac s.kept := by
          unfold vac onT
          rw [List.flatMap_map]
          congr 1
          funext y
          split <;> rfl
        rw [ev]
    cases z : e.lw with
    | some u =>
      refine x_decF (fun q => by cases q) ?_
      walk_at "vh"
      exact fin (fun q => by rw [elw, z] at q; cases q)
    | none =>
      refine x_decT rfl ?_
      walk_at "vh"
      rw [List.length_map]
      unfold ids
      rw [List.length_map]
      refine x_ite (fun b => ?_) fun b => ?_
      · walk_at "vh"
        refine h4 h8 e.t ht hx (by rw [elw, z]) (by rw [ebl]; omega) H ⟨s, rfl, rfl, IS.cl hh.tail⟩
      · walk_at "vh"
        exact fin (fun _ => by rw [ebl]; omega)
end PI

set_option Elab.async false
set_option linter.all false
set_option maxRecDepth 100000
set_option maxHeartbeats 1000000
namespace PI
open PySem PySem.Spec PyProof.Rows L2 SX0 R_k82
variable {K : PySem.W.Frag} {H : Hp} {Q : VK} {E : XK} {L R A : List Chunk} {s : IS} {c : Chunk}
theorem Hs.mid (h : Hs H (c :: (A ++ R))) : Hs H (A ++ c :: R) := h.to (by
  rw [List.flatten_append, List.flatten_cons, List.flatten_cons, List.flatten_append]
  exact List.perm_append_comm_assoc _ _ _)
theorem Hs.unmid (h : Hs H (A ++ c :: R)) : Hs H (c :: (A ++ R)) := h.to (by
  rw [List.flatten_append, List.flatten_cons, List.flatten_cons, List.flatten_append]
  exact (List.perm_append_comm_assoc _ _ _).symm)
theorem Hs.subAt {c c' : Chunk} (h : Hs H L) (i : Nat) (ei : L[i]? = some c) (hs : c'.Sublist c) : Hs H (L.set i c') := by
  obtain ⟨l1, l2, h1, h2⟩ := flat_set ei
  refine h.sub ?_
  rw [h1, h2]
  exact List.Sublist.append (List.Sublist.refl _) (List.Sublist.append hs (List.Sublist.refl _))
/-! ### membership in lists of ints -/
theorem inV_ints (t : Int) (l : List Int) : inV (.int t) (l.map V.int) = decide (t ∈ l) := by
  induction l with
  | nil => rfl
  | cons a r ih =>
    have e : inV (.int t) ((a :: r).map V.int) = (eqV (.int a) (.int t) || inV (.int t) (r.map V.int)) := by simp [inV]
    rw [e, ih]
    by_cases h : t = a
    · simp [h, eqV]
    · have h' : ¬ a = t := fun z => h z.symm
      simp [h, h', eqV]
theorem inV_non (l : List Int) : inV .non (l.map V.int) = false := by
  induction l with
  | nil => rfl
  | cons a r ih =>
    have e : inV .non ((a :: r).map V.int) = (eqV (.int a) .non || inV .non (r.map V.int)) := by simp [inV]
    rw [e, ih]; rfl
theorem flat_ints (l : List Int) : (l.map V.int).all flatV = true := by simp [flatV]
def inO (o : Option Int) (l : List Int) : Bool := match o with | none => false | some t => decide (t ∈ l)
theorem y_inO {o : Option Int} {p : Addr} {l : List Int} (e : SqL K H p (l.map V.int)) (h : Q (.bl (inO o l)) H) : rIn K false (oV o) (.ref p) H Q := by
  refine ⟨p, _, rfl, .inl e, by cases o <;> rfl, flat_ints l, ?_⟩
  cases o with
  | none => rw [show oV none = V.non from rfl, inV_non]; exact h
  | some t => rw [show oV (some t) = V.int t from rfl, inV_ints]; exact h
/-! ### settle -/
theorem drop_kK (k : List TH) (t : Int) : dropK (kK k) (Sum.inl t) = kK (k.filter fun e => !decide (e.t = t)) := by
  unfold dropK kK
  rw [List.filter_map]
  congr 1
  refine List.filter_congr fun e _ => ?_
  simp
theorem flat_filter {β : Type} (f : TH → List β) (p : TH → Bool) (k : List TH) : ((k.filter p).flatMap f).Sublist (k.flatMap f) := by
  induction k with
  | nil => exact List.Sublist.slnil
  | cons e r ih =>
    rw [List.filter_cons, List.flatMap_cons]
    split
    · rw [List.flatMap_cons]; exact List.Sublist.append (List.Sublist.refl _) ih
    · exact ih.trans (List.sublist_append_right _ _)
/-- a sorted list of things that are held is as they stand -/
theorem sorted_eq {l ms : List Int} (hl : l.Pairwise (· < ·)) (hm : ms.Pairwise (· ≤ ·)) (nd : ms.Nodup) (h : ∀ t, t ∈ ms ↔ t ∈ l) : ms = l := by
  have p : ms.Perm l := by
    have nl : l.Nodup := hl.imp fun q => Int.ne_of_lt q
    exact (List.perm_ext_iff_of_nodup nd nl).mpr h
  exact p.eq_of_pairwise (le := (· ≤ ·)) (fun a b _ _ h1 h2 => Int.le_antisymm h1 h2) hm (hl.imp fun q => Int.le_of_lt q)
theorem mem_kept_of {k : List TH} {t : Int} {S : List Int} (h : t ∈ ids k) (hn : t ∉ S) : ∃ e ∈ k.filter (fun e => !decide (e.t ∈ S)), e.t = t := by
  obtain ⟨e, he, rfl⟩ := id_mem h
  exact ⟨e, List.mem_filter.mpr ⟨he, by simpa using hn⟩, rfl⟩
theorem fm_congr {α β : Type} {f g : α → Option β} : ∀ {l : List α}, (∀ x ∈ l, f x = g x) → l.filterMap f = l.filterMap g
  | [], _ => rfl
  | a :: r, h => by
    have ih := fm_congr (l := r) fun x hx => h x (List.mem_cons_of_mem _ hx)
    rw [List.filterMap_cons, List.filterMap_cons, h a List.mem_cons_self, ih]
def lwT (k : List TH) (t : Int) : Option Int := (k.find? fun e => decide (e.t = t)).bind (·.lw)
theorem names_map (gone : List Int) (l : List (Option Int)) : (l.map oV).filterMap (fun v => match v with | .int t => some (if t ∈ gone then V.non else .int t) | _ => some .non) = (l.map fun o => match o with | some t => if t ∈ gone then none else some t | none => none).map oV := by
  induction l with
  | nil => rfl
  | cons o r ih =>
    cases o with
    | none =>
      show V.non :: _ = V.non :: _
      exact congrArg _ ih
    | some t =>
      show (if t ∈ gone then V.non else V.int t) :: _ = oV (if t ∈ gone then none else some t) :: _
      rw [show (if t ∈ gone then V.non else V.int t) = oV (if t ∈ gone then none else some t) from by split <;> rfl]
      exact congrArg _ ih
theorem c_settle {a p : Addr} {d : ID} {gone : List Int} (hA : At K a d R H) (w : d.Wf) (hg : ∀ c H', Hs H' (c :: R) → H' p = some (.lst (gone.map V.int))) (nd : gone.Nodup) (sub : ∀ t ∈ gone, t ∈ pids d.kept) (hl : d.spoken.length ≤ 1000000)
    (h : ∀ H', At K a (d.settle gone) R H' → Q .non H') : sp_IdealHeap_settle K [.ref a, .ref p] H Q E := by
  obtain ⟨s, rfl, rfl, hh⟩ := hA
  have g0 : ∀ {s' : IS} {H' : Hp}, Hs H' (s'.L K ++ R) → H' p = some (.lst (gone.map V.int)) := fun {s'} {H'} h' => hg _ H' (IS.cl h')
  replace hh := IS.op hh
  have kl := kl_of w
  have gl : gone.length ≤ 400 := by
    have := nodup_len nd sub
    rw [show s.d.kept = s.kept.map TH.d from rfl, pids_d] at this
    unfold ids at this
    rw [List.length_map] at this
    omega
  have ndk := nd_of w
  have asc := w.asc
  rw [show s.d.kept = s.kept.map TH.d from rfl, pids_d] at asc sub
  refine i_IdealHeap_settle ?_
  unfold t_IdealHeap_settle
  walk_at "vh"
  refine y_sorted hh (SqL.of (g0 hh)) fun ms mp H pm sm hh => ?_
  have mnd : ms.Nodup := pm.nodup_iff.mpr nd
  have mm : ∀ t, t ∈ ms ↔ t ∈ gone := fun t => pm.mem_iff
  have ml : ms.length ≤ 400 := by rw [pm.length_eq]; exact gl
  refine x_gList (SqL.of (hh.g 0 rfl)) ?_
  refine L_list (xs := ms.map V.int) (fun i σ H' => (∃ b, σ = [some (.ref s.self), some (.ref p), b]) ∧ Hs H' ([(mp, .lst (ms.map V.int))] :: (({ s with kept := s.kept.filter fun e => !decide (e.t ∈ ms.take i), spoken := s.spoken ++ (ms.take i).filterMap (lwT s.kept) } : IS).L K ++ R))) ⟨⟨_, rfl⟩, ?_⟩ (fun i σ H' _ q => SqL.of (q.2.g 0 rfl)) ?_ ?_
  · have e : s.kept.filter (fun e => !decide (e.t ∈ ms.take 0)) = s.kept := by simp
    rw [e]
    simpa using hh
  · rintro i x σ H ix ⟨⟨b, rfl⟩, hh⟩
    obtain ⟨t, it, rfl⟩ := get_map ix
    have tm : t ∈ ms := List.mem_of_getElem? it
    have tn : t ∉ ms.take i := fun z => by
      have q : (ms.take (i + 1)).Nodup := (List.take_sublist _ _).nodup mnd
      rw [take_snoc it] at q
      exact (List.nodup_append.mp q).2.2 t z t (by simp) rfl
    obtain ⟨e, he, rfl⟩ := mem_kept_of (sub t ((mm t).mp tm)) tn
    have he0 := (List.mem_filter.mp he).1
    have nd1 : (ids (s.kept.filter fun e => !decide (e.t ∈ ms.take i))).Nodup := (List.filter_sublist.map _).nodup ndk
    have lw0 : lwT s.kept e.t = e.lw := by unfold lwT; rw [find_id (k := fun e : TH => e.t) ndk he0]; rfl
    have kn : Kn K (s.kept.filter fun e => !decide (e.t ∈ ms.take i)) H := Kn.ofL hh 7 9 rfl rfl
    show tSeq _ _ _ _ _
    walk_at "vh"
    refine x_dgetK (y := e.t) (.inl (by walk_at "hg")) (val_kK nd1 he) ?_
    refine y_fd (kn.o e he) (by walk_at "hm") (getIT2 _ _ _) ?_
    walk_at "vh"
    rw [oV_non]
    -- the pop, of any said
    have pop : ∀ (sp' : List Int) (H : Hp), sp' = s.spoken ++ (ms.take (i + 1)).filterMap (lwT s.kept) → Hs H ([(mp, .lst (ms.map V.int))] :: (({ s with kept := s.kept.filter fun e => !decide (e.t ∈ ms.take i), spoken := sp' } : IS).L K ++ R)) →
        gDrop s.kp (.int e.t) H fun _ H' => (∃ b, [some (V.ref s.self), some (.ref p), some (.int e.t)] = [some (.ref s.self), some (.ref p), b]) ∧ Hs H' ([(mp, .lst (ms.map V.int))] :: (({ s with kept := s.kept.filter fun e => !decide (e.t ∈ ms.take (i + 1)), spoken := s.spoken ++ (ms.take (i + 1)).filterMap (lwT s.kept) } : IS).L K ++ R)) := by
      intro sp' H hsp hh
      refine y_dropI (y := e.t) hh 4 rfl (val_kK nd1 he) fun H' hh => ⟨⟨_, rfl⟩, ?_⟩
      rw [drop_kK] at hh
      have ek : (s.kept.filter fun e => !decide (e.t ∈ ms.take i)).filter (fun x => !decide (x.t = e.t)) = s.kept.filter fun e => !decide (e.t ∈ ms.take (i + 1)) := by
        rw [List.filter_filter, take_snoc it]
        refine List.filter_congr fun y _ => ?_
        by_cases q1 : y.t ∈ ms.take i <;> by_cases q2 : y.t = e.t <;> simp [q1, q2]
      rw [ek] at hh
      subst hsp
      have h1 := Hs.subAt (c' := thc K (s.kept.filter fun e => !decide (e.t ∈ ms.take (i + 1)))) hh 7 rfl (by rw [← ek]; exact flat_filter _ _ _)
      have h2 := Hs.subAt (c' := vac (s.kept.filter fun e => !decide (e.t ∈ ms.take (i + 1)))) h1 9 rfl (by rw [← ek]; exact flat_filter _ _ _)
      exact h2
    have tk : (ms.take (i + 1)).filterMap (lwT s.kept) = (ms.take i).filterMap (lwT s.kept) ++ e.lw.toList := by
      rw [take_snoc it, List.filterMap_append]
      cases q : e.lw <;> simp [lw0, q]
    cases q : e.lw with
    | none =>
      refine x_ndecF rfl ?_
      walk_at "vh"
      exact pop _ H (by rw [tk, q]; simp) hh
    | some x =>
      refine x_ndecT (fun z => by cases z) ?_
      walk_at "vh"
      refine ⟨x_tyL (by walk_at "hg"), ?_⟩
      walk_at "vh"
      refine x_dgetK (y := e.t) (.inl (by walk_at "hg")) (val_kK nd1 he) ?_
      refine y_fd (kn.o e he) (by walk_at "hm") (getIT2 _ _ _) ?_
      rw [q]
      walk_at "vh"
      have sl : (s.spoken ++ (ms.take i).filterMap (lwT s.kept)).length < 1000500 := by
        have a1 : ((ms.take i).filterMap (lwT s.kept)).length ≤ (ms.take i).length := List.length_filterMap_le _ _
        rw [List.length_take] at a1
        have a2 : s.spoken.length ≤ 1000000 := hl
        rw [List.length_append]; omega
      refine y_append (v := .int x) hh 5 rfl (by rw [List.length_map]; exact sl' sl) fun H hh => ?_
      rw [show (s.spoken ++ (ms.take i).filterMap (lwT s.kept)).map V.int ++ [V.int x] = (s.spoken ++ (ms.take (i + 1)).filterMap (lwT s.kept)).map V.int from by rw [tk, q]; simp] at hh
      walk_at "vh"
      exact pop _ H rfl hh
  · rintro σ H ⟨⟨b, rfl⟩, hh⟩
    rw [List.length_map, List.take_length] at hh
    walk_at "vh"
    refine L_lcl (xs := s.names.map oV) (fun v => match v with | .int t => some (if t ∈ gone then .non else .int t) | _ => some .non) hh (fun D acc H' h' => SqL.of (h'.g 4 rfl)) (by rw [List.length_map, n8_of w]; decide) (fun j x D acc H2 hj h' Rr hR => ?_) fun D H hh => ?_
    · obtain ⟨o, io, rfl⟩ := get_map hj
      refine x_own (by simp) fun ev => ?_
      refine x_yes (x_iteT ?_)
      refine x_ifE (x_test (x_op (x_var ev (x_var rfl (y_inO (SqL.of (g0 h'.tail.tail)) (x_bl ?_))))))
      have r := hR H2 h'
      cases o with
      | none => exact x_iteF (x_var ev r)
      | some t =>
        simp only [oV] at r
        unfold inO
        by_cases q : t ∈ gone
        · rw [if_pos q] at r
          exact x_decT q (x_c r)
        · rw [if_neg q] at r
          exact x_decF q (x_var ev r)
    · walk_at "vh"
      refine y_sfd hh 2 rfl (by walk_at "hm") (by show (8 : Nat) < 1000; decide) fun H' hh => h H' ⟨{ s with nm := D, kept := s.kept.filter fun e => !decide (e.t ∈ ms), spoken := s.spoken ++ ms.filterMap (lwT s.kept), names := s.names.map fun o => match o with | some t => if t ∈ gone then none else some t | none => none }, rfl, ?_, IS.cl ?_⟩
      · unfold IS.d ID.settle
        simp only
        have ek : s.kept.filter (fun e => !decide (e.t ∈ ms)) = s.kept.filter fun e => !decide (e.t ∈ gone) := List.filter_congr fun e _ => by
          have := mm e.t
          by_cases q : e.t ∈ gone
          · have q2 := this.mpr q; simp [q, q2]
          · have q2 : e.t ∉ ms := fun z => q (this.mp z)
            simp [q, q2]
        have es : ms.filterMap (lwT s.kept) = (((s.kept.map TH.d).filter fun e => decide (e.t ∈ gone)).filterMap (·.lw)) := by
          have e1 : ms = ids (s.kept.filter fun e => decide (e.t ∈ gone)) := by
            refine sorted_eq (List.Pairwise.sublist (List.filter_sublist.map _) asc) sm mnd fun t => ?_
            rw [mm]
            constructor
            · intro ht
              obtain ⟨e, he, rfl⟩ := id_mem (sub t ht)
              exact List.mem_map.mpr ⟨e, List.mem_filter.mpr ⟨he, by simpa using ht⟩, rfl⟩
            · intro ht
              obtain ⟨e, he, rfl⟩ := id_mem ht
              simpa using (List.mem_filter.mp he).2
          rw [e1]
          unfold ids
          rw [List.filterMap_map, filt_d (fun t => decide (t ∈ gone)), List.filterMap_map]
          refine fm_congr fun e he => ?_
          have he0 := (List.mem_filter.mp he).1
          show lwT s.kept e.t = e.lw
          unfold lwT; rw [find_id (k := fun e : TH => e.t) ndk he0]; rfl
        rw [es, ek, ← filt_d (fun t => !decide (t ∈ gone))] <;> rfl
      · have em : (s.names.map oV).filterMap (fun v => match v with | .int t => some (if t ∈ gone then V.non else .int t) | _ => some .non) = (s.names.map fun o => match o with | some t => if t ∈ gone then none else some t | none => none).map oV := by exact names_map gone s.names
        rw [em] at hh
        have h3 := (hh.front 0 rfl)
        -- the old list of names goes, the sorted list goes
        have h4 : Hs H' ([[(s.self, .ins (IC K) s.dx (putF "naming" (.ref D) s.fs))]] ++ [[(s.hd, .lst (s.hands.map PV.v))]] ++ [[(D, .lst ((s.names.map fun o => match o with | some t => if t ∈ gone then none else some t | none => none).map oV))]] ++ [[(s.kp, .dK (kK (s.kept.filter fun e => !decide (e.t ∈ ms))))]] ++ [[(s.sp, .lst ((s.spoken ++ ms.filterMap (lwT s.kept)).map V.int))]] ++ [gC s.going] ++ [thc K (s.kept.filter fun e => !decide (e.t ∈ ms))] ++ [vcs s.hands] ++ [vac (s.kept.filter fun e => !decide (e.t ∈ ms))] ++ R) := by
          have h5 : Hs H' ([(D, _)] :: [(mp, _)] :: [(s.self, _)] :: [(s.hd, _)] :: [(s.nm, _)] :: [(s.kp, _)] :: [(s.sp, _)] :: gC s.going :: thc K _ :: vcs s.hands :: vac _ :: R) := hh
          have h6 := ((h5.erase 4).erase 1)
          simp only [List.eraseIdx] at h6
          have h7 : Hs H' ([(D, _)] :: ([[(s.self, _)], [(s.hd, _)]] ++ ([(s.kp, _)] :: [(s.sp, _)] :: gC s.going :: thc K _ :: vcs s.hands :: vac _ :: R))) := h6
          exact Hs.mid h7
        exact h4
end PI

set_option Elab.async false
set_option linter.all false
set_option maxRecDepth 100000
set_option maxHeartbeats 1000000
namespace PI
open PySem PySem.Spec PyProof.Rows L2 SX0 R_k82
variable {K : PySem.W.Frag} {H : Hp} {Q : VK} {E : XK} {L R A : List Chunk} {s : IS} {c : Chunk}
def ageIf (S : List Int) (k : List TH) : List TH := k.map fun e => { e with aged := e.aged || decide (e.t ∈ S) }
theorem ageIf_ids (S : List Int) (k : List TH) : ids (ageIf S k) = ids k := by unfold ids ageIf; rw [List.map_map]; rfl
theorem ageIf_kK (S : List Int) (k : List TH) : kK (ageIf S k) = kK k := by unfold kK ageIf; rw [List.map_map]; rfl
theorem ageIf_vac (S : List Int) (k : List TH) : vac (ageIf S k) = vac k := by unfold vac ageIf; rw [List.flatMap_map]
theorem ageIf_snoc {S : List Int} {k : List TH} (t : Int) : onT (ageIf S k) t (fun x => { x with aged := true }) = ageIf (S ++ [t]) k := by
  unfold onT ageIf
  rw [List.map_map]
  refine List.map_congr_left fun x hx => ?_
  show (if x.t = t then ({ x with aged := true } : TH) else { x with aged := x.aged || decide (x.t ∈ S) }) = { x with aged := x.aged || decide (x.t ∈ S ++ [t]) }
  by_cases h2 : x.t = t
  · rw [if_pos h2]; simp [h2]
  · rw [if_neg h2]; simp [h2]
/-- [x for x in d if x not in s], d walked -/
theorem lc_notin {d sm : Addr} {od : Obj} {ts ks : List Int} {i j : Nat} {σ : L2.St} (hi : i < σ.length) (hj : σ[j]? = some (some (.ref sm))) (hij : j ≠ i) (hh : Hs H L)
    (hp : ∀ H', Hs H' L → H' d = some (.frz od (.dK (mk1 ts))) ∧ H' sm = some (.dK (mk1 ks))) (hl : ts.length ≤ 16000000)
    (hq : ∀ D H2, Hs H2 ([(D, .lst ((ts.filter fun t => !decide (t ∈ ks)).map V.int))] :: L) → Q (.ref D) H2) :
    LcG (Itk d od (mk1 ts)) (gName i) (tB (tDNotIn (tVar i) (tVar j))) (tVar i) [i] σ H Q := by
  refine L_lck (fun v => match v with | .int t => if t ∈ ks then none else some (.int t) | _ => none) hh (fun D acc H' h => (hp H' h.tail).1) (by rw [mk_len]; exact hl) (fun k x v D acc H2 hx h R hR => ?_) fun D H2 h => hq D H2 ?_
  · obtain ⟨t, _, ek⟩ := get_map hx
    cases ek
    refine x_own hi fun e => ?_
    refine x_tB (x_dnotin (x_var e (x_var (by rw [List.getElem?_set_ne (Ne.symm hij)]; exact hj) (x_dnotinK (y := t) (.inl (hp H2 h.tail).2) ?_))))
    rw [isSome_mk]
    refine x_bl ?_
    have r := hR H2 h
    simp only [kV] at r
    by_cases z : t ∈ ks
    · simp only [if_pos z] at r
      exact x_ndecF z r
    · simp only [if_neg z] at r
      exact x_ndecT z (x_var e r)
  · have e : ((mk1 ts).map fun e => kV e.1).filterMap (fun v => match v with | .int t => if t ∈ ks then none else some (V.int t) | _ => none) = (ts.filter fun t => !decide (t ∈ ks)).map V.int := by
      rw [mk_keys]
      clear hp hq h hl
      induction ts with
      | nil => rfl
      | cons a r ih =>
        by_cases z : a ∈ ks
        · simp [z, ih]
        · simp [z, ih]
    rw [e] at h
    exact h
theorem Hs.mid2 {c1 c2 : Chunk} (h : Hs H (c1 :: c2 :: (A ++ R))) : Hs H (A ++ c1 :: c2 :: R) := by
  have h1 : Hs H (c1 :: ((c2 :: A) ++ R)) := h
  have h2 := Hs.mid h1
  have h3 : Hs H (c2 :: (A ++ (c1 :: R))) := h2
  have h4 := Hs.mid h3
  exact h4.to (by simp only [List.flatten_append, List.flatten_cons]; exact List.Perm.append_left _ (List.perm_append_comm_assoc _ _ _))
theorem lookSet (b c x y z : V) : True := True.intro
/-- the loop that makes things old -/
theorem c_age {a r : Addr} {ks : List Int} {D : Ends} {b0 b1 : Option V} (hh : Hs H ([(r, .dK (mk1 ks))] :: (s.L K ++ R))) (nd : (ids s.kept).Nodup) (hs : ∀ t ∈ ks, t ∈ ids s.kept) (kn : ks.Nodup) (ha : s.self = a)
    (h : ∀ b H', Hs H' ([(r, .dK (mk1 ks))] :: (({ s with kept := ageIf ks s.kept } : IS).L K ++ R)) → D.nx [some (.ref a), some (.ref r), b] H') :
    tLock2 (tFor (iKeys (tVar 1)) (gName 2) (sFd [He.ga K "IdealThing"] (tDGet (tFd [He.ga K "IdealHeap"] "kept" (tVar 0)) (tVar 2)) (tC (.bl true)) "aged")) D [some (.ref a), some (.ref r), b1] H := by
  subst ha
  refine y_lock hh 0 rfl fun od H hh => ?_
  walk_at "vh"
  refine x_gKeys (hh.g 0 rfl) ?_
  refine L_keys (fun i σ H' => (∃ b, σ = [some (.ref s.self), some (.ref r), b]) ∧ Hs H' ([(r, .frz od (.dK (mk1 ks)))] :: (({ s with kept := ageIf (ks.take i) s.kept } : IS).L K ++ R))) ⟨⟨_, rfl⟩, ?_⟩ (fun i σ H' _ q => q.2.g 0 rfl) ?_ ?_
  · have e : ageIf (ks.take 0) s.kept = s.kept := by unfold ageIf; simp
    rw [e]; exact hh
  · rintro i k v σ H ik ⟨⟨b, rfl⟩, hh⟩
    obtain ⟨t, it, ek⟩ := get_map ik
    cases ek
    have tm := hs t (List.mem_of_getElem? it)
    have nd' : (ids (ageIf (ks.take i) s.kept)).Nodup := by rw [ageIf_ids]; exact nd
    obtain ⟨e, he, rfl⟩ := id_mem (show t ∈ ids (ageIf (ks.take i) s.kept) by rw [ageIf_ids]; exact tm)
    show sFd _ _ _ _ _ _ _
    walk_at "vh"
    refine x_dgetK (y := e.t) (.inl (by walk_at "hg")) (val_kK nd' he) ?_
    refine ⟨e.o, _, _, _, rfl, (Kn.ofL hh 7 9 rfl rfl : Kn K (ageIf (ks.take i) s.kept) H).o e he, by walk_at "hm", by show (3 : Nat) < 1000; decide, ⟨_, rfl⟩, ?_⟩
    have h1 := Hs.thO (K := K) hh 7 rfl nd' he { e with aged := true } rfl rfl rfl
    have eq1 : (onT (ageIf (ks.take i) s.kept) e.t fun _ => { e with aged := true }) = ageIf (ks.take (i + 1)) s.kept := by
      rw [take_snoc it, ← ageIf_snoc]
      refine List.map_congr_left fun y hy => ?_
      by_cases c : y.t = e.t
      · have : y = e := by
          have a1 := find_id (k := fun e : TH => e.t) nd' hy
          have a2 := find_id (k := fun e : TH => e.t) nd' he
          rw [c, a2] at a1
          exact (Option.some.inj a1).symm
        subst this; rfl
      · rw [if_neg c, if_neg c]
    rw [eq1] at h1
    refine h1.eq ?_
    simp only [IS.L, IS.fs, List.set_cons_zero, List.set_cons_succ, List.cons_append, List.nil_append]
    rw [ageIf_kK, ageIf_kK, ageIf_vac, ageIf_vac]
  · rintro σ H ⟨⟨b, rfl⟩, hh⟩
    rw [mk_len, List.take_length] at hh
    obtain ⟨u1, hh⟩ := hh.unlockK 0 rfl
    exact ⟨u1, h _ _ hh⟩
theorem c_small {a : Addr} {d : ID} (hA : At K a d R H) (w : d.Wf) (hl : d.spoken.length ≤ 1000000) (h : ∀ H', At K a d.small R H' → Q .non H') : sp_IdealHeap_small K [.ref a] H Q E := by
  obtain ⟨s, rfl, rfl, hh⟩ := hA
  replace hh := IS.op hh
  have nd := nd_of w
  have kl := kl_of w
  have f6 := f6_of w
  refine i_IdealHeap_small ?_
  unfold t_IdealHeap_small
  walk_at "vh"
  refine c_young_kept hh 3 rfl (fun c H' h' => ⟨Kn.of (fun x hx => h'.cell 6 rfl hx) (fun x hx => h'.cell 8 rfl hx), h'.g 1 rfl, fun q hq => PV.ok_of h' 7 rfl hq⟩) nd ⟨by omega, by rw [h8_of w]; decide⟩ f6 fun r ks H ksn ksm hh => ?_
  walk_at "vh"
  refine c_young_things hh 4 rfl (fun od H' h' => Kn.of (fun x hx => h'.cell 7 rfl hx) (fun x hx => h'.cell 9 rfl hx)) nd (by omega) fun yt H hh => ?_
  refine y_keysL hh 0 rfl fun od H hh => ?_
  have yl : (yids s.kept).length ≤ 400 := by
    have := nodup_len (yids_nd nd) fun t => yids_sub
    unfold ids at this; rw [List.length_map] at this; omega
  refine lc_notin (by simp) rfl (by decide) hh (fun H' h' => ⟨h'.g 0 rfl, h'.g 1 rfl⟩) (by omega) fun gl H hh => ?_
  replace hh : Hs H ([(gl, .lst (((yids s.kept).filter fun t => !decide (t ∈ ks)).map V.int))] :: [(yt, .frz od (.dK (mk1 (yids s.kept))))] :: [(r, .dK (mk1 ks))] :: (s.L K ++ R)) := hh
  walk_at "vh"
  have sub : ∀ t ∈ (yids s.kept).filter (fun t => !decide (t ∈ ks)), t ∈ pids s.d.kept := fun t ht => by
    rw [show s.d.kept = s.kept.map TH.d from rfl, pids_d]
    exact yids_sub (List.mem_filter.mp ht).1
  have hA2 : At K s.self s.d ([(gl, .lst (((yids s.kept).filter fun t => !decide (t ∈ ks)).map V.int))] :: [(r, .dK (mk1 ks))] :: R) H := ⟨s, rfl, rfl, IS.cl (Hs.mid2 (hh.erase 1))⟩
  refine c_settle hA2 w (fun c H' h' => h'.g 1 rfl) (List.filter_sublist.nodup (yids_nd nd)) sub hl fun H hA3 => ?_
  obtain ⟨s3, e3, d3, hh⟩ := hA3
  replace hh := (IS.op hh)
  have hh : Hs H ([(r, .dK (mk1 ks))] :: (s3.L K ++ R)) := Hs.unmid ((Hs.unmid hh).tail)
  have k3 : s3.kept.map TH.d = (s.kept.map TH.d).filter fun e => !decide (e.t ∈ (yids s.kept).filter fun t => !decide (t ∈ ks)) := by
    have := congrArg ID.kept d3
    exact this
  have i3 : ids s3.kept = (ids s.kept).filter fun t => !decide (t ∈ (yids s.kept).filter fun t => !decide (t ∈ ks)) := by
    have := congrArg (List.map PT.t) k3
    rw [filt_d (fun t => !decide (t ∈ (yids s.kept).filter fun t => !decide (t ∈ ks)))] at this
    rw [show (s3.kept.map TH.d).map PT.t = ids s3.kept from pids_d _, show ((s.kept.filter _).map TH.d).map PT.t = ids _ from pids_d _] at this
    rw [this]
    unfold ids
    rw [List.filter_map]; rfl
  have nd3 : (ids s3.kept).Nodup := by rw [i3]; exact List.filter_sublist.nodup nd
  have ksy : ∀ t ∈ ks, t ∈ yids s.kept := fun t ht => ((ksm t).mp ht).som
  refine c_age (s := s3) (a := s.self) (b0 := none) hh nd3 (fun t ht => ?_) ksn e3 fun b H hh => ?_
  · rw [i3]
    exact List.mem_filter.mpr ⟨yids_sub (ksy t ht), by simp [ht]⟩
  · refine h H ⟨{ s3 with kept := ageIf ks s3.kept }, e3, ?_, IS.cl hh.tail⟩
    unfold ID.small
    have eg : (pyids s.d.kept).filter (fun t => !@decide (s.d.Stay t) (Classical.propDecidable _)) = (yids s.kept).filter fun t => !decide (t ∈ ks) := by
      rw [show s.d.kept = s.kept.map TH.d from rfl, pyids_d]
      refine List.filter_congr fun t _ => ?_
      have := (ksm t).trans (stay_d s t).symm
      by_cases q : t ∈ ks
      · rw [decide_eq_true q, @decide_eq_true _ (Classical.propDecidable _) (this.mp q)]
      · rw [decide_eq_false q, @decide_eq_false _ (Classical.propDecidable _) fun z => q (this.mpr z)]
    rw [eg, ← d3]
    unfold IS.d
    simp only
    congr 1
    rw [List.map_map]
    unfold ageIf
    rw [List.map_map]
    refine List.map_congr_left fun e he => ?_
    show (⟨e.t, e.fs.map (·.d), e.aged || decide (e.t ∈ ks), e.lw⟩ : PT) = ⟨e.t, e.fs.map (·.d), true, e.lw⟩
    congr 1
    have hm : e.d ∈ s3.kept.map TH.d := List.mem_map.mpr ⟨e, he, rfl⟩
    rw [k3] at hm
    obtain ⟨m1, m2⟩ := List.mem_filter.mp hm
    obtain ⟨e0, he0, ee⟩ := List.mem_map.mp m1
    have et : e0.t = e.t := congrArg PT.t ee
    have ea : e0.aged = e.aged := congrArg PT.aged ee
    cases q : e.aged with
    | true => rfl
    | false =>
      have y : e.t ∈ yids s.kept := List.mem_map.mpr ⟨e0, List.mem_filter.mpr ⟨he0, by rw [ea, q]; rfl⟩, et⟩
      simp only [Bool.false_or]
      by_cases z : e.t ∈ ks
      · simp [z]
      · exfalso
        have : e.t ∈ (yids s.kept).filter fun t => !decide (t ∈ ks) := List.mem_filter.mpr ⟨y, by simp [z]⟩
        have m2' : (!decide (e.t ∈ (yids s.kept).filter fun t => !decide (t ∈ ks))) = true := m2
        rw [decide_eq_true this] at m2'
        cases m2'
end PI

set_option Elab.async false
set_option linter.all false
set_option maxRecDepth 100000
set_option maxHeartbeats 1000000
namespace PI
open PySem PySem.Spec PyProof.Rows L2 SX0 R_k82
variable {K : PySem.W.Frag} {H : Hp} {Q : VK} {E : XK} {L R A : List Chunk} {s : IS} {c : Chunk}
theorem reach_d (s : IS) (t : Int) : s.d.Reach t ↔ Led (flo s.kept) (· ∈ ids s.kept) (ded (tsOf s.hands)) t := by
  unfold ID.Reach IS.d
  simp only [pflo_d, pids_d]
  exact Led.congr (fun t => by rw [tsv_d, mem_ded]) fun _ => Iff.rfl
theorem gC_mid {g : Addr} {l : List Int} : gC (some (g, l)) = [(g, .dK (mk1 l))] := rfl
theorem c_begin {a : Addr} {d : ID} (hA : At K a d R H) (w : d.Wf) (w2 : d.small.Wf) (hl : d.spoken.length ≤ 1000000) (h1 : d.going = none → ∀ H', At K a d.begin_ R H' → Q .non H') (h2 : d.going ≠ none → E (Ex K "RoundOn") none H) : sp_IdealHeap_begin K [.ref a] H Q E := by
  have hA0 := hA
  obtain ⟨s, rfl, rfl, hh⟩ := hA
  replace hh := IS.op hh
  refine i_IdealHeap_begin ?_
  unfold t_IdealHeap_begin
  walk_at "vh"
  cases eg : s.going with
  | some g =>
    refine x_ndecT (by simp [gV]) ?_
    walk_at "vh"
    exact h2 (by simp [IS.d, eg])
  | none =>
    refine x_ndecF rfl ?_
    walk_at "vh"
    refine c_small hA0 w hl fun H hA => ?_
    obtain ⟨s2, e2, d2, hh⟩ := hA
    replace hh := IS.op hh
    rw [← d2] at w2
    have nd := nd_of w2
    have kl := kl_of w2
    have f6 := f6_of w2
    rw [← e2]
    walk_at "vh"
    refine c_things_of hh (fun H' h' => ⟨SqL.of (h'.g 1 rfl), fun q hq => PV.ok_of h' 7 rfl hq⟩) (by rw [h8_of w2]; decide) fun r H hh => ?_
    walk_at "vh"
    have dl := dd_len s2.hands
    have h8 := h8_of w2
    refine c_led_within (som := ids s2.kept) (st := ded (tsOf s2.hands)) (skvs := kK s2.kept) hh (fun H' h' => ⟨Kn.ofS h'.tail, h'.g 4 rfl, h'.g 0 rfl, h'.g 4 rfl⟩) nd (fun t => isSome_kK t) (fun t ht => ht) ⟨by omega, by omega⟩ (fun e he => by have := f6 e he; omega) fun rd ks H ksn ksm hh => ?_
    walk_at "vh"
    refine y_dnewK hh fun gp H hh => ?_
    walk_at "vh"
    refine y_sfd hh 3 rfl (by walk_at "hm") (by show (8 : Nat) < 1000; decide) fun H hh => ?_
    have hh : Hs H ([(gp, .dK (mk1 []))] :: [(rd, .dK (mk1 ks))] :: [(r, .lst ((ded (tsOf s2.hands)).map V.int))] :: ([(s2.self, .ins (IC K) s2.dx (putF "going" (.ref gp) s2.fs))] :: [(s2.hd, .lst (s2.hands.map PV.v))] :: [(s2.nm, .lst (s2.names.map oV))] :: [(s2.kp, .dK (kK s2.kept))] :: [(s2.sp, .lst (s2.spoken.map V.int))] :: gC s2.going :: thc K s2.kept :: vcs s2.hands :: vac s2.kept :: R)) := hh
    refine y_lock hh 6 rfl fun od H hh => ?_
    walk_at "vh"
    refine x_gKeys (hh.g 6 rfl) ?_
    refine L_keys (fun i σ H' => (∃ b, σ = [some (.ref s2.self), some (.ref rd), b]) ∧ Hs H' ([(gp, .dK (mk1 ((ids (s2.kept.take i)).filter fun t => !decide (t ∈ ks))))] :: [(rd, .dK (mk1 ks))] :: [(r, .lst ((ded (tsOf s2.hands)).map V.int))] :: ([(s2.self, .ins (IC K) s2.dx (putF "going" (.ref gp) s2.fs))] :: [(s2.hd, .lst (s2.hands.map PV.v))] :: [(s2.nm, .lst (s2.names.map oV))] :: [(s2.kp, .frz od (.dK (kK s2.kept)))] :: [(s2.sp, .lst (s2.spoken.map V.int))] :: gC s2.going :: thc K s2.kept :: vcs s2.hands :: vac s2.kept :: R))) ⟨⟨_, rfl⟩, hh⟩ (fun i σ H' _ q => q.2.g 6 rfl) ?_ ?_
    · rintro i k v σ H ik ⟨⟨b, rfl⟩, hh⟩
      obtain ⟨e, ie, rfl, rfl⟩ := at_kK ik
      show tIfS _ _ _ _ _ _
      walk_at "vh"
      refine x_dnotinK (y := e.t) (.inl (by walk_at "hg")) ?_
      rw [isSome_mk]
      refine x_bl ?_
      have tk : (ids (s2.kept.take (i + 1))).filter (fun t => !decide (t ∈ ks)) = (ids (s2.kept.take i)).filter (fun t => !decide (t ∈ ks)) ++ if e.t ∈ ks then [] else [e.t] := by
        rw [take_snoc ie]
        unfold ids
        rw [List.map_append, List.filter_append]
        by_cases q : e.t ∈ ks <;> simp [q]
      by_cases q : e.t ∈ ks
      · refine x_ndecF q ?_
        walk_at "vh"
        exact ⟨⟨_, rfl⟩, by rw [tk, if_pos q, List.append_nil]; exact hh⟩
      · refine x_ndecT q ?_
        walk_at "vh"
        have ln : ((ids (s2.kept.take i)).filter fun t => !decide (t ∈ ks)).length ≤ 400 := by
          have a1 := List.length_filter_le (fun t => !decide (t ∈ ks)) (ids (s2.kept.take i))
          unfold ids at a1
          rw [List.length_map, List.length_take] at a1
          unfold ids; omega
        refine y_dput (y := e.t) hh 0 rfl (by rw [mk_len]; exact sl' (m := 401) (by omega)) fun H hh => ⟨⟨_, rfl⟩, ?_⟩
        have ne : e.t ∉ (ids (s2.kept.take i)).filter fun t => !decide (t ∈ ks) := fun z => by
          have n1 : (ids (s2.kept.take (i + 1))).Nodup := (List.take_sublist _ _ |>.map _).nodup nd
          rw [take_snoc ie] at n1
          unfold ids at n1
          rw [List.map_append] at n1
          exact (List.nodup_append.mp n1).2.2 e.t (List.mem_filter.mp z).1 e.t (by simp) rfl
        rw [put_mk, show add1 _ e.t = _ ++ [e.t] from if_neg ne] at hh
        rw [tk, if_neg q]
        exact hh
    · rintro σ H ⟨⟨b, rfl⟩, hh⟩
      rw [kK, List.length_map, List.take_length] at hh
      obtain ⟨u1, hh⟩ := hh.unlockK 6 (d := s2.kp) (od := od) (kvs := kK s2.kept) rfl
      refine ⟨u1, ?_⟩
      generalize upd H s2.kp (.dK (kK s2.kept)) = H at hh
      refine h1 (by simp [IS.d, eg]) H ⟨{ s2 with going := some (gp, (ids s2.kept).filter fun t => !decide (t ∈ ks)) }, e2, ?_, IS.cl ?_⟩
      · unfold ID.begin_
        have e3 : (pids s.d.small.kept).filter (fun t => !@decide (s.d.small.Reach t) (Classical.propDecidable _)) = (ids s2.kept).filter fun t => !decide (t ∈ ks) := by
          rw [← d2, show s2.d.kept = s2.kept.map TH.d from rfl, pids_d]
          refine List.filter_congr fun t _ => ?_
          have := (ksm t).trans (reach_d s2 t).symm
          by_cases q : t ∈ ks
          · rw [decide_eq_true q, @decide_eq_true _ (Classical.propDecidable _) (this.mp q)]
          · rw [decide_eq_false q, @decide_eq_false _ (Classical.propDecidable _) fun z => q (this.mpr z)]
        rw [e3, ← d2]; rfl
      · have h5 : Hs H ([(gp, _)] :: [(rd, _)] :: [(r, _)] :: ([(s2.self, _)] :: [(s2.hd, _)] :: [(s2.nm, _)] :: [(s2.kp, .dK (kK s2.kept))] :: [(s2.sp, _)] :: gC s2.going :: thc K s2.kept :: vcs s2.hands :: vac s2.kept :: R)) := hh
        have h6 := ((h5.erase 8).erase 2).erase 1
        have h7 : Hs H ([(gp, _)] :: ([[(s2.self, _)], [(s2.hd, _)], [(s2.nm, _)], [(s2.kp, .dK (kK s2.kept))], [(s2.sp, _)]] ++ (thc K s2.kept :: vcs s2.hands :: vac s2.kept :: R))) := h6
        exact Hs.mid h7
theorem c_end {a : Addr} {d : ID} (hA : At K a d R H) (w : d.Wf) (hl : d.spoken.length ≤ 1000000) (h1 : d.going ≠ none → ∀ H', At K a d.end_ R H' → Q .non H') (h2 : d.going = none → E (Ex K "NoRound") none H) : sp_IdealHeap_end K [.ref a] H Q E := by
  obtain ⟨s, rfl, rfl, hh⟩ := hA
  replace hh := IS.op hh
  refine i_IdealHeap_end ?_
  unfold t_IdealHeap_end
  walk_at "vh"
  cases eg : s.going with
  | none =>
    refine x_decT rfl ?_
    walk_at "vh"
    exact h2 (by simp [IS.d, eg])
  | some g =>
    refine x_decF (by simp [gV]) ?_
    obtain ⟨gp, gl⟩ := g
    have hh : Hs H ([(s.self, .ins (IC K) s.dx s.fs)] :: [(s.hd, .lst (s.hands.map PV.v))] :: [(s.nm, .lst (s.names.map oV))] :: [(s.kp, .dK (kK s.kept))] :: [(s.sp, .lst (s.spoken.map V.int))] :: [(gp, .dK (mk1 gl))] :: thc K s.kept :: vcs s.hands :: vac s.kept :: R) := by
      unfold IS.L at hh; rw [eg] at hh; exact hh
    have lg : s.fs.lookup ("going" : Str) = some (.ref gp) := by
      have := (lkI s).2.2.2.2.2.2.1
      rw [eg] at this; exact this
    walk_at "vh"
    rw [show gV s.going = .ref gp from by rw [eg]; rfl]
    refine y_listD hh (.inl (by walk_at "hg")) fun gll H hh => ?_
    rw [mk_keys] at hh
    walk_at "vh"
    refine y_sfd hh 1 rfl (by walk_at "hm") (by show (8 : Nat) < 1000; decide) fun H hh => ?_
    walk_at "vh"
    have gd : s.d.going = some gl := by simp [IS.d, eg]
    obtain ⟨g1, g2, _⟩ := w.gs gl gd
    have w' : ({ s.d with going := none } : ID).Wf := ⟨w.asc, w.lt, w.h8, w.n8, w.f6, w.hv, w.fv, w.nv, (fun g hg => by cases hg), w.wl, w.lm⟩
    have hA2 : At K s.self ({ s.d with going := none } : ID) ([(gll, .lst (gl.map V.int))] :: R) H := by
      refine ⟨{ s with going := none }, rfl, rfl, IS.cl ?_⟩
      have h5 : Hs H ([(gll, .lst (gl.map V.int))] :: ([(s.self, .ins (IC K) s.dx (putF "going" .non s.fs))] :: [(s.hd, .lst (s.hands.map PV.v))] :: [(s.nm, .lst (s.names.map oV))] :: [(s.kp, .dK (kK s.kept))] :: [(s.sp, .lst (s.spoken.map V.int))] :: [(gp, .dK (mk1 gl))] :: thc K s.kept :: vcs s.hands :: vac s.kept :: R)) := hh
      have h6 := h5.erase 6
      have h7 : Hs H ([(gll, .lst (gl.map V.int))] :: (([[(s.self, .ins (IC K) s.dx (putF "going" .non s.fs))], [(s.hd, .lst (s.hands.map PV.v))], [(s.nm, .lst (s.names.map oV))], [(s.kp, .dK (kK s.kept))], [(s.sp, .lst (s.spoken.map V.int))], thc K s.kept, vcs s.hands, vac s.kept]) ++ R)) := h6
      refine (Hs.mid h7).eq ?_
      simp [IS.L, gC, IS.fs, gV]; rfl
    refine c_settle hA2 w' (fun c H' h' => h'.g 1 rfl) g2 g1 hl fun H' hA3 => h1 (by rw [gd]; simp) H' ?_
    obtain ⟨s3, e3, d3, h3⟩ := hA3
    refine ⟨s3, e3, ?_, h3.sub (by simp)⟩
    rw [d3]
    unfold ID.end_
    rw [gd]; rfl
end PI

set_option Elab.async false
set_option linter.all false
set_option maxRecDepth 100000
set_option maxHeartbeats 1000000
namespace PI
open PySem PySem.Spec PyProof.Rows L2 SX0 R_k82
/-! ### what stays so -/
theorem mem_pids {k : List PT} {t : Int} : t ∈ pids k ↔ ∃ e ∈ k, e.t = t := by simp [pids]
theorem pids_filter (p : Int → Bool) (k : List PT) : pids (k.filter fun e => p e.t) = (pids k).filter p := by unfold pids; rw [List.filter_map]; rfl
theorem pwords_filter (p : PT → Bool) (k : List PT) : pwords (k.filter p) ≤ pwords k := by
  induction k with
  | nil => simp [pwords]
  | cons a r ih =>
    rw [List.filter_cons]
    unfold pwords at *
    split <;> simp only [List.map_cons, List.sum_cons] <;> omega
theorem find_pt {k : List PT} (asc : (pids k).Pairwise (· < ·)) {e : PT} (he : e ∈ k) : k.find? (fun x => decide (x.t = e.t)) = some e := find_id (k := fun e : PT => e.t) (asc.imp fun q => Int.ne_of_lt q) he
theorem pflo_of {k : List PT} (asc : (pids k).Pairwise (· < ·)) {e : PT} (he : e ∈ k) : pflo k e.t = tsv e.fs := by unfold pflo; rw [find_pt asc he]
theorem settle_wf {s : ID} (w : s.Wf) (gone : List Int) (hv : ∀ t ∈ tsv s.hands, t ∉ gone) (fv : ∀ e ∈ s.kept, e.t ∉ gone → ∀ t ∈ tsv e.fs, t ∉ gone) (gv : ∀ g, s.going = some g → ∀ t ∈ g, t ∉ gone) : (s.settle gone).Wf := by
  have kp : (s.settle gone).kept = s.kept.filter fun e => !decide (e.t ∈ gone) := rfl
  have pk : pids (s.settle gone).kept = (pids s.kept).filter fun t => !decide (t ∈ gone) := pids_filter (fun t => !decide (t ∈ gone)) s.kept
  have mk : ∀ t, t ∈ pids (s.settle gone).kept ↔ t ∈ pids s.kept ∧ t ∉ gone := fun t => by rw [pk, List.mem_filter]; simp
  have me : ∀ e, e ∈ (s.settle gone).kept ↔ e ∈ s.kept ∧ e.t ∉ gone := fun e => by rw [kp, List.mem_filter]; simp
  refine ⟨by rw [pk]; exact List.Pairwise.sublist List.filter_sublist w.asc, fun t ht => w.lt t ((mk t).mp ht).1, w.h8, ?_, fun e he => w.f6 e ((me e).mp he).1, fun t ht => (mk t).mpr ⟨w.hv t ht, hv t ht⟩, fun e he t ht => (mk t).mpr ⟨w.fv e ((me e).mp he).1 t ht, fv e ((me e).mp he).1 ((me e).mp he).2 t ht⟩, fun t ht => ?_, fun g hg => ?_, Int.le_trans (pwords_filter _ _) w.wl, w.lm⟩
  · show (s.names.map _).length = 8
    rw [List.length_map]; exact w.n8
  · obtain ⟨o, ho, e⟩ := List.mem_map.mp (show some t ∈ s.names.map _ from ht)
    cases o with
    | none => cases e
    | some u =>
      by_cases z : u ∈ gone
      · simp [z] at e
      · simp [z] at e
        subst e
        exact (mk u).mpr ⟨w.nv u ho, z⟩
  · obtain ⟨g1, g2, g3, g4, g5⟩ := w.gs g hg
    exact ⟨fun t ht => (mk t).mpr ⟨g1 t ht, gv g hg t ht⟩, g2, g3, fun e he => g4 e ((me e).mp he).1, fun e he => g5 e ((me e).mp he).1⟩
theorem age_wf {s : ID} (w : s.Wf) : ({ s with kept := s.kept.map fun e => { e with aged := true } } : ID).Wf := by
  have pk : pids (s.kept.map fun e => ({ e with aged := true } : PT)) = pids s.kept := by unfold pids; rw [List.map_map]; rfl
  have pw : pwords (s.kept.map fun e => ({ e with aged := true } : PT)) = pwords s.kept := by unfold pwords; rw [List.map_map]; rfl
  refine ⟨by rw [pk]; exact w.asc, by rw [pk]; exact w.lt, w.h8, w.n8, fun e he => ?_, by rw [pk]; exact w.hv, fun e he t ht => ?_, by rw [pk]; exact w.nv, fun g hg => ?_, by rw [pw]; exact w.wl, w.lm⟩
  · obtain ⟨x, hx, rfl⟩ := List.mem_map.mp he; exact w.f6 x hx
  · obtain ⟨x, hx, rfl⟩ := List.mem_map.mp he; rw [pk]; exact w.fv x hx t ht
  · obtain ⟨g1, g2, g3, g4, g5⟩ := w.gs g hg
    refine ⟨by rw [pk]; exact g1, g2, g3, fun e he => ?_, fun e he _ => ?_⟩
    · obtain ⟨x, hx, rfl⟩ := List.mem_map.mp he; exact g4 x hx
    · obtain ⟨x, hx, rfl⟩ := List.mem_map.mp he; rfl
theorem mem_pyids {k : List PT} {t : Int} : t ∈ pyids k ↔ ∃ e ∈ k, e.aged = false ∧ e.t = t := by
  unfold pyids
  rw [mem_pids]
  constructor
  · rintro ⟨e, he, rfl⟩
    obtain ⟨h1, h2⟩ := List.mem_filter.mp he
    exact ⟨e, h1, by simpa using h2, rfl⟩
  · rintro ⟨e, he, h, rfl⟩
    exact ⟨e, List.mem_filter.mpr ⟨he, by simp [h]⟩, rfl⟩
theorem mem_gone {s : ID} {t : Int} : t ∈ (pyids s.kept).filter (fun t => !@decide (s.Stay t) (Classical.propDecidable _)) ↔ t ∈ pyids s.kept ∧ ¬ s.Stay t := by
  rw [List.mem_filter]
  constructor
  · rintro ⟨h1, h2⟩
    refine ⟨h1, fun z => ?_⟩
    rw [@decide_eq_true _ (Classical.propDecidable _) z] at h2; cases h2
  · rintro ⟨h1, h2⟩
    refine ⟨h1, ?_⟩
    rw [@decide_eq_false _ (Classical.propDecidable _) h2]; rfl
theorem small_wf {s : ID} (w : s.Wf) : s.small.Wf := by
  refine age_wf (settle_wf w _ (fun t ht z => ?_) (fun e he hn t ht z => ?_) fun g hg t ht z => ?_)
  · obtain ⟨h1, h2⟩ := mem_gone.mp z
    exact h2 (.start (List.mem_append_left _ ht) h1)
  · obtain ⟨h1, h2⟩ := mem_gone.mp z
    refine h2 ?_
    cases q : e.aged with
    | true => exact .start (List.mem_append_right _ (List.mem_flatMap.mpr ⟨e, List.mem_filter.mpr ⟨he, q⟩, ht⟩)) h1
    | false =>
      have y : e.t ∈ pyids s.kept := mem_pyids.mpr ⟨e, he, q, rfl⟩
      have st : s.Stay e.t := Classical.byContradiction fun c => hn (mem_gone.mpr ⟨y, c⟩)
      exact .step st (by rw [pflo_of w.asc he]; exact ht) h1
  · obtain ⟨h1, h2⟩ := mem_gone.mp z
    obtain ⟨e, he, ea, rfl⟩ := mem_pyids.mp h1
    have := (w.gs g hg).2.2.2.2 e he ht
    rw [ea] at this; cases this
theorem mem_doom {s : ID} {t : Int} : t ∈ (pids s.kept).filter (fun t => !@decide (s.Reach t) (Classical.propDecidable _)) ↔ t ∈ pids s.kept ∧ ¬ s.Reach t := by
  rw [List.mem_filter]
  constructor
  · rintro ⟨h1, h2⟩
    refine ⟨h1, fun z => ?_⟩
    rw [@decide_eq_true _ (Classical.propDecidable _) z] at h2; cases h2
  · rintro ⟨h1, h2⟩
    refine ⟨h1, ?_⟩
    rw [@decide_eq_false _ (Classical.propDecidable _) h2]; rfl
theorem small_aged {s : ID} : ∀ e ∈ s.small.kept, e.aged = true := fun e he => by
  obtain ⟨x, _, rfl⟩ := List.mem_map.mp (show e ∈ List.map _ _ from he)
  rfl
theorem begin_wf {s : ID} (w : s.Wf) : s.begin_.Wf := by
  have w2 := small_wf w
  refine ⟨w2.asc, w2.lt, w2.h8, w2.n8, w2.f6, w2.hv, w2.fv, w2.nv, fun g hg => ?_, w2.wl, w2.lm⟩
  have eg : g = (pids s.small.kept).filter fun t => !@decide (s.small.Reach t) (Classical.propDecidable _) := (Option.some.inj hg).symm
  subst eg
  refine ⟨fun t ht => (mem_doom.mp ht).1, List.filter_sublist.nodup (w2.asc.imp fun q => Int.ne_of_lt q), fun t ht z => ?_, fun e he hn t ht z => ?_, fun e he _ => small_aged e he⟩
  · exact (mem_doom.mp z).2 (.start ht (w2.hv t ht))
  · have r : s.small.Reach e.t := Classical.byContradiction fun c => hn (mem_doom.mpr ⟨mem_pids.mpr ⟨e, he, rfl⟩, c⟩)
    exact (mem_doom.mp z).2 (.step r (by rw [pflo_of w2.asc he]; exact ht) (w2.fv e he t ht))
theorem end_wf {s : ID} (w : s.Wf) : s.end_.Wf := by
  unfold ID.end_
  have w' : ({ s with going := none } : ID).Wf := ⟨w.asc, w.lt, w.h8, w.n8, w.f6, w.hv, w.fv, w.nv, (fun g hg => by cases hg), w.wl, w.lm⟩
  cases e : s.going with
  | none => exact settle_wf w' [] (fun _ _ => by simp) (fun _ _ _ _ _ => by simp) fun g hg => by cases hg
  | some g =>
    obtain ⟨g1, g2, g3, g4, g5⟩ := w.gs g e
    exact settle_wf w' g g3 g4 fun g hg => by cases hg
theorem tsv_set {vs : List Val} {i : Nat} {v : Val} {t : Int} (h : t ∈ tsv (vs.set i v)) : t ∈ tsv vs ∨ tOf v = some t := by
  obtain ⟨x, hx, e⟩ := List.mem_filterMap.mp h
  rcases mem_set hx with z | z
  · exact .inl (List.mem_filterMap.mpr ⟨x, z, e⟩)
  · subst z; exact .inr e
/-- a hand may get what is held and not doomed -/
theorem setHand_wf {s : ID} (w : s.Wf) (h : Int) (v : Val) (hv : ∀ t, tOf v = some t → t ∈ pids s.kept ∧ ∀ g, s.going = some g → t ∉ g) : (s.setHand h v).Wf := by
  refine ⟨w.asc, w.lt, by show (s.hands.set _ _).length = 8; rw [List.length_set]; exact w.h8, w.n8, w.f6, fun t ht => ?_, w.fv, w.nv, fun g hg => ?_, w.wl, w.lm⟩
  · rcases tsv_set (show t ∈ tsv (s.hands.set _ _) from ht) with z | z
    · exact w.hv t z
    · exact (hv t z).1
  · obtain ⟨g1, g2, g3, g4, g5⟩ := w.gs g hg
    refine ⟨g1, g2, fun t ht => ?_, g4, g5⟩
    rcases tsv_set (show t ∈ tsv (s.hands.set _ _) from ht) with z | z
    · exact g3 t z
    · exact (hv t z).2 g hg
theorem hand_tsv {s : ID} {h t : Int} (e : s.hand h = .thg t) : t ∈ tsv s.hands := by
  unfold ID.hand at e
  cases q : s.hands[h.toNat]? with
  | none => rw [q] at e; cases e
  | some v =>
    rw [q] at e
    have e : v = .thg t := e
    exact List.mem_filterMap.mpr ⟨v, List.mem_of_getElem? q, by rw [e]; rfl⟩
theorem hand_ok {s : ID} (w : s.Wf) {h t : Int} (e : tOf (s.hand h) = some t) : t ∈ pids s.kept ∧ ∀ g, s.going = some g → t ∉ g := by
  have e' : s.hand h = .thg t := by
    cases q : s.hand h <;> rw [q] at e <;> simp [tOf] at e
    rw [e]
  have := hand_tsv e'
  exact ⟨w.hv t this, fun g hg => (w.gs g hg).2.2.1 t this⟩
theorem copy_wf {s : ID} (w : s.Wf) (h g : Int) : (s.setHand h (s.hand g)).Wf := setHand_wf w h _ fun t e => hand_ok w e
theorem drop_wf {s : ID} (w : s.Wf) (h : Int) : (s.setHand h .non).Wf := setHand_wf w h _ fun t e => by cases e
theorem number_wf {s : ID} (w : s.Wf) (h x : Int) : (s.setHand h (.num x)).Wf := setHand_wf w h _ fun t e => by cases e
theorem fsOf_eq {s : ID} (w : s.Wf) {e : PT} (he : e ∈ s.kept) : s.fsOf e.t = e.fs := by unfold ID.fsOf; rw [find_pt w.asc he]
theorem load_wf {s : ID} (w : s.Wf) (h g t k : Int) (e : s.hand g = .thg t) : (s.setHand h (s.fieldV t k)).Wf := by
  refine setHand_wf w h _ fun u hu => ?_
  have ht := hand_ok w (h := g) (t := t) (by rw [e]; rfl)
  obtain ⟨x, hx, rfl⟩ := mem_pids.mp ht.1
  have hm : u ∈ tsv x.fs := by
    unfold ID.fieldV at hu
    rw [fsOf_eq w hx] at hu
    cases q : x.fs[k.toNat]? with
    | none => rw [q] at hu; cases hu
    | some v => rw [q] at hu; exact List.mem_filterMap.mpr ⟨v, List.mem_of_getElem? q, hu⟩
  exact ⟨w.fv x hx u hm, fun gg hg => (w.gs gg hg).2.2.2.1 x hx (ht.2 gg hg) u hm⟩
theorem onP_pids (k : List PT) (t : Int) (f : PT → PT) (hf : ∀ x, (f x).t = x.t) : pids (onP k t f) = pids k := by
  unfold onP pids
  rw [List.map_map]
  refine List.map_congr_left fun x _ => ?_
  show (if x.t = t then f x else x).t = x.t
  split
  · exact hf x
  · rfl
theorem onP_words (k : List PT) (t : Int) (f : PT → PT) (hf : ∀ x, (f x).fs.length = x.fs.length) : pwords (onP k t f) = pwords k := by
  unfold onP pwords
  rw [List.map_map]
  refine congrArg _ (List.map_congr_left fun x _ => ?_)
  show ((if x.t = t then f x else x).fs.length : Int) + 1 = _
  split
  · rw [hf x]
  · rfl
theorem mem_onP {k : List PT} {t : Int} {f : PT → PT} {e : PT} (h : e ∈ onP k t f) : ∃ x ∈ k, e = if x.t = t then f x else x := by
  obtain ⟨x, hx, rfl⟩ := List.mem_map.mp h
  exact ⟨x, hx, rfl⟩
theorem store_wf {s : ID} (w : s.Wf) (t k h g : Int) (e : s.hand g = .thg t) : (s.setField t k (s.hand h)).Wf := by
  have pk : pids (s.setField t k (s.hand h)).kept = pids s.kept := onP_pids _ _ _ fun _ => rfl
  have ht := hand_ok w (h := g) (t := t) (by rw [e]; rfl)
  refine ⟨by rw [pk]; exact w.asc, by rw [pk]; exact w.lt, w.h8, w.n8, fun e he => ?_, by rw [pk]; exact w.hv, fun e he u hu => ?_, by rw [pk]; exact w.nv, fun gg hg => ?_, ?_, w.lm⟩
  · obtain ⟨x, hx, rfl⟩ := mem_onP he
    split
    · show (x.fs.set _ _).length ≤ 6
      rw [List.length_set]; exact w.f6 x hx
    · exact w.f6 x hx
  · rw [pk]
    obtain ⟨x, hx, rfl⟩ := mem_onP he
    split at hu
    · rcases tsv_set (show u ∈ tsv (x.fs.set _ _) from hu) with z | z
      · exact w.fv x hx u z
      · exact (hand_ok w z).1
    · exact w.fv x hx u hu
  · obtain ⟨g1, g2, g3, g4, g5⟩ := w.gs gg hg
    refine ⟨by rw [pk]; exact g1, g2, g3, fun e he hn u hu => ?_, fun e he hi => ?_⟩
    · obtain ⟨x, hx, rfl⟩ := mem_onP he
      by_cases c : x.t = t
      · rw [if_pos c] at hn hu
        rcases tsv_set (show u ∈ tsv (x.fs.set _ _) from hu) with z | z
        · exact g4 x hx hn u z
        · exact (hand_ok w z).2 gg hg
      · rw [if_neg c] at hn hu
        exact g4 x hx hn u hu
    · obtain ⟨x, hx, rfl⟩ := mem_onP he
      by_cases c : x.t = t
      · rw [if_pos c] at hi ⊢
        exact g5 x hx hi
      · rw [if_neg c] at hi ⊢
        exact g5 x hx hi
  · show pwords (onP _ _ _) ≤ 400
    rw [onP_words _ _ _ fun x => by simp]; exact w.wl
theorem word_wf {s : ID} (w : s.Wf) (t x : Int) : (s.setWord t x).Wf := by
  have pk : pids (s.setWord t x).kept = pids s.kept := onP_pids _ _ _ fun _ => rfl
  have al : ∀ e ∈ (s.setWord t x).kept, ∃ y ∈ s.kept, y.t = e.t ∧ y.fs = e.fs ∧ y.aged = e.aged := fun e he => by
    obtain ⟨y, hy, rfl⟩ := mem_onP he
    refine ⟨y, hy, ?_⟩
    split <;> exact ⟨rfl, rfl, rfl⟩
  refine ⟨by rw [pk]; exact w.asc, by rw [pk]; exact w.lt, w.h8, w.n8, fun e he => ?_, by rw [pk]; exact w.hv, fun e he u hu => ?_, by rw [pk]; exact w.nv, fun gg hg => ?_, ?_, w.lm⟩
  · obtain ⟨y, hy, _, e2, _⟩ := al e he
    rw [← e2]; exact w.f6 y hy
  · obtain ⟨y, hy, _, e2, _⟩ := al e he
    rw [pk]; rw [← e2] at hu; exact w.fv y hy u hu
  · obtain ⟨g1, g2, g3, g4, g5⟩ := w.gs gg hg
    refine ⟨by rw [pk]; exact g1, g2, g3, fun e he hn u hu => ?_, fun e he hi => ?_⟩
    · obtain ⟨y, hy, e1, e2, _⟩ := al e he
      rw [← e1] at hn; rw [← e2] at hu
      exact g4 y hy hn u hu
    · obtain ⟨y, hy, e1, _, e3⟩ := al e he
      rw [← e1] at hi; rw [← e3]
      exact g5 y hy hi
  · show pwords (onP _ _ _) ≤ 400
    rw [onP_words _ _ (fun e => { e with lw := some x }) fun x => rfl]; exact w.wl
theorem name_wf {s : ID} (w : s.Wf) (i t h : Int) (e : s.hand h = .thg t) : (s.setName i t).Wf := by
  have ht := hand_ok w (h := h) (t := t) (by rw [e]; rfl)
  refine ⟨w.asc, w.lt, w.h8, by show (s.names.set _ _).length = 8; rw [List.length_set]; exact w.n8, w.f6, w.hv, w.fv, fun u hu => ?_, w.gs, w.wl, w.lm⟩
  rcases mem_set (show some u ∈ s.names.set _ _ from hu) with z | z
  · exact w.nv u z
  · cases z; exact ht.1
/-! ### read -/
open Classical in
noncomputable def ID.giveBack (s : ID) (t : Int) : ID := { s with going := s.going.map fun g => g.filter fun u => !decide (Led (pflo s.kept) (· ∈ g) [t] u) }
def ID.nameOf (s : ID) (i : Int) : Option Int := (s.names[i.toNat]?).getD none
noncomputable def ID.read (s : ID) (h i : Int) : ID := match s.nameOf i with
  | none => s.setHand h .non
  | some t => (s.setHand h (.thg t)).giveBack t
theorem mem_back {fl : Int → List Int} {g : List Int} {t u : Int} : u ∈ g.filter (fun u => !@decide (Led fl (· ∈ g) [t] u) (Classical.propDecidable _)) ↔ u ∈ g ∧ ¬ Led fl (· ∈ g) [t] u := by
  rw [List.mem_filter]
  constructor
  · rintro ⟨h1, h2⟩
    refine ⟨h1, fun z => ?_⟩
    rw [@decide_eq_true _ (Classical.propDecidable _) z] at h2; cases h2
  · rintro ⟨h1, h2⟩
    refine ⟨h1, ?_⟩
    rw [@decide_eq_false _ (Classical.propDecidable _) h2]; rfl
theorem read_wf {s : ID} (w : s.Wf) (h i : Int) : (s.read h i).Wf := by
  unfold ID.read
  cases e : s.nameOf i with
  | none => exact drop_wf w h
  | some t =>
    have tm : t ∈ pids s.kept := by
      unfold ID.nameOf at e
      cases q : s.names[i.toNat]? with
      | none => rw [q] at e; cases e
      | some o =>
        rw [q] at e
        have e : o = some t := e
        subst e
        exact w.nv t (List.mem_of_getElem? q)
    show ID.Wf _
    refine ⟨w.asc, w.lt, by show (s.hands.set _ _).length = 8; rw [List.length_set]; exact w.h8, w.n8, w.f6, fun u hu => ?_, w.fv, w.nv, fun g hg => ?_, w.wl, w.lm⟩
    · rcases tsv_set (show u ∈ tsv (s.hands.set _ _) from hu) with z | z
      · exact w.hv u z
      · cases z; exact tm
    · cases eg : s.going with
      | none => rw [show ((s.setHand h (.thg t)).giveBack t).going = Option.map _ s.going from rfl, eg] at hg; cases hg
      | some g0 =>
        rw [show ((s.setHand h (.thg t)).giveBack t).going = Option.map _ s.going from rfl, eg] at hg
        have hg : g = g0.filter fun u => !@decide (Led (pflo s.kept) (· ∈ g0) [t] u) (Classical.propDecidable _) := (Option.some.inj hg).symm
        subst hg
        obtain ⟨g1, g2, g3, g4, g5⟩ := w.gs g0 eg
        refine ⟨fun u hu => g1 u (mem_back.mp hu).1, List.filter_sublist.nodup g2, fun u hu z => ?_, fun x hx hn u hu z => ?_, fun x hx hi => g5 x hx (mem_back.mp hi).1⟩
        · obtain ⟨z1, z2⟩ := mem_back.mp z
          rcases tsv_set (show u ∈ tsv (s.hands.set _ _) from hu) with y | y
          · exact g3 u y z1
          · cases y; exact z2 (.start (by simp) z1)
        · obtain ⟨z1, z2⟩ := mem_back.mp z
          by_cases q : x.t ∈ g0
          · have l : Led (pflo s.kept) (· ∈ g0) [t] x.t := Classical.byContradiction fun c => hn (mem_back.mpr ⟨q, c⟩)
            exact z2 (.step l (by rw [pflo_of w.asc hx]; exact hu) z1)
          · exact g4 x hx q u hu z1
/-! ### make -/
def ID.ywords (s : ID) : Int := pwords (s.kept.filter fun e => !e.aged)
noncomputable def ID.pre (s : ID) (w : Int) : ID := if 0 < s.room ∧ s.room < s.ywords + w then s.small else s
def ID.made_ (s : ID) (h n : Int) : ID := { s with kept := s.kept ++ [⟨s.count, List.replicate n.toNat .non, decide (s.room = 0), none⟩], hands := s.hands.set h.toNat (.thg s.count), count := s.count + 1 }
theorem pre_wf {s : ID} (w : s.Wf) (k : Int) : (s.pre k).Wf := by unfold ID.pre; split; exact small_wf w; exact w
theorem made_wf {s : ID} (w : s.Wf) (h n : Int) (hn : 0 ≤ n ∧ n ≤ 6) (hl : pwords s.kept + (n + 1) ≤ s.limit) : (s.made_ h n).Wf := by
  have pk : pids (s.made_ h n).kept = pids s.kept ++ [s.count] := by unfold ID.made_ pids; simp
  have tn : tsv (List.replicate n.toNat Val.non) = [] := by
    unfold tsv
    rw [List.filterMap_eq_nil_iff]
    intro x hx
    rw [(List.mem_replicate.mp hx).2]; rfl
  have up : ∀ t, t ∈ pids s.kept → t ∈ pids (s.made_ h n).kept := fun t ht => by rw [pk]; exact List.mem_append_left _ ht
  have al : ∀ e ∈ (s.made_ h n).kept, e ∈ s.kept ∨ e = ⟨s.count, List.replicate n.toNat .non, decide (s.room = 0), none⟩ := fun e he => by
    rcases List.mem_append.mp (show e ∈ s.kept ++ _ from he) with z | z
    · exact .inl z
    · exact .inr (List.mem_singleton.mp z)
  refine ⟨?_, fun t ht => ?_, by show (s.hands.set _ _).length = 8; rw [List.length_set]; exact w.h8, w.n8, fun e he => ?_, fun t ht => ?_, fun e he t ht => ?_, fun t ht => up t (w.nv t ht), fun g hg => ?_, ?_, w.lm⟩
  · rw [pk, List.pairwise_append]
    exact ⟨w.asc, by simp, fun a ha b hb => by rw [List.mem_singleton.mp hb]; exact w.lt a ha⟩
  · rw [pk] at ht
    show t < s.count + 1
    rcases List.mem_append.mp ht with z | z
    · have := w.lt t z; omega
    · rw [List.mem_singleton.mp z]; omega
  · rcases al e he with z | z
    · exact w.f6 e z
    · rw [z]; simp; omega
  · rcases tsv_set (show t ∈ tsv (s.hands.set _ _) from ht) with z | z
    · exact up t (w.hv t z)
    · cases z; rw [pk]; simp
  · rcases al e he with z | z
    · exact up t (w.fv e z t ht)
    · rw [z] at ht; rw [tn] at ht; cases ht
  · obtain ⟨g1, g2, g3, g4, g5⟩ := w.gs g hg
    have cn : s.count ∉ g := fun z => by have := w.lt _ (g1 _ z); omega
    refine ⟨fun t ht => up t (g1 t ht), g2, fun t ht => ?_, fun e he hx t ht => ?_, fun e he hi => ?_⟩
    · rcases tsv_set (show t ∈ tsv (s.hands.set _ _) from ht) with z | z
      · exact g3 t z
      · cases z; exact cn
    · rcases al e he with z | z
      · exact g4 e z hx t ht
      · rw [z] at ht; rw [tn] at ht; cases ht
    · rcases al e he with z | z
      · exact g5 e z hi
      · rw [z] at hi; exact absurd hi cn
  · have : pwords (s.made_ h n).kept = pwords s.kept + (n + 1) := by
      unfold ID.made_ pwords
      simp only [List.map_append, List.map_cons, List.map_nil, List.sum_append, List.sum_cons, List.sum_nil, List.length_replicate]
      omega
    rw [this]
    have := w.lm
    omega
end PI

set_option Elab.async false
set_option linter.all false
set_option maxRecDepth 100000
set_option maxHeartbeats 1000000
namespace PI
open PySem PySem.Spec PyProof.Rows L2 SX0 R_k82
variable {K : PySem.W.Frag} {H : Hp} {Q : VK} {E : XK} {L R A : List Chunk} {s : IS} {c : Chunk}
theorem drop_mk (g : List Int) (t : Int) : dropK (mk1 g) (Sum.inl t) = mk1 (g.filter fun u => !decide (u = t)) := by
  unfold dropK mk1
  rw [List.filter_map]
  congr 1
  refine List.filter_congr fun e _ => ?_
  simp
/-- a state without a hole: the going dict at its own place -/
theorem IS.opG {g : Addr} {l : List Int} (h : Hs H (s.L K ++ R)) (e : s.going = some (g, l)) : Hs H ([(g, .dK (mk1 l))] :: ([(s.self, .ins (IC K) s.dx s.fs)] :: [(s.hd, .lst (s.hands.map PV.v))] :: [(s.nm, .lst (s.names.map oV))] :: [(s.kp, .dK (kK s.kept))] :: [(s.sp, .lst (s.spoken.map V.int))] :: thc K s.kept :: vcs s.hands :: vac s.kept :: R)) := by
  unfold IS.L at h
  rw [e] at h
  have h7 : Hs H ([[(s.self, .ins (IC K) s.dx s.fs)], [(s.hd, .lst (s.hands.map PV.v))], [(s.nm, .lst (s.names.map oV))], [(s.kp, .dK (kK s.kept))], [(s.sp, .lst (s.spoken.map V.int))]] ++ ([(g, .dK (mk1 l))] :: (thc K s.kept :: vcs s.hands :: vac s.kept :: R))) := h
  exact Hs.unmid h7
theorem IS.clG {g : Addr} {l : List Int} (h : Hs H ([(g, .dK (mk1 l))] :: ([(s.self, .ins (IC K) s.dx s.fs)] :: [(s.hd, .lst (s.hands.map PV.v))] :: [(s.nm, .lst (s.names.map oV))] :: [(s.kp, .dK (kK s.kept))] :: [(s.sp, .lst (s.spoken.map V.int))] :: thc K s.kept :: vcs s.hands :: vac s.kept :: R))) (e : s.going = some (g, l)) : Hs H (s.L K ++ R) := by
  unfold IS.L
  rw [e]
  have h7 : Hs H ([[(s.self, .ins (IC K) s.dx s.fs)], [(s.hd, .lst (s.hands.map PV.v))], [(s.nm, .lst (s.names.map oV))], [(s.kp, .dK (kK s.kept))], [(s.sp, .lst (s.spoken.map V.int))]] ++ ([(g, .dK (mk1 l))] :: (thc K s.kept :: vcs s.hands :: vac s.kept :: R))) := Hs.mid h
  exact h7
theorem c_give_back {a : Addr} {d : ID} {t : Int} (hA : At K a d R H) (nd : (pids d.kept).Nodup) (kl : d.kept.length ≤ 400) (f6 : ∀ e ∈ d.kept, e.fs.length ≤ 6) (gs : ∀ g, d.going = some g → g.Nodup ∧ ∀ t ∈ g, t ∈ pids d.kept) (h : ∀ H', At K a (d.giveBack t) R H' → Q .non H') : sp_IdealHeap_give_back K [.ref a, .int t] H Q E := by
  have hA0 := hA
  obtain ⟨s, rfl, rfl, hh⟩ := hA
  replace hh := IS.op hh
  rw [show s.d.kept = s.kept.map TH.d from rfl, pids_d] at nd
  rw [show s.d.kept = s.kept.map TH.d from rfl, List.length_map] at kl
  have f6' : ∀ e ∈ s.kept, e.fs.length ≤ 6 := fun e he => by
    have := f6 e.d (List.mem_map.mpr ⟨e, he, rfl⟩)
    simpa [TH.d] using this
  refine i_IdealHeap_give_back ?_
  unfold t_IdealHeap_give_back
  walk_at "vh"
  cases eg : s.going with
  | none =>
    refine x_ndecF rfl ?_
    walk_at "vh"
    refine h H ⟨s, rfl, ?_, IS.cl hh⟩
    unfold ID.giveBack
    rw [show s.d.going = s.going.map (·.2) from rfl, eg]
    unfold IS.d; rw [eg]; rfl
  | some gg =>
    obtain ⟨gp, gl⟩ := gg
    have gd : s.d.going = some gl := by simp [IS.d, eg]
    obtain ⟨gn, gsub⟩ := gs gl gd
    rw [show s.d.kept = s.kept.map TH.d from rfl, pids_d] at gsub
    have gll : gl.length ≤ 400 := by
      have := nodup_len gn gsub
      unfold ids at this; rw [List.length_map] at this; omega
    replace hh := IS.opG hh eg
    have gv : gV s.going = .ref gp := by rw [eg]; rfl
    refine x_ndecT (by rw [show gV (some (gp, gl)) = V.ref gp from rfl]; intro z; cases z) ?_
    walk_at "vh"
    refine y_lst hh (fun lp H hh => ?_)
    walk_at "vh"
    rw [gv]
    refine c_led_within (som := gl) (st := [t]) (skvs := mk1 gl) hh (fun H' h' => ⟨Kn.of (fun x hx => h'.cell 7 rfl hx) (fun x hx => h'.cell 9 rfl hx), h'.g 5 rfl, h'.g 0 rfl, h'.g 1 rfl⟩) nd (fun t => isSome_mk _ t) gsub ⟨by simp, by omega⟩ (fun e he => by have := f6' e he; omega) fun rd ks H ksn ksm hh => ?_
    refine y_keysL hh 0 rfl fun od H hh => ?_
    refine L_keys (fun i σ H' => (∃ b, σ = [some (.ref s.self), some (.int t), b]) ∧ Hs H' ([(rd, .frz od (.dK (mk1 ks)))] :: [(lp, .lst [.int t])] :: [(gp, .dK (mk1 (gl.filter fun u => !decide (u ∈ ks.take i))))] :: ([(s.self, .ins (IC K) s.dx s.fs)] :: [(s.hd, .lst (s.hands.map PV.v))] :: [(s.nm, .lst (s.names.map oV))] :: [(s.kp, .dK (kK s.kept))] :: [(s.sp, .lst (s.spoken.map V.int))] :: thc K s.kept :: vcs s.hands :: vac s.kept :: R))) ⟨⟨_, rfl⟩, ?_⟩ (fun i σ H' _ q => q.2.g 0 rfl) ?_ ?_
    · have e : gl.filter (fun u => !decide (u ∈ ks.take 0)) = gl := by simp
      rw [e]; exact hh
    · rintro i k v σ H ik ⟨⟨b, rfl⟩, hh⟩
      obtain ⟨u, iu, ek⟩ := get_map ik
      cases ek
      have um : u ∈ ks := List.mem_of_getElem? iu
      have un : u ∉ ks.take i := fun z => by
        have q : (ks.take (i + 1)).Nodup := (List.take_sublist _ _).nodup ksn
        rw [take_snoc iu] at q
        exact (List.nodup_append.mp q).2.2 u z u (by simp) rfl
      have ug : u ∈ gl := ((ksm u).mp um).som
      show tDrop _ _ _ _
      walk_at "vh"
      rw [gv]
      refine y_dpop1 (by walk_at "hg") ?_
      walk_at "vh"
      refine y_dropI (y := u) (v := .bl true) hh 2 rfl (by rw [val_mk, if_pos (List.mem_filter.mpr ⟨ug, by simp [un]⟩)]) fun H hh => ⟨⟨_, rfl⟩, ?_⟩
      rw [drop_mk] at hh
      have ek : (gl.filter fun u => !decide (u ∈ ks.take i)).filter (fun x => !decide (x = u)) = gl.filter fun u => !decide (u ∈ ks.take (i + 1)) := by
        rw [List.filter_filter, take_snoc iu]
        refine List.filter_congr fun y _ => ?_
        by_cases q1 : y ∈ ks.take i <;> by_cases q2 : y = u <;> simp [q1, q2]
      rw [ek] at hh
      exact hh
    · rintro σ H ⟨⟨b, rfl⟩, hh⟩
      rw [mk_len, List.take_length] at hh
      have ef : ({ s with going := some (gp, gl.filter fun u => !decide (u ∈ ks)) } : IS).fs = s.fs := by unfold IS.fs; rw [gv]; rfl
      have hh2 := hh.tail.tail
      rw [← ef] at hh2
      refine h H ⟨{ s with going := some (gp, gl.filter fun u => !decide (u ∈ ks)) }, rfl, ?_, IS.cl (IS.clG hh2 rfl)⟩
      unfold ID.giveBack
      rw [gd]
      unfold IS.d
      simp only [Option.map_some]
      congr 2
      refine List.filter_congr fun u _ => ?_
      have e2 := ksm u
      rw [← pflo_d] at e2
      by_cases q : u ∈ ks
      · rw [decide_eq_true q, @decide_eq_true _ (Classical.propDecidable _) (e2.mp q)]
      · rw [decide_eq_false q, @decide_eq_false _ (Classical.propDecidable _) fun z => q (e2.mpr z)]
theorem c_read {a : Addr} {d : ID} {h i : Int} (hA : At K a d R H) (w : d.Wf) (h1 : 0 ≤ h ∧ h < 8 → 0 ≤ i ∧ i < 8 → ∀ H', At K a (d.read h i) R H' → Q .non H') (h2 : ¬ (0 ≤ h ∧ h < 8) → E (Ex K "BadHand") none H) (h3 : 0 ≤ h ∧ h < 8 → ¬ (0 ≤ i ∧ i < 8) → E (Ex K "BadName") none H) : sp_IdealHeap_read K [.ref a, .int h, .int i] H Q E := by
  obtain ⟨s, rfl, rfl, hh⟩ := hA
  replace hh := IS.op hh
  refine i_IdealHeap_read ?_
  unfold t_IdealHeap_read
  walk_at "vh"
  refine c_look_at_hand (fun h8 => ?_) h2
  walk_at "vh"
  refine c_look_at_name (fun i8 => ?_) (h3 h8)
  have n8 := n8_of w
  obtain ⟨q1, q2⟩ := atI_hand (xs := s.names.map oV) i8.1 (by rw [List.length_map]; omega)
  have il : i.toNat < s.names.length := by omega
  have en : s.d.nameOf i = s.names[i.toNat] := by unfold ID.nameOf IS.d; simp [il]
  walk_at "vh"
  refine x_ixL (SqL.of (by walk_at "hg")) (v := oV s.names[i.toNat]) (by rw [q1]; simp) ?_
  walk_at "vh"
  refine y_setL hh 1 rfl (ix8 w h8) fun H hh => ?_
  walk_at "vh"
  rw [oV_non]
  have hc := close_hand (R' := R) (q := ⟨.non, 0⟩) hh fun e he => by cases he
  cases e : s.names[i.toNat] with
  | none =>
    refine x_ndecF rfl ?_
    walk_at "vh"
    refine h1 h8 i8 H ⟨{ s with hands := s.hands.set h.toNat ⟨.non, 0⟩ }, rfl, ?_, hc⟩
    unfold ID.read
    rw [en, e]
    simp [IS.d, ID.setHand, List.map_set]
  | some t =>
    refine x_ndecT (fun z => by cases z) ?_
    walk_at "vh"
    replace hh := IS.op hc
    refine c_thing_value hh fun p H hh => ?_
    walk_at "vh"
    have w1 : ({ s with hands := s.hands.set h.toNat ⟨.non, 0⟩ } : IS).hands.length = 8 := by simp [h8_of w]
    have ix : ixN (({ s with hands := s.hands.set h.toNat ⟨.non, 0⟩ } : IS).hands.map PV.v).length h = some h.toNat := (atI_hand (xs := ({ s with hands := s.hands.set h.toNat ⟨.non, 0⟩ } : IS).hands.map PV.v) h8.1 (by rw [List.length_map, w1]; omega)).2
    refine y_setL hh 2 rfl ix fun H hh => ?_
    have hc2 := close_hand (s := { s with hands := s.hands.set h.toNat ⟨.non, 0⟩ }) (R' := R) (q := ⟨.thg t, p⟩) (i := h.toNat) hh.tail fun e he => hh.cell 0 rfl he
    walk_at "vh"
    have eh : (s.hands.set h.toNat ⟨.non, 0⟩).set h.toNat ⟨.thg t, p⟩ = s.hands.set h.toNat ⟨.thg t, p⟩ := List.set_set ..
    have hA2 : At K s.self (s.d.setHand h (.thg t)) R H := ⟨{ s with hands := s.hands.set h.toNat ⟨.thg t, p⟩ }, rfl, by simp [IS.d, ID.setHand, List.map_set], by rw [← eh]; exact hc2⟩
    refine c_give_back hA2 (by exact w.asc.imp fun q => Int.ne_of_lt q) (by show s.d.kept.length ≤ 400; rw [show s.d.kept = s.kept.map TH.d from rfl, List.length_map]; exact kl_of w) w.f6 (fun g hg => ⟨(w.gs g hg).2.1, (w.gs g hg).1⟩) fun H' hA3 => h1 h8 i8 H' ?_
    unfold ID.read
    rw [en, e]
    exact hA3
/-! ### make -/
theorem c_IT_init {o dx : Addr} {n : Int} {b : Bool} (hh : Hs H ([(o, .ins (IT K) dx [])] :: L)) (hn : 0 ≤ n ∧ n ≤ 6) (h : ∀ l H', Hs H' ([(o, .ins (IT K) dx [("inside", .ref l), ("aged", .bl b), ("last_word", .non)])] :: [(l, .lst (List.replicate n.toNat .non))] :: L) → Q .non H') : sp_IdealThing___init__ K [.ref o, .int n, .bl b] H Q E := by
  refine i_IdealThing___init__ ?_
  unfold t_IdealThing___init__
  walk_at "vh"
  refine x_gRng1 (by omega) (by omega) ?_
  refine L_lcr (fun _ => some .non) hh (by omega) (fun i D acc H2 _ h' R hR => ?_) fun l H hh => ?_
  · refine x_own (by simp) fun ev => ?_
    refine x_yes (x_iteT (x_c ?_))
    exact hR H2 h'
  · have e : ((List.range n.toNat).map fun i => V.int (0 + (i : Nat))).filterMap (fun _ => some V.non) = List.replicate n.toNat V.non := by
      rw [List.filterMap_map]
      have : ∀ k, (List.range k).filterMap ((fun _ => some V.non) ∘ fun i => V.int (0 + (i : Nat))) = List.replicate k V.non := by
        intro k
        induction k with
        | zero => rfl
        | succ k ih => rw [List.range_succ, List.filterMap_append, ih, List.replicate_succ']; rfl
      exact this _
    rw [e] at hh
    walk_at "vh"
    refine y_sfd hh 1 rfl (by walk_at "hm") (by show (0 : Nat) < 1000; decide) fun H hh => ?_
    walk_at "vh"
    refine y_sfd hh 1 rfl (by walk_at "hm") (by show (1 : Nat) < 1000; decide) fun H hh => ?_
    walk_at "vh"
    refine y_sfd hh 1 rfl (by walk_at "hm") (by show (2 : Nat) < 1000; decide) fun H hh => ?_
    refine h l H ?_
    have h5 : Hs H ([(l, .lst (List.replicate n.toNat V.non))] :: [(o, .ins (IT K) dx [("inside", .ref l), ("aged", .bl b), ("last_word", .non)])] :: L) := hh
    exact h5.to (by simp only [List.flatten_cons]; exact List.perm_append_comm_assoc _ _ _)
theorem put_kK {k : List TH} {e : TH} (h : e.t ∉ ids k) : putK (kK k) (Sum.inl e.t) (.ref e.o) = kK (k ++ [e]) := by
  have v : valV (kK k) (Sum.inl e.t : Key) = none := by
    have := isSome_kK (kept := k) e.t
    rw [decide_eq_false h] at this
    cases q : valV (kK k) (Sum.inl e.t : Key) with
    | none => rfl
    | some x => rw [q] at this; cases this
  rw [putK_new _ v]
  simp [kK]
theorem ywords_d (s : IS) (nd : (ids s.kept).Nodup) : wsum s.kept (yids s.kept) = s.d.ywords := by
  unfold wsum ID.ywords pwords yids ids
  rw [show s.d.kept = s.kept.map TH.d from rfl, List.filter_map, List.map_map, List.map_map]
  refine congrArg List.sum (List.map_congr_left fun e he => ?_)
  have he0 := (List.mem_filter.mp he).1
  show (match s.kept.find? fun x => decide (x.t = e.t) with | some e => (e.fs.length : Int) + 1 | none => 0) = _
  rw [find_id (k := fun e : TH => e.t) nd he0]
  simp [TH.d]
theorem c_make {a : Addr} {d : ID} {h n : Int} (hA : At K a d R H) (w : d.Wf) (hl : d.spoken.length ≤ 1000000)
    (h1 : 0 ≤ h ∧ h < 8 → 0 ≤ n ∧ n ≤ 6 → pwords (d.pre (n + 1)).kept + (n + 1) ≤ (d.pre (n + 1)).limit → ∀ H', At K a ((d.pre (n + 1)).made_ h n) R H' → Q .non H')
    (h2 : ¬ (0 ≤ h ∧ h < 8) → E (Ex K "BadHand") none H) (h3 : 0 ≤ h ∧ h < 8 → ¬ (0 ≤ n ∧ n ≤ 6) → E (Ex K "BadCount") none H)
    (h4 : 0 ≤ h ∧ h < 8 → 0 ≤ n ∧ n ≤ 6 → ¬ (pwords (d.pre (n + 1)).kept + (n + 1) ≤ (d.pre (n + 1)).limit) → ∀ H', At K a (d.pre (n + 1)) R H' → E (Ex K "NoRoom") none H') : sp_IdealHeap_make K [.ref a, .int h, .int n] H Q E := by
  refine i_IdealHeap_make ?_
  unfold t_IdealHeap_make
  walk_at "vh"
  refine c_look_at_hand (fun h8 => ?_) h2
  walk_at "vh"
  refine c_words_of (fun hn => ?_) (h3 h8)
  -- behind the small round
  have rest : ∀ H, At K a (d.pre (n + 1)) R H → (tSeq (tIfS (tTest (tOp oGt (tOp oAdd (tMU [(He.ga K "IdealHeap", He.ma K (He.ga K "IdealHeap") "held", sp_IdealHeap_held K)] "held" (WD E) (tVar 0) tNil) (tVar 3)) (tFd [He.ga K "IdealHeap"] "limit" (tVar 0)))) (tRz (He.ga K "NoRoom") (WD E)) tNext)
 (tSeq (sDPut (tFd [He.ga K "IdealHeap"] "kept" (tVar 0)) (tFd [He.ga K "IdealHeap"] "count" (tVar 0)) (tMkS (He.ga K "IdealThing") (sp_IdealThing___init__ K) (WD E) (tCons (tVar 2) (tCons (tOp rEq (tFd [He.ga K "IdealHeap"] "room" (tVar 0)) (tC (.int 0))) tNil))))
 (tSeq (tAsg (tCallS (sp_thing_value K) (WE (WD E)) (tCons (tFd [He.ga K "IdealHeap"] "count" (tVar 0)) tNil)) (gSub (tFd [He.ga K "IdealHeap"] "in_hands" (tVar 0)) (tVar 1) rSetL))
 (sFd [He.ga K "IdealHeap"] (tVar 0) (tOp oAdd (tFd [He.ga K "IdealHeap"] "count" (tVar 0)) (tC (.int 1))) "count")))) { nx := fun _ H' => Q .non H', rt := Q } [some (.ref a), some (.int h), some (.int n), some (.int (n + 1))] H := by
    intro H hA
    have w2 := pre_wf w (n + 1)
    generalize d.pre (n + 1) = d2 at hA w2 h1 h4
    obtain ⟨s, rfl, rfl, hh⟩ := hA
    replace hh := IS.op hh
    walk_at "vh"
    refine c_held (R := R) ⟨s, rfl, rfl, IS.cl hh⟩ w2 fun H hA => ?_
    obtain ⟨s1, e1, e2, hh⟩ := hA
    rw [← e2] at w2 h1 h4 ⊢
    rw [← e1] at h1 h4 ⊢
    replace hh := IS.op hh
    walk_at "vh"
    refine x_ite (fun b => ?_) fun b => ?_
    · walk_at "vh"
      exact h4 h8 hn (by show ¬ (pwords s1.d.kept + (n + 1) ≤ s1.limit); omega) H ⟨s1, rfl, rfl, IS.cl hh⟩
    · walk_at "vh"
      refine y_mks hh fun o dx H hh => ?_
      have hh2 : Hs H ([(o, .ins (IT K) dx [])] :: [(dx, .own o)] :: (s1.L K ++ R)) := hh
      refine c_IT_init (b := decide (V.int s1.room = V.int 0)) (hh2.erase 1) hn fun l H hh => ⟨rfl, ?_⟩
      replace hh : Hs H ([(o, .ins (IT K) dx [("inside", .ref l), ("aged", .bl (decide (V.int s1.room = V.int 0))), ("last_word", .non)])] :: [(l, .lst (List.replicate n.toNat .non))] :: (s1.L K ++ R)) := hh
      walk_at "vh"
      have nk : s1.count ∉ ids s1.kept := fun z => by
        have := w2.lt s1.count (by rw [show s1.d.kept = s1.kept.map TH.d from rfl, pids_d]; exact z)
        have e : s1.d.count = s1.count := rfl
        omega
      have kl := kl_of w2
      refine y_dput (y := s1.count) hh 5 rfl (by simp [kK]; exact sl' (m := 401) (by omega)) fun H hh => ?_
      rw [show putK (kK s1.kept) (Sum.inl s1.count) (.ref o) = kK (s1.kept ++ [⟨s1.count, o, dx, l, List.replicate n.toNat ⟨.non, 0⟩, decide (s1.room = 0), none⟩]) from put_kK (e := ⟨s1.count, o, dx, l, List.replicate n.toNat ⟨.non, 0⟩, decide (s1.room = 0), none⟩) nk] at hh
      walk_at "vh"
      refine c_thing_value hh fun p H hh => ?_
      walk_at "vh"
      refine y_setL hh 4 rfl (ix8 w2 h8) fun H hh => ?_
      walk_at "vh"
      refine y_sfd hh 3 rfl (by walk_at "hm") (by show (8 : Nat) < 1000; decide) fun H hh => ?_
      refine h1 h8 hn (by show pwords s1.d.kept + (n + 1) ≤ s1.limit; omega) H ⟨{ s1 with kept := s1.kept ++ [⟨s1.count, o, dx, l, List.replicate n.toNat ⟨.non, 0⟩, decide (s1.room = 0), none⟩], hands := s1.hands.set h.toNat ⟨.thg s1.count, p⟩, count := s1.count + 1 }, rfl, ?_, IS.cl ?_⟩
      · simp [IS.d, ID.made_, TH.d, List.map_set]
        rfl
      · rw [show (s1.hands.map PV.v).set h.toNat (.ref p) = (s1.hands.set h.toNat ⟨.thg s1.count, p⟩).map PV.v from by rw [List.map_set]; rfl] at hh
        have h5 : Hs H ([(p, .tup [.str "thing", .int s1.count])] :: [(o, .ins (IT K) dx [("inside", .ref l), ("aged", .bl (decide (V.int s1.room = V.int 0))), ("last_word", .non)])] :: [(l, .lst (List.replicate n.toNat .non))] :: ([(s1.self, .ins (IC K) s1.dx (putF "count" (.int (s1.count + 1)) s1.fs))] :: [(s1.hd, .lst ((s1.hands.set h.toNat ⟨.thg s1.count, p⟩).map PV.v))] :: [(s1.nm, .lst (s1.names.map oV))] :: [(s1.kp, .dK (kK (s1.kept ++ [⟨s1.count, o, dx, l, List.replicate n.toNat ⟨.non, 0⟩, decide (s1.room = 0), none⟩])))] :: [(s1.sp, .lst (s1.spoken.map V.int))] :: gC s1.going :: thc K s1.kept :: vcs s1.hands :: vac s1.kept :: R)) := hh
        have h6 := Hs.swapT (c' := vcs (s1.hands.set h.toNat ⟨.thg s1.count, p⟩)) h5 10 rfl (fun e he => vcs_tup he) fun e he => ⟨vcs_tup he, by
          obtain ⟨q, hq, hqe⟩ := List.mem_flatMap.mp he
          rcases mem_set hq with z | z
          · exact h5.cell 10 rfl (vcs_mem z hqe)
          · rw [z] at hqe
            exact h5.cell 0 rfl hqe⟩
        have h7 := h6.tail
        have ed : (decide (V.int s1.room = V.int 0)) = decide (s1.room = 0) := by simp
        have e1 : thc K (s1.kept ++ [⟨s1.count, o, dx, l, List.replicate n.toNat ⟨.non, 0⟩, decide (s1.room = 0), none⟩]) = thc K s1.kept ++ [(o, .ins (IT K) dx [("inside", .ref l), ("aged", .bl (decide (V.int s1.room = V.int 0))), ("last_word", .non)]), (l, .lst (List.replicate n.toNat .non))] := by
          rw [ed]
          simp [thc, TH.c, TH.ob, oV, PV.v, Enc.enc]
        have e2 : vac (s1.kept ++ [⟨s1.count, o, dx, l, List.replicate n.toNat ⟨.non, 0⟩, decide (s1.room = 0), none⟩]) = vac s1.kept := by
          unfold vac
          rw [List.flatMap_append]
          have : vcs (List.replicate n.toNat (⟨.non, 0⟩ : PVal)) = [] := by
            unfold vcs
            rw [List.flatMap_eq_nil_iff]
            intro x hx
            rw [(List.mem_replicate.mp hx).2]; rfl
          simp [this]
        have h8' : Hs H ([(o, .ins (IT K) dx [("inside", .ref l), ("aged", .bl (decide (V.int s1.room = V.int 0))), ("last_word", .non)])] :: [(l, .lst (List.replicate n.toNat .non))] :: (([[(s1.self, .ins (IC K) s1.dx (putF "count" (.int (s1.count + 1)) s1.fs))], [(s1.hd, .lst ((s1.hands.set h.toNat ⟨.thg s1.count, p⟩).map PV.v))], [(s1.nm, .lst (s1.names.map oV))], [(s1.kp, .dK (kK (s1.kept ++ [⟨s1.count, o, dx, l, List.replicate n.toNat ⟨.non, 0⟩, decide (s1.room = 0), none⟩])))], [(s1.sp, .lst (s1.spoken.map V.int))], gC s1.going, thc K s1.kept]) ++ (vcs (s1.hands.set h.toNat ⟨.thg s1.count, p⟩) :: vac s1.kept :: R))) := h7
        refine (Hs.mid2 h8').eq ?_
        simp only [IS.L, List.cons_append, List.nil_append, List.flatten_cons]
        rw [e1, e2]
        simp only [List.cons_append, List.nil_append, List.append_assoc]
        rfl
  have hA0 := hA
  obtain ⟨s, rfl, rfl, hh⟩ := hA
  replace hh := IS.op hh
  have nd := nd_of w
  have kl := kl_of w
  have er : (0 < s.room ∧ s.room < s.d.ywords + (n + 1)) ↔ (0 < s.d.room ∧ s.d.room < s.d.ywords + (n + 1)) := Iff.rfl
  walk_at "vh"
  refine x_ite (fun b => ?_) fun b => ?_
  · walk_at "vh"
    refine c_young_things hh 3 rfl (fun od H' h' => Kn.of (fun x hx => h'.cell 6 rfl hx) (fun x hx => h'.cell 8 rfl hx)) nd (by omega) fun yt H hh => ?_
    walk_at "vh"
    have yl : (yids s.kept).length ≤ 400 := by
      have := nodup_len (yids_nd nd) fun t => yids_sub
      unfold ids at this; rw [List.length_map] at this; omega
    refine c_words_in (ts := yids s.kept) (kept := s.kept) hh 0 rfl (by simp [mk1]) (fun od H' h' => ⟨Kn.of (fun x hx => h'.cell 7 rfl hx) (fun x hx => h'.cell 9 rfl hx), .inl (h'.g 4 rfl)⟩) nd (fun t ht => yids_sub ht) (f6_of w) (by omega) fun H hh => ?_
    rw [ywords_d s nd]
    replace hh : Hs H (s.L K ++ R) := hh.tail
    walk_at "vh"
    refine x_ite (fun b2 => ?_) fun b2 => ?_
    · refine x_drop (x_mu (x_var rfl (y_mu (by walk_at "hg") (by walk_at "hm") rfl (x_nil ?_))))
      refine c_small ⟨s, rfl, rfl, IS.cl hh⟩ w hl fun H hA => ?_
      refine rest H ?_
      rw [show s.d.pre (n + 1) = s.d.small from if_pos ⟨b, by show s.room < _; omega⟩]
      exact hA
    · refine x_next ?_
      refine rest H ?_
      rw [show s.d.pre (n + 1) = s.d from if_neg fun z => b2 (by have : s.room < _ := z.2; omega)]
      exact ⟨s, rfl, rfl, IS.cl hh⟩
  · refine x_iteF (x_next ?_)
    refine rest H ?_
    rw [show s.d.pre (n + 1) = s.d from if_neg fun z => b z.1]
    exact hA0
end PI

set_option Elab.async false
set_option linter.all false
set_option maxRecDepth 100000
set_option maxHeartbeats 1000000
namespace PI
open PySem PySem.Spec PyProof.Rows L2 SX0 R_k82
variable {K : PySem.W.Frag} {H : Hp} {Q : VK} {E : XK} {L R A : List Chunk} {s : IS} {c : Chunk}
/-! ### asks for witnesses -/
theorem c_things {a : Addr} (hh : Hs H L) (i j : Nat) (ei : L[i]? = some [(a, .ins (IC K) s.dx s.fs)]) (ej : L[j]? = some [(s.kp, .dK (kK s.kept))]) (w : s.d.Wf) (h : ∀ p H', Hs H' ([(p, .lst ((ids s.kept).map V.int))] :: L) → Q (.ref p) H') : sp_IdealHeap_things K [.ref a] H Q E := by
  refine i_IdealHeap_things ?_
  unfold t_IdealHeap_things
  walk_at "vh"
  refine y_fd (hh.g i ei) (by walk_at "hm") rfl ?_
  walk_at "vh"
  refine y_sortedD hh (.inl (hh.g j ej)) (show (kK s.kept).map (·.1) = (ids s.kept).map Sum.inl from by simp [kK, ids]) fun ms p H pm sm hh => ?_
  have asc := w.asc
  rw [show s.d.kept = s.kept.map TH.d from rfl, pids_d] at asc
  have e : ms = ids s.kept := sorted_eq asc sm (pm.nodup_iff.mpr (nd_of w)) fun t => pm.mem_iff
  subst e
  exact h p H hh
theorem c_thing_due {a : Addr} {e : TH} (hh : Hs H L) (i j : Nat) (ei : L[i]? = some [(a, .ins (IC K) s.dx s.fs)]) (ej : L[j]? = some [(s.kp, .dK (kK s.kept))]) (nd : (ids s.kept).Nodup) (he : e ∈ s.kept) (h : Q (.ref e.o) H) : sp_IdealHeap_thing_due K [.ref a, .int e.t] H Q E := by
  refine i_IdealHeap_thing_due ?_
  unfold t_IdealHeap_thing_due
  walk_at "vh"
  refine y_fd (hh.g i ei) (by walk_at "hm") rfl ?_
  refine x_dnotinK (y := e.t) (.inl (hh.g j ej)) ?_
  rw [isSome_kK]
  refine x_bl ?_
  refine x_ndecF (List.mem_map.mpr ⟨e, he, rfl⟩) ?_
  walk_at "vh"
  refine y_fd (hh.g i ei) (by walk_at "hm") rfl ?_
  walk_at "vh"
  exact x_dgetK (y := e.t) (.inl (hh.g j ej)) (val_kK nd he) h
theorem c_fields_of {a : Addr} {e : TH} (hh : Hs H L) (i j : Nat) (ei : L[i]? = some [(a, .ins (IC K) s.dx s.fs)]) (ej : L[j]? = some [(s.kp, .dK (kK s.kept))]) (kn : Kn K s.kept H) (nd : (ids s.kept).Nodup) (he : e ∈ s.kept)
    (h : ∀ p H', Hs H' ([(p, .lst (e.fs.map PV.v))] :: L) → Q (.ref p) H') : sp_IdealHeap_fields_of K [.ref a, .int e.t] H Q E := by
  refine i_IdealHeap_fields_of ?_
  unfold t_IdealHeap_fields_of
  walk_at "vh"
  refine y_mu (hh.g i ei) (by walk_at "hm") rfl ?_
  walk_at "vh"
  refine c_thing_due (s := s) hh i j ei ej nd he ?_
  refine y_fd (kn.o e he) (by walk_at "hm") (lookIT _ _ _) ?_
  walk_at "vh"
  exact y_listL hh (SqL.of (kn.l e he)) fun p H' hh => h p H' hh
theorem c_hands {a : Addr} (hh : Hs H L) (i j : Nat) (ei : L[i]? = some [(a, .ins (IC K) s.dx s.fs)]) (ej : L[j]? = some [(s.hd, .lst (s.hands.map PV.v))]) (h : ∀ p H', Hs H' ([(p, .lst (s.hands.map PV.v))] :: L) → Q (.ref p) H') : sp_IdealHeap_hands K [.ref a] H Q E := by
  refine i_IdealHeap_hands ?_
  unfold t_IdealHeap_hands
  walk_at "vh"
  refine y_fd (hh.g i ei) (by walk_at "hm") rfl ?_
  walk_at "vh"
  exact y_listL hh (SqL.of (hh.g j ej)) fun p H' hh => h p H' hh
theorem c_thing_in_ {p : PVal} (hp : p.ok H) (h : Q (oV (tOf p.d)) H) : sp_thing_in K [p.v] H Q E := by
  refine i_thing_in ?_
  unfold t_thing_in
  walk_at "vh"
  refine c_kind_of hp ?_
  obtain ⟨d, a⟩ := p
  cases d with
  | non => walk_at "vh"; refine x_ndecT (by dsimp only [kindS]; decide +kernel) ?_; walk_at "vh"; exact h
  | num x => walk_at "vh"; refine x_ndecT (by dsimp only [kindS]; decide +kernel) ?_; walk_at "vh"; exact h
  | thg t =>
    walk_at "vh"
    refine x_ndecF rfl ?_
    walk_at "vh"
    exact x_ixT (SqT.of (hp _ (PV.c_some rfl))) rfl h
/-! ### views -/
abbrev VR := List (Int × Addr × List (Option Int))
def vkK (v : VR) : List (Key × V) := v.map fun e => (Sum.inl e.1, V.ref e.2.1)
def vrc (v : VR) : Chunk := v.map fun e => (e.2.1, HO.lst (e.2.2.map oV))
/-- [thing_in(x) for x in xs] -/
theorem lc_thing_in {p : Addr} {vs : List PVal} {i : Nat} {σ : L2.St} (hi : i < σ.length) (hh : Hs H L) (hp : ∀ H', Hs H' L → SqL K H' p (vs.map PV.v) ∧ ∀ q ∈ vs, q.ok H') (hl : vs.length ≤ 100) {W : WX}
    (hq : ∀ D H2, Hs H2 ([(D, .lst ((vs.map fun q => tOf q.d).map oV))] :: L) → Q (.ref D) H2) :
    LcG (Itl K p) (gName i) tYes (tCallS (sp_thing_in K) (WE W) (tCons (tVar i) tNil)) [i] σ H Q := by
  intro D hD
  refine (L_lcW (σ := σ) (H := H) (Q := Q) (g := gName i) (tt := tYes) (te := tCallS (sp_thing_in K) (WE W) (tCons (tVar i) tNil)) (vs := [i]) (walk_list (K := K) (a := p) (xs := vs.map PV.v)) (fun D j acc H' => acc = ((vs.take j).map fun q => tOf q.d).map oV ∧ Hs H' ([(D, .lst acc)] :: L)) (fun D hD => ⟨by simp, hh.new hD⟩) (fun D j acc H' h => (hp H' h.2.tail).1) ?_ ?_) D hD
  · rintro D j x acc H2 H3 hD hj ⟨rfl, h⟩ e ⟨rfl, hx⟩ R r1 r2
    obtain ⟨q, iq, rfl⟩ := get_map hx
    refine x_own hi fun ev => ?_
    refine x_yes (x_iteT (x_callS (x_cons (x_var ev (x_nil ?_)))))
    refine c_thing_in_ ((hp _ h.tail).2 q (List.mem_of_getElem? iq)) ?_
    have tk : ((vs.take (j + 1)).map fun q => tOf q.d).map oV = ((vs.take j).map fun q => tOf q.d).map oV ++ [oV (tOf q.d)] := by rw [take_snoc iq]; simp
    refine r1 _ _ (h.g 0 rfl) (by simp; exact sl' (m := 101) (by omega)) ⟨tk.symm, h.set 0 rfl rfl rfl⟩
  · rintro D acc H' hD ⟨rfl, h⟩ e
    rw [List.length_map, List.take_length] at h
    exact hq D H' h
theorem vk_len (v : VR) : (vkK v).length = v.length := by simp [vkK]
theorem put_vkK {v : VR} {t : Int} {D : Addr} {r : List (Option Int)} (h : t ∉ v.map (·.1)) : putK (vkK v) (Sum.inl t) (.ref D) = vkK (v ++ [(t, D, r)]) := by
  have v0 : valV (vkK v) (Sum.inl t : Key) = none := by
    unfold vkK
    rw [val_map (fun e : Int × Addr × List (Option Int) => e.1) (fun e => V.ref e.2.1)]
    cases q : v.find? fun e => decide (e.1 = t) with
    | none => rfl
    | some x => exact absurd (List.mem_map.mpr ⟨x, List.mem_of_find?_eq_some q, by simpa using List.find?_some q⟩) h
  rw [putK_new _ v0]
  simp [vkK]
def vrow (e : TH) : Int × List (Option Int) := (e.t, e.fs.map fun q => tOf q.d)
theorem c_view_of {a : Addr} (hh : Hs H (s.L K ++ R)) (ha : s.self = a) (w : s.d.Wf) (h : ∀ (vr : VR) v ra fa H', (vr.map fun e => (e.1, e.2.2)) = s.kept.map vrow →
      Hs H' ([(v, .tup [.ref ra, .ref fa])] :: [(ra, .lst ((s.hands.map fun q => tOf q.d).map oV))] :: [(fa, .dK (vkK vr))] :: vrc vr :: (s.L K ++ R)) → Q (.ref v) H') : sp_view_of K [.ref a] H Q E := by
  subst ha
  refine i_view_of ?_
  unfold t_view_of
  have nd := nd_of w
  have kl := kl_of w
  have f6 := f6_of w
  walk_at "vh"
  refine y_dnewK hh fun f H hh => ?_
  walk_at "vh"
  refine c_things (s := s) hh 1 4 rfl rfl w fun tp H hh => ?_
  refine x_gList (SqL.of (hh.g 0 rfl)) ?_
  refine L_list (xs := (ids s.kept).map V.int) (fun i σ H' => (∃ b c, σ = [some (.ref s.self), some (.ref f), b, c]) ∧ ∃ vr : VR, (vr.map fun e => (e.1, e.2.2)) = (s.kept.take i).map vrow ∧ Hs H' ([(f, .dK (vkK vr))] :: vrc vr :: [(tp, .lst ((ids s.kept).map V.int))] :: (s.L K ++ R))) ⟨⟨_, _, rfl⟩, [], rfl, ?_⟩ (fun i σ H' _ ⟨_, vr, _, q⟩ => SqL.of (q.g 2 rfl)) ?_ ?_
  · have h1 := Hs.pick (L := [[(tp, HO.lst ((ids s.kept).map V.int))], [(f, .dK [])]]) (R := s.L K ++ R) hh [1, 0]
    refine h1.eq ?_
    simp [vrc, vkK]
  · rintro i x σ H ix ⟨⟨b, c, rfl⟩, vr, ev, hh⟩
    obtain ⟨t, it, rfl⟩ := get_map ix
    obtain ⟨e, ie, rfl⟩ := get_map it
    have he := List.mem_of_getElem? ie
    have kn : Kn K s.kept H := Kn.ofL hh 9 11 rfl rfl
    show sDPut _ _ _ _ _ _
    walk_at "vh"
    refine c_fields_of (s := s) hh 3 6 rfl rfl kn nd he fun fl H hh => ?_
    refine x_gList (SqL.of (hh.g 0 rfl)) ?_
    have l6 := f6 e he
    refine lc_thing_in (vs := e.fs) (by simp) hh (fun H' h' => ⟨SqL.of (h'.g 0 rfl), (Kn.ofL h' 10 12 rfl rfl : Kn K s.kept H').v e he⟩) (by omega) fun D H hh => ?_
    walk_at "vh"
    have ek : vr.map (·.1) = ids (s.kept.take i) := by
      have := congrArg (List.map Prod.fst) ev
      simpa [vrow, ids, Function.comp_def] using this
    have nt' : e.t ∉ vr.map (·.1) := fun z => by
      rw [ek] at z
      have n1 : (ids (s.kept.take (i + 1))).Nodup := (List.take_sublist _ _ |>.map _).nodup nd
      rw [take_snoc ie] at n1
      unfold ids at n1
      rw [List.map_append] at n1
      exact (List.nodup_append.mp n1).2.2 e.t z e.t (by simp) rfl
    have vl : vr.length ≤ 400 := by
      have := congrArg List.length ek
      rw [List.length_map] at this
      unfold ids at this
      rw [List.length_map, List.length_take] at this
      omega
    refine y_dput (y := e.t) hh 2 rfl (by rw [vk_len]; exact sl' (m := 401) (by omega)) fun H hh => ?_
    rw [put_vkK (r := e.fs.map fun q => tOf q.d) nt'] at hh
    refine ⟨⟨_, _, rfl⟩, vr ++ [(e.t, D, e.fs.map fun q => tOf q.d)], ?_, ?_⟩
    · rw [take_snoc ie, List.map_append, List.map_append, ev]; rfl
    · have h1 := Hs.pick (L := [[(D, HO.lst ((e.fs.map fun q => tOf q.d).map oV))], [(fl, .lst (e.fs.map PV.v))], [(f, .dK (vkK (vr ++ [(e.t, D, e.fs.map fun q => tOf q.d)])))], vrc vr, [(tp, .lst ((ids s.kept).map V.int))]]) (R := s.L K ++ R) hh [2, 3, 0, 4]
      refine h1.eq ?_
      simp [vrc]
  · rintro σ H ⟨⟨b, c, rfl⟩, vr, ev, hh⟩
    rw [List.length_map, ids, List.length_map, List.take_length] at ev
    walk_at "vh"
    refine c_hands (s := s) hh 3 4 rfl rfl fun hp H hh => ?_
    refine x_gList (SqL.of (hh.g 0 rfl)) ?_
    have h8 := h8_of w
    refine lc_thing_in (vs := s.hands) (by simp) hh (fun H' h' => ⟨SqL.of (h'.g 0 rfl), fun q hq => PV.ok_of h' 11 rfl hq⟩) (by omega) fun ra H hh => ?_
    walk_at "vh"
    refine y_tup hh fun v H hh => ?_
    refine h vr v ra f H ev ?_
    have h1 := Hs.pick (L := [[(v, HO.tup [.ref ra, .ref f])], [(ra, HO.lst ((s.hands.map fun q => tOf q.d).map oV))], [(hp, .lst (s.hands.map PV.v))], [(f, .dK (vkK vr))], vrc vr, [(tp, .lst ((ids s.kept).map V.int))]]) (R := s.L K ++ R) hh [0, 1, 3, 4]
    exact h1
end PI

set_option Elab.async false
set_option linter.all false
set_option maxRecDepth 100000
set_option maxHeartbeats 1000000
namespace PI
open PySem PySem.Spec PyProof.Rows L2 SX0 R_k82
variable {K : PySem.W.Frag} {H : Hp} {Q : VK} {E : XK} {L R A : List Chunk} {s : IS} {c : Chunk}
/-! ### what is reached in a view -/
def vids (v : VR) : List Int := v.map (·.1)
def somes (l : List (Option Int)) : List Int := l.filterMap id
theorem mem_somes {l : List (Option Int)} {t : Int} : t ∈ somes l ↔ some t ∈ l := by simp [somes]
def vflo (v : VR) (t : Int) : List Int := match v.find? fun e => decide (e.1 = t) with
  | some e => somes e.2.2
  | none => []
theorem vid_mem {v : VR} {t : Int} (h : t ∈ vids v) : ∃ e ∈ v, e.1 = t := by simpa [vids] using h
theorem vflo_of {v : VR} (nd : (vids v).Nodup) {e : Int × Addr × List (Option Int)} (h : e ∈ v) : vflo v e.1 = somes e.2.2 := by
  unfold vflo; rw [find_id (k := fun e : Int × Addr × List (Option Int) => e.1) nd h]
theorem val_vkK {v : VR} (nd : (vids v).Nodup) {e : Int × Addr × List (Option Int)} (h : e ∈ v) : valV (vkK v) (Sum.inl e.1 : Key) = some (.ref e.2.1) := by
  unfold vkK
  rw [val_map (fun e : Int × Addr × List (Option Int) => e.1) (fun e => V.ref e.2.1), find_id (k := fun e : Int × Addr × List (Option Int) => e.1) nd h]; rfl
theorem isSome_vkK {v : VR} (t : Int) : (valV (vkK v) (Sum.inl t : Key)).isSome = decide (t ∈ vids v) := by
  unfold vkK
  rw [val_map (fun e : Int × Addr × List (Option Int) => e.1) (fun e => V.ref e.2.1), Option.isSome_map]
  induction v with
  | nil => rfl
  | cons x r ih =>
    rw [List.find?_cons]
    by_cases z : x.1 = t
    · simp [z, vids]
    · have z' : ¬ t = x.1 := fun q => z q.symm
      simp only [z, decide_false, ih]
      unfold vids
      rw [List.map_cons]
      simp [z']
theorem vrc_l {v : VR} {e : Int × Addr × List (Option Int)} (h : e ∈ v) : (e.2.1, HO.lst (e.2.2.map oV)) ∈ vrc v := List.mem_map.mpr ⟨e, h, rfl⟩
/-- what is known of a view's rows -/
def Kv (v : VR) (H : Hp) : Prop := ∀ e ∈ v, H e.2.1 = some (.lst (e.2.2.map oV))
theorem Kv.of {v : VR} (hh : Hs H L) (i : Nat) (ei : L[i]? = some (vrc v)) : Kv v H := fun e he => hh.cell i ei (vrc_l he)
def Okl (v : VR) (l : List (Option Int)) : Prop := ∀ t, some t ∈ l → t ∈ vids v
theorem c_look_at_told {f p : Addr} {v : VR} {l : List (Option Int)} (hf : Rd H f (.dK (vkK v))) (hl : SqL K H p (l.map oV)) (ok : Okl v l) (h : Q .non H) : sp_look_at_told K [.ref f, .ref p] H Q E := by
  refine i_look_at_told ?_
  unfold t_look_at_told
  walk_at "vh"
  refine x_gList hl ?_
  refine L_list (xs := l.map oV) (fun i σ H' => (∃ b, σ = [some (.ref f), some (.ref p), b]) ∧ H' = H) ⟨⟨_, rfl⟩, rfl⟩ (fun i σ H' _ q => by rw [q.2]; exact hl) ?_ ?_
  · rintro i x σ H' ix ⟨⟨b, rfl⟩, rfl⟩
    obtain ⟨o, io, rfl⟩ := get_map ix
    show tIfS _ _ _ _ _ _
    walk_at "vh"
    rw [oV_non]
    cases o with
    | none => refine x_ndecF rfl ?_; walk_at "vh"; exact ⟨⟨_, rfl⟩, rfl⟩
    | some t =>
      refine x_ndecT (fun z => by cases z) ?_
      walk_at "vh"
      refine x_dnotinK (y := t) hf ?_
      rw [isSome_vkK]
      refine x_bl ?_
      refine x_ndecF (ok t (List.mem_of_getElem? io)) ?_
      walk_at "vh"
      exact ⟨⟨_, rfl⟩, rfl⟩
  · rintro σ H' ⟨⟨b, rfl⟩, rfl⟩
    exact h
structure VwOk (v : VR) (rs : List (Option Int)) : Prop where
  nd : (vids v).Nodup
  rt : Okl v rs
  rw_ : ∀ e ∈ v, Okl v e.2.2
  ln : v.length ≤ 400 ∧ rs.length ≤ 100 ∧ ∀ e ∈ v, e.2.2.length ≤ 6
theorem at_vkK {v : VR} {i : Nat} {k : Key} {x : V} (h : (vkK v)[i]? = some (k, x)) : ∃ e, v[i]? = some e ∧ k = Sum.inl e.1 ∧ x = .ref e.2.1 := by
  obtain ⟨e, he, h2⟩ := get_map h
  cases h2
  exact ⟨e, he, rfl, rfl⟩
theorem c_look_at_view {w ra fa : Addr} {v : VR} {rs : List (Option Int)} (ok : VwOk v rs) (hh : Hs H ([(w, .tup [.ref ra, .ref fa])] :: [(ra, .lst (rs.map oV))] :: [(fa, .dK (vkK v))] :: vrc v :: L))
    (h : ∀ H', Hs H' ([(w, .tup [.ref ra, .ref fa])] :: [(ra, .lst (rs.map oV))] :: [(fa, .dK (vkK v))] :: vrc v :: L) → Q .non H') : sp_look_at_view K [.ref w] H Q E := by
  refine i_look_at_view ?_
  unfold t_look_at_view
  walk_at "vh"
  refine x_unpack (SqT.of (hh.g 0 rfl)) rfl ?_
  walk_at "vh"
  refine c_look_at_told (.inl (hh.g 2 rfl)) (SqL.of (hh.g 1 rfl)) ok.rt ?_
  refine y_lock hh 2 rfl fun od H hh => ?_
  walk_at "vh"
  refine x_gKeys (hh.g 2 rfl) ?_
  refine L_keys (fun i σ H' => (∃ b, σ = [some (.ref w), some (.ref ra), some (.ref fa), b]) ∧ Hs H' ([(w, .tup [.ref ra, .ref fa])] :: [(ra, .lst (rs.map oV))] :: [(fa, .frz od (.dK (vkK v)))] :: vrc v :: L)) ⟨⟨_, rfl⟩, hh⟩ (fun i σ H' _ q => q.2.g 2 rfl) ?_ ?_
  · rintro i k x σ H ik ⟨⟨b, rfl⟩, hh⟩
    obtain ⟨e, ie, rfl, rfl⟩ := at_vkK ik
    have he := List.mem_of_getElem? ie
    show tDrop _ _ _ _
    walk_at "vh"
    refine x_dgetK (y := e.1) (.inr ⟨od, hh.g 2 rfl⟩) (val_vkK ok.nd he) ?_
    walk_at "vh"
    exact c_look_at_told (.inr ⟨od, hh.g 2 rfl⟩) (SqL.of (Kv.of hh 3 rfl e he)) (ok.rw_ e he) ⟨⟨_, rfl⟩, hh⟩
  · rintro σ H ⟨⟨b, rfl⟩, hh⟩
    obtain ⟨u1, hh⟩ := hh.unlockK 2 rfl
    exact ⟨u1, h _ hh⟩
def isI : V → Option V
  | .non => none
  | v => some v
theorem isI_map (l : List (Option Int)) : (l.map oV).filterMap isI = (somes l).map V.int := by
  unfold somes
  induction l with
  | nil => rfl
  | cons o r ih =>
    cases o with
    | none => exact ih
    | some t =>
      show V.int t :: List.filterMap isI (List.map oV r) = V.int t :: List.map V.int (List.filterMap id r)
      rw [ih]
theorem c_root_things {w ra fa : Addr} {rs : List (Option Int)} (hh : Hs H L) (hw : ∀ H', Hs H' L → H' w = some (.tup [.ref ra, .ref fa]) ∧ H' ra = some (.lst (rs.map oV))) (hl : rs.length ≤ 100)
    (h : ∀ p H', Hs H' ([(p, .lst ((somes rs).map V.int))] :: L) → Q (.ref p) H') : sp_root_things K [.ref w] H Q E := by
  refine i_root_things ?_
  unfold t_root_things
  walk_at "vh"
  refine x_ixT (SqT.of (hw H hh).1) rfl ?_
  refine x_gList (SqL.of (hw H hh).2) ?_
  refine L_lcl (xs := rs.map oV) isI hh (fun D acc H' h' => SqL.of (hw H' h'.tail).2) (by rw [List.length_map]; omega) (fun i x D acc H2 hx h' R hR => ?_) fun D H hh => ?_
  · obtain ⟨o, io, rfl⟩ := get_map hx
    refine x_own (by simp) fun ev => ?_
    refine x_test (x_op (x_var ev (x_c (x_notN (x_bl ?_)))))
    have r := hR H2 h'
    rw [oV_non]
    cases o with
    | none => exact x_ndecF rfl r
    | some t => exact x_ndecT (fun z => by cases z) (x_var ev r)
  · rw [isI_map] at hh
    exact h D H hh
structure GW (v : VR) (st ks bh : List Int) (done : List Int) : Prop where
  nd : (ks ++ bh).Nodup
  l1 : ∀ t ∈ ks ++ bh, Led (vflo v) (· ∈ vids v) st t
  cl : ∀ t ∈ done, ∀ u ∈ vflo v t, u ∈ ks ++ bh
theorem c_grown_from {fa p : Addr} {v : VR} {st : List Int} (hh : Hs H L) (hk : ∀ H', Hs H' L → Kv v H' ∧ H' fa = some (.dK (vkK v)) ∧ H' p = some (.lst (st.map V.int))) (nd : (vids v).Nodup) (hs : ∀ t ∈ st, t ∈ vids v) (ok : ∀ e ∈ v, Okl v e.2.2) (ln : v.length ≤ 400 ∧ st.length ≤ 100)
    (h : ∀ r (ks : List Int) H', ks.Nodup → (∀ t, t ∈ ks ↔ Led (vflo v) (· ∈ vids v) st t) → Hs H' ([(r, .lst (ks.map V.int))] :: L) → Q (.ref r) H') : sp_grown_from K [.ref fa, .ref p] H Q E := by
  refine i_grown_from ?_
  unfold t_grown_from
  walk_at "vh"
  refine y_dnewK hh fun f H hh => ?_
  walk_at "vh"
  refine x_gList (SqL.of (hk H hh.tail).2.2) ?_
  refine L_list (xs := st.map V.int) (fun i σ H' => (∃ b c d e, σ = [some (.ref fa), some (.ref p), some (.ref f), b, c, d, e]) ∧ Hs H' ([(f, .dK (mk1 (ded (st.take i))))] :: L)) ⟨⟨_, _, _, _, rfl⟩, hh⟩ (fun i σ H' _ q => SqL.of (hk H' q.2.tail).2.2) ?_ ?_
  · rintro i x σ H ix ⟨⟨b, c, d, e, rfl⟩, hh⟩
    obtain ⟨t, it, rfl⟩ := get_map ix
    show sDPut _ _ _ _ _ _
    walk_at "vh"
    have dl := ded_len (st.take i)
    rw [List.length_take] at dl
    refine y_dput (y := t) hh 0 rfl (by rw [mk_len]; exact sl' (m := 101) (by omega)) fun H hh => ⟨⟨_, _, _, _, rfl⟩, ?_⟩
    rw [put_mk] at hh
    rw [take_snoc it]
    simpa [ded] using hh
  · rintro σ H ⟨⟨b, c, d, e, rfl⟩, hh⟩
    rw [List.length_map, List.take_length] at hh
    walk_at "vh"
    refine y_listD hh (.inl (hh.g 0 rfl)) fun ed H hh => ?_
    rw [mk_keys] at hh
    walk_at "vh"
    have nv : (vids v).length = v.length := by simp [vids]
    refine L_while (fun m σ H' => ∃ ks0 edge ea, m = 2 * (v.length - (ks0 ++ edge).length) + (if edge = [] then 0 else 1) ∧ GW v st ks0 edge ks0 ∧ (∀ t ∈ st, t ∈ ks0 ++ edge) ∧ (∃ b d e, σ = [some (.ref fa), some (.ref p), some (.ref f), b, some (.ref ea), d, e]) ∧ Hs H' ([(ea, .lst (edge.map V.int))] :: [(f, .dK (mk1 (ks0 ++ edge)))] :: L)) _
      ⟨[], ded st, ed, rfl, ⟨nd_ded st, fun t ht => ?_, fun t ht => by cases ht⟩, fun t ht => by simpa [mem_ded] using ht, ⟨_, _, _, rfl⟩, hh⟩ ?_
    · have ht' : t ∈ st := mem_ded.mp (by simpa using ht)
      exact .start ht' (hs t ht')
    rintro m σ H ⟨ks0, edge, ea, rfl, w, ws, ⟨b, d, e, rfl⟩, hh⟩
    have wsub : ∀ t ∈ ks0 ++ edge, t ∈ vids v := fun t ht => (w.l1 t ht).som
    have wl : (ks0 ++ edge).length ≤ v.length := by rw [← nv]; exact nodup_len w.nd wsub
    walk_at "vh"
    refine x_truL (SqL.of (hh.g 0 rfl)) ?_
    refine x_iteB (fun hne => ?_) (fun he => ?_)
    · have ne : edge ≠ [] := by rintro rfl; simp at hne
      refine x_whileGo ?_
      walk_at "vh"
      refine y_lst hh (fun ba H hh => ?_)
      walk_at "vh"
      refine L_list (xs := edge.map V.int) (fun i σ H' => ∃ bh, GW v st (ks0 ++ edge) bh (ks0 ++ edge.take i) ∧ (∃ b e, σ = [some (.ref fa), some (.ref p), some (.ref f), b, some (.ref ea), some (.ref ba), e]) ∧ Hs H' ([(ba, .lst (bh.map V.int))] :: [(ea, .lst (edge.map V.int))] :: [(f, .dK (mk1 (ks0 ++ edge ++ bh)))] :: L)) ⟨[], ⟨by simpa using w.nd, fun t ht => w.l1 t (by simpa using ht), fun t ht u hu => by simpa using w.cl t (by simpa using ht) u hu⟩, ⟨_, _, rfl⟩, by simpa using hh⟩ (fun i σ H' _ ⟨_, _, _, q⟩ => SqL.of (q.g 1 rfl)) ?_ ?_
      · rintro i x σ H ix ⟨bh, wb, ⟨b, e, rfl⟩, hh⟩
        obtain ⟨t, it, rfl⟩ := get_map ix
        have tm : t ∈ ks0 ++ edge := List.mem_append_right _ (List.mem_of_getElem? it)
        obtain ⟨x, hx, rfl⟩ := vid_mem (wsub t tm)
        have lx := w.l1 x.1 tm
        have fx := vflo_of nd hx
        show tFor _ _ _ _ _ _
        walk_at "vh"
        refine x_dgetK (y := x.1) (.inl (hk H hh.tail.tail.tail).2.1) (val_vkK nd hx) ?_
        refine x_gList (SqL.of ((hk H hh.tail.tail.tail).1 x hx)) ?_
        refine L_list (xs := x.2.2.map oV) (fun j σ H' => ∃ bh, GW v st (ks0 ++ edge) bh (ks0 ++ edge.take i) ∧ (∀ u, some u ∈ x.2.2.take j → u ∈ ks0 ++ edge ++ bh) ∧ (∃ e, σ = [some (.ref fa), some (.ref p), some (.ref f), some (.int x.1), some (.ref ea), some (.ref ba), e]) ∧ Hs H' ([(ba, .lst (bh.map V.int))] :: [(ea, .lst (edge.map V.int))] :: [(f, .dK (mk1 (ks0 ++ edge ++ bh)))] :: L)) ⟨bh, wb, fun u hu => by simp at hu, ⟨_, rfl⟩, hh⟩ (fun j σ H' _ ⟨_, _, _, _, q⟩ => SqL.of ((hk H' q.tail.tail.tail).1 x hx)) ?_ ?_
        · rintro j y σ H jy ⟨bh, wb, wj, ⟨e, rfl⟩, hh⟩
          obtain ⟨o, jo, rfl⟩ := get_map jy
          have bsub : ∀ t ∈ ks0 ++ edge ++ bh, t ∈ vids v := fun t ht => (wb.l1 t ht).som
          have bl : (ks0 ++ edge ++ bh).length ≤ v.length := by rw [← nv]; exact nodup_len wb.nd bsub
          show tIfS _ _ _ _ _ _
          walk_at "vh"
          rw [oV_non]
          cases o with
          | none =>
            refine x_ndecF rfl ?_
            walk_at "vh"
            refine ⟨bh, wb, fun u hu => ?_, ⟨_, rfl⟩, hh⟩
            rw [take_snoc jo] at hu
            rcases List.mem_append.mp hu with z | z
            · exact wj u z
            · simp at z
          | some u =>
            refine x_ndecT (fun z => by cases z) ?_
            walk_at "vh"
            refine x_dnotinK (y := u) (.inl (hh.g 2 rfl)) ?_
            rw [isSome_mk]
            refine x_bl ?_
            by_cases hu : u ∈ ks0 ++ edge ++ bh
            · refine x_ndecF hu ?_
              walk_at "vh"
              refine ⟨bh, wb, fun u' hu' => ?_, ⟨_, rfl⟩, hh⟩
              rw [take_snoc jo] at hu'
              rcases List.mem_append.mp hu' with z | z
              · exact wj u' z
              · simp at z; subst z; exact hu
            · refine x_ndecT hu ?_
              have um : u ∈ vids v := ok x hx u (List.mem_of_getElem? jo)
              have bl2 : (ks0 ++ edge ++ bh).length < v.length := by
                have := nodup_len (l := u :: (ks0 ++ edge ++ bh)) (m := vids v) (List.nodup_cons.mpr ⟨hu, wb.nd⟩) (fun t ht => by
                  rcases List.mem_cons.mp ht with z | z
                  · rw [z]; exact um
                  · exact bsub t z)
                rw [nv, List.length_cons] at this; omega
              walk_at "vh"
              refine y_dput (y := u) hh 2 rfl (by rw [mk_len]; exact sl' (m := 401) (by omega)) fun H hh => ?_
              rw [put_mk, show add1 _ u = _ ++ [u] from if_neg hu] at hh
              walk_at "vh"
              refine ⟨x_tyL (hh.g 0 rfl), ?_⟩
              walk_at "vh"
              refine y_append (v := .int u) hh 0 rfl (by rw [List.length_map]; rw [List.length_append] at bl; exact sl' (m := 401) (by omega)) fun H hh => ?_
              have lu : Led (vflo v) (· ∈ vids v) st u := .step lx (by rw [fx, mem_somes]; exact List.mem_of_getElem? jo) um
              refine ⟨bh ++ [u], ⟨?_, fun t ht => ?_, fun t ht u' hu' => ?_⟩, fun u' hu' => ?_, ⟨_, rfl⟩, ?_⟩
              · rw [← List.append_assoc]
                refine List.nodup_append.mpr ⟨wb.nd, by simp, fun a ha b hb => ?_⟩
                rw [List.mem_singleton] at hb
                exact fun z => hu (hb ▸ z ▸ ha)
              · rw [← List.append_assoc] at ht
                rcases List.mem_append.mp ht with z | z
                · exact wb.l1 t z
                · rw [List.mem_singleton] at z; rw [z]; exact lu
              · have := wb.cl t ht u' hu'
                rw [← List.append_assoc]; exact List.mem_append_left _ this
              · rw [← List.append_assoc]
                rw [take_snoc jo] at hu'
                rcases List.mem_append.mp hu' with z | z
                · exact List.mem_append_left _ (wj u' z)
                · simp at z; subst z; simp
              · rw [List.map_append, ← List.append_assoc]
                exact hh
        · rintro σ H ⟨bh, wb, wj, ⟨e, rfl⟩, hh⟩
          rw [List.length_map, List.take_length] at wj
          refine ⟨bh, ⟨wb.nd, wb.l1, fun t ht u hu => ?_⟩, ⟨_, _, rfl⟩, hh⟩
          rw [take_snoc it] at ht
          rcases List.mem_append.mp ht with z | z
          · exact wb.cl t (List.mem_append_left _ z) u hu
          · rcases List.mem_append.mp z with z | z
            · exact wb.cl t (List.mem_append_right _ z) u hu
            · rw [List.mem_singleton] at z
              subst z
              rw [fx, mem_somes] at hu
              exact wj u hu
      · rintro σ H ⟨bh, wb, ⟨b, e, rfl⟩, hh⟩
        rw [List.length_map, List.take_length] at wb
        walk_at "vh"
        have bsub : ∀ t ∈ ks0 ++ edge ++ bh, t ∈ vids v := fun t ht => (wb.l1 t ht).som
        have bl : (ks0 ++ edge ++ bh).length ≤ v.length := by rw [← nv]; exact nodup_len wb.nd bsub
        refine ⟨_, ?_, ks0 ++ edge, bh, ba, rfl, wb, fun t ht => List.mem_append_left _ (ws t ht), ⟨_, _, _, rfl⟩, hh.erase 1⟩
        have pe : 0 < edge.length := List.length_pos_iff.mpr ne
        rw [if_neg ne]
        rw [List.length_append] at bl
        by_cases hb : bh = []
        · subst hb; simp
        · have pb : 0 < bh.length := List.length_pos_iff.mpr hb
          rw [if_neg hb, List.length_append (as := ks0 ++ edge)]
          omega
    · have e0 : edge = [] := by
        cases edge with
        | nil => rfl
        | cons _ _ => simp at he
      subst e0
      rw [List.append_nil] at hh
      have wn := w.nd
      have w1 := w.l1
      have wc := w.cl
      rw [List.append_nil] at wn w1 wc ws
      walk_at "vh"
      refine y_listD hh (.inl (hh.g 1 rfl)) fun r H hh => ?_
      rw [mk_keys] at hh
      refine h r ks0 H wn (fun t => ⟨w1 t, fun z => ?_⟩) (hh.sub (by simp))
      induction z with
      | start h1 _ => exact ws _ h1
      | step _ h2 _ ih => exact wc _ ih _ h2
end PI

set_option Elab.async false
set_option linter.all false
set_option maxRecDepth 100000
set_option maxHeartbeats 1000000
namespace PI
open PySem PySem.Spec PyProof.Rows L2 SX0 R_k82
variable {K : PySem.W.Frag} {H : Hp} {Q : VK} {E : XK} {L R A : List Chunk} {s : IS} {c : Chunk}
def rfl2 (l : List (Int × List (Option Int))) (t : Int) : List Int := match l.find? fun e => decide (e.1 = t) with
  | some e => somes e.2
  | none => []
theorem find_map2 {α : Type} (f : α → Int × List (Option Int)) (l : List α) (t : Int) : (l.map f).find? (fun e => decide (e.1 = t)) = (l.find? fun x => decide ((f x).1 = t)).map f := by
  induction l with
  | nil => rfl
  | cons a r ih =>
    rw [List.map_cons, List.find?_cons, List.find?_cons]
    by_cases h : (f a).1 = t
    · rw [decide_eq_true h]; rfl
    · rw [decide_eq_false h]; exact ih
theorem vflo_eq {v : VR} {k : List TH} (e : (v.map fun e => (e.1, e.2.2)) = k.map vrow) : vflo v = flo k := by
  funext t
  have h1 : vflo v t = rfl2 (v.map fun e => (e.1, e.2.2)) t := by
    unfold vflo rfl2
    rw [find_map2]
    cases v.find? fun e => decide (e.1 = t) <;> rfl
  have h2 : flo k t = rfl2 (k.map vrow) t := by
    unfold flo rfl2
    rw [find_map2]
    show (match k.find? fun e => decide (e.t = t) with | some e => _ | none => _) = match Option.map vrow (k.find? fun x => decide (x.t = t)) with | some e => _ | none => _
    cases k.find? fun e => decide (e.t = t) with
    | none => rfl
    | some e =>
      show tsOf e.fs = somes (e.fs.map fun q => tOf q.d)
      unfold tsOf somes
      rw [List.filterMap_map]; rfl
  rw [h1, h2, e]
theorem vids_eq {v : VR} {k : List TH} (e : (v.map fun e => (e.1, e.2.2)) = k.map vrow) : vids v = ids k := by
  have := congrArg (List.map Prod.fst) e
  simpa [vrow, ids, vids, Function.comp_def] using this
theorem somes_ts (vs : List PVal) : somes (vs.map fun q => tOf q.d) = tsOf vs := by unfold somes tsOf; rw [List.filterMap_map]; rfl
/-- a view of a heap -/
theorem view_ok {s : IS} {v : VR} (w : s.d.Wf) (e : (v.map fun e => (e.1, e.2.2)) = s.kept.map vrow) : VwOk v (s.hands.map fun q => tOf q.d) := by
  have ei := vids_eq e
  have hm : ∀ x ∈ v, ∃ y ∈ s.kept, y.t = x.1 ∧ (y.fs.map fun q => tOf q.d) = x.2.2 := fun x hx => by
    have h1 : (x.1, x.2.2) ∈ s.kept.map vrow := by rw [← e]; exact List.mem_map.mpr ⟨x, hx, rfl⟩
    obtain ⟨y, hy, z⟩ := List.mem_map.mp h1
    exact ⟨y, hy, congrArg Prod.fst z, congrArg Prod.snd z⟩
  refine ⟨by rw [ei]; exact nd_of w, fun t ht => ?_, fun x hx t ht => ?_, ?_, by rw [List.length_map, h8_of w]; decide, fun x hx => ?_⟩
  · rw [ei, ← pids_d]
    refine w.hv t ?_
    rw [show s.d.hands = s.hands.map (·.d) from rfl, tsv_d, ← somes_ts]
    exact mem_somes.mpr ht
  · obtain ⟨y, hy, _, e2⟩ := hm x hx
    rw [ei, ← pids_d]
    refine w.fv y.d (List.mem_map.mpr ⟨y, hy, rfl⟩) t ?_
    rw [show y.d.fs = y.fs.map (·.d) from rfl, tsv_d, ← somes_ts, e2]
    exact mem_somes.mpr ht
  · have h1 := congrArg List.length e
    rw [List.length_map, List.length_map] at h1
    rw [h1]; exact kl_of w
  · obtain ⟨y, hy, _, e2⟩ := hm x hx
    rw [← e2, List.length_map]; exact f6_of w y hy
theorem c_reached {vw ra fa : Addr} {v : VR} (w : s.d.Wf) (ev : (v.map fun e => (e.1, e.2.2)) = s.kept.map vrow) (hh : Hs H ([(vw, .tup [.ref ra, .ref fa])] :: [(ra, .lst ((s.hands.map fun q => tOf q.d).map oV))] :: [(fa, .dK (vkK v))] :: vrc v :: L))
    (h : ∀ p (ms : List Int) H', (∀ t, t ∈ ms ↔ s.d.Reach t) → ms.Nodup → ms.Pairwise (· ≤ ·) → Hs H' ([(p, .lst (ms.map V.int))] :: [(vw, .tup [.ref ra, .ref fa])] :: [(ra, .lst ((s.hands.map fun q => tOf q.d).map oV))] :: [(fa, .dK (vkK v))] :: vrc v :: L) → Q (.ref p) H') : sp_reached K [.ref vw] H Q E := by
  have ok := view_ok w ev
  refine i_reached ?_
  unfold t_reached
  walk_at "vh"
  refine c_look_at_view ok hh fun H hh => ?_
  walk_at "vh"
  refine x_ixT (SqT.of (hh.g 0 rfl)) (show atI [V.ref ra, V.ref fa] 1 = some (V.ref fa) from rfl) ?_
  walk_at "vh"
  refine c_root_things (ra := ra) (fa := fa) hh (fun H' h' => ⟨h'.g 0 rfl, h'.g 1 rfl⟩) ok.ln.2.1 fun rp H hh => ?_
  have sl8 : (somes (s.hands.map fun q => tOf q.d)).length ≤ 100 := Nat.le_trans (List.length_filterMap_le _ _) ok.ln.2.1
  walk_at "vh"
  refine c_grown_from (v := v) (st := somes (s.hands.map fun q => tOf q.d)) hh (fun H' h' => ⟨Kv.of h' 4 rfl, h'.g 3 rfl, h'.g 0 rfl⟩) ok.nd (fun t ht => ok.rt t (mem_somes.mp ht)) ok.rw_ ⟨ok.ln.1, sl8⟩ fun r ks H kn km hh => ?_
  walk_at "vh"
  refine y_sorted hh (SqL.of (hh.g 0 rfl)) fun ms p H pm sm hh => ?_
  refine h p ms H (fun t => ?_) (pm.nodup_iff.mpr kn) sm ?_
  · rw [pm.mem_iff, km t, reach_d, vflo_eq ev, vids_eq ev, somes_ts]
    exact Led.congr (fun t => mem_ded.symm) fun _ => Iff.rfl
  · have h1 := Hs.pick (L := [[(p, HO.lst (ms.map V.int))], [(r, .lst (ks.map V.int))], [(rp, .lst ((somes (s.hands.map fun q => tOf q.d)).map V.int))]]) (R := [(vw, .tup [.ref ra, .ref fa])] :: [(ra, .lst ((s.hands.map fun q => tOf q.d).map oV))] :: [(fa, .dK (vkK v))] :: vrc v :: L) hh [0]
    exact h1
theorem fm_int (g : Int → Int) : ∀ l : List Int, (l.map V.int).filterMap (fun x => match x with | .int t => some (V.int (g t)) | _ => none) = (l.map g).map V.int
  | [] => rfl
  | a :: r => by
    show V.int (g a) :: _ = V.int (g a) :: _
    rw [fm_int g r]
open Classical in
noncomputable def ID.rwords (s : ID) : Int := pwords (s.kept.filter fun e => decide (s.Reach e.t))
theorem c_words_reached {a : Addr} {d : ID} (hA : At K a d R H) (w : d.Wf) (h : ∀ H', At K a d R H' → Q (.int d.rwords) H') : sp_words_reached K [.ref a] H Q E := by
  obtain ⟨s, rfl, rfl, hh⟩ := hA
  replace hh := IS.op hh
  refine i_words_reached ?_
  unfold t_words_reached
  walk_at "vh"
  refine c_view_of hh rfl w fun v vw ra fa H ev hh => ?_
  have ok := view_ok w ev
  walk_at "vh"
  refine c_reached w ev hh fun p ms H mm mn sm hh => ?_
  refine x_gList (SqL.of (hh.g 0 rfl)) ?_
  have ml : ms.length ≤ 400 := by
    have := nodup_len (l := ms) (m := vids v) mn fun t ht => by
      rw [vids_eq ev]
      exact ((reach_d s t).mp ((mm t).mp ht)).som
    have h2 : (vids v).length = v.length := by simp [vids]
    have := ok.ln.1
    omega
  refine L_lcl (xs := ms.map V.int) (fun x => match x with | .int t => some (.int (match v.find? fun e => decide (e.1 = t) with | some e => 1 + (e.2.2.length : Int) | none => 0)) | _ => none) hh (fun D acc H' h' => SqL.of (h'.g 1 rfl)) (by rw [List.length_map]; omega) (fun i x D acc H2 hx h' Rr hR => ?_) fun D H hh => ?_
  · obtain ⟨t, it, rfl⟩ := get_map hx
    have tm : t ∈ vids v := by
      rw [vids_eq ev]
      exact ((reach_d s t).mp ((mm t).mp (List.mem_of_getElem? it))).som
    obtain ⟨e, he, rfl⟩ := vid_mem tm
    refine x_own (by simp) fun evv => ?_
    refine x_yes (x_iteT (x_op (x_c (x_cb (x_cons (x_dget (x_op (x_var rfl (x_c ?_)))))))))
    refine x_ixT (SqT.of (h'.g 2 rfl)) (show atI [V.ref ra, V.ref fa] 1 = some (V.ref fa) from rfl) (x_var evv ?_)
    refine x_dgetK (y := e.1) (.inl (h'.g 4 rfl)) (val_vkK ok.nd he) (x_nil ?_)
    refine x_lenL (SqL.of (Kv.of h' 5 rfl e he)) ?_
    rw [List.length_map]
    refine x_rI0 ?_
    have r := hR H2 h'
    simp only at r
    rw [find_id (k := fun e : Int × Addr × List (Option Int) => e.1) ok.nd he] at r
    exact r
  · have e2 : (ms.map V.int).filterMap (fun x => match x with | .int t => some (V.int (match v.find? fun e => decide (e.1 = t) with | some e => 1 + (e.2.2.length : Int) | none => 0)) | _ => none) = (ms.map fun t => match v.find? fun e => decide (e.1 = t) with | some e => 1 + (e.2.2.length : Int) | none => 0).map V.int := by
      exact fm_int (fun t => match v.find? fun e => decide (e.1 = t) with | some e => 1 + (e.2.2.length : Int) | none => 0) ms
    rw [e2] at hh
    walk_at "vh"
    refine ⟨D, _, rfl, SqL.of (hh.g 0 rfl), ?_⟩
    have es : (ms.map fun t => match v.find? fun e => decide (e.1 = t) with | some e => 1 + (e.2.2.length : Int) | none => 0).sum = s.d.rwords := by
      have asc := w.asc
      have e1 : ms = pids (s.d.kept.filter fun e => @decide (s.d.Reach e.t) (Classical.propDecidable _)) := by
        refine sorted_eq ?_ sm mn fun t => ?_
        · exact List.Pairwise.sublist (List.filter_sublist.map _) asc
        · rw [mm t, mem_pids]
          constructor
          · intro ht
            have h1 := ((reach_d s t).mp ht).som
            rw [← pids_d] at h1
            obtain ⟨x, hx, rfl⟩ := mem_pids.mp h1
            exact ⟨x, List.mem_filter.mpr ⟨hx, @decide_eq_true _ (Classical.propDecidable _) ht⟩, rfl⟩
          · rintro ⟨x, hx, rfl⟩
            exact @of_decide_eq_true _ (Classical.propDecidable _) (List.mem_filter.mp hx).2
      rw [e1]
      unfold ID.rwords pwords pids
      rw [List.map_map]
      refine congrArg List.sum (List.map_congr_left fun x hx => ?_)
      have hx0 := (List.mem_filter.mp hx).1
      obtain ⟨y, hy, rfl⟩ := List.mem_map.mp (show x ∈ s.kept.map TH.d from hx0)
      have : (y.t, y.fs.map fun q => tOf q.d) ∈ v.map fun e => (e.1, e.2.2) := by rw [ev]; exact List.mem_map.mpr ⟨y, hy, rfl⟩
      obtain ⟨z, hz, ez⟩ := List.mem_map.mp this
      have z1 : z.1 = y.t := congrArg Prod.fst ez
      have z2 : z.2.2 = y.fs.map fun q => tOf q.d := congrArg Prod.snd ez
      show (match v.find? fun e => decide (e.1 = y.t) with | some e => 1 + (e.2.2.length : Int) | none => 0) = ((y.fs.map (·.d)).length : Int) + 1
      rw [← z1, find_id (k := fun e : Int × Addr × List (Option Int) => e.1) ok.nd hz]
      simp only [z2, List.length_map]
      omega
    rw [es]
    refine h H ⟨s, rfl, rfl, IS.cl ?_⟩
    exact hh.tail.tail.tail.tail.tail.tail
end PI

set_option Elab.async false
set_option linter.all false
set_option maxRecDepth 100000
set_option maxHeartbeats 1000000
namespace PI
open PySem PySem.Spec PyProof.Rows L2 SX0 R_k82
variable {K : PySem.W.Frag} {H : Hp} {Q : VK} {E : XK} {L R A : List Chunk} {σ : L2.St} {D : Ends}
/-! ### texts of rows -/
def digs : Str := "0123456789"
def lets : Str := "abcdefghijklmnopqrstuvwxyz"
def allIn (t s : Str) : Bool := t.cps.toList.all fun c => decide (c ∈ s.cps.toList)
def head0 (t : Str) : Bool := match t.cps.toList with
  | c :: _ => decide ((⟨#[c]⟩ : Str) = "0")
  | [] => false
def plainB (t : Str) : Bool := !decide (t.length < 1) && (!decide (61 < t.length) && (allIn t digs && (decide (t = "0") || !head0 t)))
def markB (t : Str) : Bool := decide (1 ≤ t.length) && (decide (t.length ≤ 8) && allIn t lets)
def partsDue (w : Str) : Option Str :=
  if w ∈ (["make", "copy", "name", "read", "word", "add", "less"] : List Str) then some "nn" else if w ∈ (["load", "store"] : List Str) then some "nnn" else if w ∈ (["drop", "take", "held", "say"] : List Str) then some "n" else
  if w = "number" then some "nx" else if w ∈ (["mark", "go"] : List Str) then some "m" else if w ∈ (["same", "below"] : List Str) then some "nnm" else if w = "thing" then some "nm" else if w = "stop" then some "" else none
def oS : Option Str → V
  | none => .non
  | some s => .str s
theorem c_parts_due {w : Str} (hh : Hs H L) (h : ∀ H', Hs H' L → Q (oS (partsDue w)) H') : sp_parts_due K [.str w] H Q E := by
  refine i_parts_due ?_
  unfold t_parts_due
  unfold partsDue at h
  walk_at "vh"
  refine y_tup hh fun p H hh => ?_
  refine s_inT (l := ["make", "copy", "name", "read", "word", "add", "less"]) (SqT.of (hh.g 0 rfl)) ?_
  replace hh := hh.tail
  refine x_bl (x_ite (fun b => ?_) fun b => ?_)
  · rw [if_pos b] at h; walk_at "vh"; exact h H hh
  rw [if_neg b] at h
  walk_at "vh"
  refine y_tup hh fun p H hh => ?_
  refine s_inT (l := ["load", "store"]) (SqT.of (hh.g 0 rfl)) ?_
  replace hh := hh.tail
  refine x_bl (x_ite (fun b => ?_) fun b => ?_)
  · rw [if_pos b] at h; walk_at "vh"; exact h H hh
  rw [if_neg b] at h
  walk_at "vh"
  refine y_tup hh fun p H hh => ?_
  refine s_inT (l := ["drop", "take", "held", "say"]) (SqT.of (hh.g 0 rfl)) ?_
  replace hh := hh.tail
  refine x_bl (x_ite (fun b => ?_) fun b => ?_)
  · rw [if_pos b] at h; walk_at "vh"; exact h H hh
  rw [if_neg b] at h
  walk_at "vh"
  refine s_ite (fun b => ?_) fun b => ?_
  · rw [if_pos b] at h; walk_at "vh"; exact h H hh
  rw [if_neg b] at h
  walk_at "vh"
  refine y_tup hh fun p H hh => ?_
  refine s_inT (l := ["mark", "go"]) (SqT.of (hh.g 0 rfl)) ?_
  replace hh := hh.tail
  refine x_bl (x_ite (fun b => ?_) fun b => ?_)
  · rw [if_pos b] at h; walk_at "vh"; exact h H hh
  rw [if_neg b] at h
  walk_at "vh"
  refine y_tup hh fun p H hh => ?_
  refine s_inT (l := ["same", "below"]) (SqT.of (hh.g 0 rfl)) ?_
  replace hh := hh.tail
  refine x_bl (x_ite (fun b => ?_) fun b => ?_)
  · rw [if_pos b] at h; walk_at "vh"; exact h H hh
  rw [if_neg b] at h
  walk_at "vh"
  refine s_ite (fun b => ?_) fun b => ?_
  · rw [if_pos b] at h; walk_at "vh"; exact h H hh
  rw [if_neg b] at h
  walk_at "vh"
  refine s_ite (fun b => ?_) fun b => ?_
  · rw [if_pos b] at h; walk_at "vh"; exact h H hh
  rw [if_neg b] at h
  walk_at "vh"
  exact h H hh
theorem c_are_all_in {t s : Str} (h : Q (.bl (allIn t s)) H) : sp_are_all_in K [.str t, .str s] H Q E := by
  refine i_are_all_in ?_
  unfold t_are_all_in
  walk_at "vh"
  refine s_iStr ?_
  walk_at "vh"
  refine ⟨t, rfl, ?_⟩
  refine L_strS (fun i σ H' => (∃ b, σ = [some (.str t), some (.str s), b]) ∧ H' = H ∧ (t.cps.toList.take i).all (fun c => decide (c ∈ s.cps.toList)) = true) ⟨⟨_, rfl⟩, rfl, rfl⟩ ?_ ?_
  · rintro i c σ H' ic ⟨⟨b, rfl⟩, rfl, al⟩
    show tIfS _ _ _ _ _ _
    walk_at "vh"
    refine ⟨c, s, rfl, rfl, ?_⟩
    refine x_bl ?_
    refine x_iteN (fun z => ?_) fun z => ?_
    · walk_at "vh"
      have e : allIn t s = false := by
        unfold allIn
        rw [← Bool.not_eq_true, List.all_eq_true]
        intro q
        have := q c (List.mem_of_getElem? ic)
        simp [z] at this
      rw [e] at h; exact h
    · walk_at "vh"
      refine ⟨⟨_, rfl⟩, rfl, ?_⟩
      rw [take_snoc ic, List.all_append, al]
      simp only [List.all_cons, List.all_nil, decide_eq_true z, Bool.and_true, Bool.and_self]
  · rintro σ H' ⟨⟨b, rfl⟩, rfl, al⟩
    rw [show t.cps.size = t.cps.toList.length from (Array.length_toList).symm, List.take_length] at al
    walk_at "vh"
    rw [show allIn t s = true from al] at h
    exact h
theorem c_is_mark {t : Str} (hl : t.length ≤ 1000000) (h : Q (.bl (markB t)) H) : sp_is_mark K [.str t] H Q E := by
  refine i_is_mark ?_
  unfold t_is_mark
  unfold markB at h
  walk_at "vh"
  refine s_lenS (by omega) ?_
  walk_at "vh"
  refine x_ite (fun b => ?_) fun b => ?_
  · walk_at "vh"
    rw [decide_eq_true (show 1 ≤ t.length by omega), Bool.true_and] at h
    refine x_ite (fun b2 => ?_) fun b2 => ?_
    · rw [decide_eq_true (show t.length ≤ 8 by omega), Bool.true_and] at h
      walk_at "vh"
      exact c_are_all_in h
    · rw [decide_eq_false (show ¬ t.length ≤ 8 by omega), Bool.false_and] at h
      exact h
  · rw [decide_eq_false (show ¬ 1 ≤ t.length by omega), Bool.false_and] at h
    exact ⟨_, rfl, x_iteF h⟩
theorem len_cps (t : Str) : t.cps.toList.length = t.length := rfl
theorem c_is_plain {t : Str} (hl : t.length ≤ 1000000) (h : Q (.bl (plainB t)) H) : sp_is_plain K [.str t] H Q E := by
  refine i_is_plain ?_
  unfold t_is_plain
  unfold plainB at h
  walk_at "vh"
  refine s_lenS (by omega) ?_
  walk_at "vh"
  refine x_ite (fun b => ?_) fun b => ?_
  · rw [decide_eq_true (show t.length < 1 by omega)] at h
    walk_at "vh"; exact h
  rw [decide_eq_false (show ¬ t.length < 1 by omega), Bool.not_false, Bool.true_and] at h
  walk_at "vh"
  refine s_lenS (by omega) ?_
  walk_at "vh"
  refine x_ite (fun b2 => ?_) fun b2 => ?_
  · rw [decide_eq_true (show 61 < t.length by omega)] at h
    walk_at "vh"; exact h
  rw [decide_eq_false (show ¬ 61 < t.length by omega), Bool.not_false, Bool.true_and] at h
  walk_at "vh"
  refine c_are_all_in ?_
  refine x_bl ?_
  rw [show (Str.ofString "0123456789") = digs from rfl]
  cases ha : allIn t digs with
  | false =>
    rw [ha] at h
    walk_at "vh"; exact h
  | true =>
    rw [ha, Bool.true_and] at h
    refine x_iteF ?_
    walk_at "vh"
    refine s_ite (fun b3 => ?_) fun b3 => ?_
    · rw [decide_eq_true b3] at h
      exact h
    · rw [decide_eq_false b3, Bool.false_or] at h
      walk_at "vh"
      obtain ⟨c, r, e⟩ : ∃ c r, t.cps.toList = c :: r := by
        cases q : t.cps.toList with
        | nil => have := len_cps t; rw [q] at this; simp at this; omega
        | cons c r => exact ⟨c, r, rfl⟩
      refine s_ixS (c := c) (by omega) (by rw [e]; exact atI_at (n := 0) rfl) ?_
      unfold head0 at h
      rw [e] at h
      walk_at "vh"
      have e2 : decide (V.str ⟨#[c]⟩ = V.str "0") = decide ((⟨#[c]⟩ : Str) = "0") := by simp
      rw [e2]
      exact h
theorem allDig {t : Str} (h : allIn t digs = true) : PySem.NumText.AllDigits t.cps.toList := by
  intro c hc
  have := List.all_eq_true.mp h c hc
  have h2 : c ∈ digs.cps.toList := by simpa using this
  have e : digs.cps.toList = [48, 49, 50, 51, 52, 53, 54, 55, 56, 57] := by decide +kernel
  rw [e] at h2
  simp at h2
  omega
theorem plain_int {t : Str} (h : plainB t = true) : PySem.intText? t = some ((PySem.intText? t).getD 0) ∧ t.length ≤ 61 := by
  unfold plainB at h
  simp only [Bool.and_eq_true, Bool.not_eq_true', decide_eq_false_iff_not] at h
  obtain ⟨h1, h2, h3, _⟩ := h
  have ne : t.cps.toList ≠ [] := fun z => by have := len_cps t; rw [z] at this; simp at this; omega
  have := PySem.intText_digits (allDig h3) ne (by omega)
  rw [this]
  exact ⟨rfl, by omega⟩
def intV (t : Str) : Int := (PySem.intText? t).getD 0
def partV (t k : Str) : V :=
  if k = "m" then (if markB t = true then .str t else .non) else if plainB t = true then .int (intV t) else
  if k = "x" ∧ cutS t none (some 1) = "-" ∧ ¬ t = "-0" ∧ plainB (cutS t (some 1) none) = true then .int (-intV (cutS t (some 1) none)) else .non
theorem c_part_in {t k : Str} (hl : t.length ≤ 1000000) (h : Q (partV t k) H) : sp_part_in K [.str t, .str k] H Q E := by
  refine i_part_in ?_
  unfold t_part_in
  unfold partV at h
  walk_at "vh"
  refine s_ite (fun b => ?_) fun b => ?_
  · rw [if_pos b] at h
    walk_at "vh"
    refine c_is_mark hl ?_
    refine x_bl ?_
    cases q : markB t with
    | true => rw [q, if_pos rfl] at h; walk_at "vh"; exact h
    | false => rw [q, if_neg Bool.false_ne_true] at h; walk_at "vh"; exact h
  rw [if_neg b] at h
  walk_at "vh"
  refine c_is_plain hl ?_
  refine x_bl ?_
  cases q : plainB t with
  | true =>
    rw [q, if_pos rfl] at h
    walk_at "vh"
    exact s_intS (plain_int q).1 (by have := (plain_int q).2; omega) h
  | false =>
    rw [q, if_neg Bool.false_ne_true] at h
    walk_at "vh"
    refine s_ite (fun b2 => ?_) fun b2 => ?_
    · walk_at "vh"
      refine s_slS (by omega) ?_
      walk_at "vh"
      refine s_ite (fun b3 => ?_) fun b3 => ?_
      · walk_at "vh"
        refine s_iteN (fun b4 => ?_) fun b4 => ?_
        · walk_at "vh"
          refine s_slS (by omega) ?_
          have cl : (cutS t (some 1) none).length ≤ t.length := cutS_length _ _ _
          walk_at "vh"
          refine c_is_plain (by omega) ?_
          refine x_bl ?_
          cases q2 : plainB (cutS t (some 1) none) with
          | true =>
            rw [if_pos ⟨b2, b3, b4, q2⟩] at h
            walk_at "vh"
            refine s_slS (by omega) ?_
            walk_at "vh"
            refine s_intS (plain_int q2).1 (by have := (plain_int q2).2; omega) ?_
            walk_at "vh"
            exact h
          | false =>
            rw [if_neg fun z => by rw [q2] at z; cases z.2.2.2] at h
            walk_at "vh"; exact h
        · rw [if_neg fun z => z.2.2.1 b4] at h
          walk_at "vh"; exact h
      · rw [if_neg fun z => b3 z.2.1] at h
        walk_at "vh"; exact h
    · rw [if_neg fun z => b2 z.1] at h
      walk_at "vh"; exact h
theorem wipe2 (σ : L2.St) (a b : Option V) {i j : Nat} (hij : i ≠ j) : wipe (((wipe σ [i, j]).set i a).set j b) [i, j] = wipe σ [i, j] := by
  simp only [wipe, List.foldl]
  apply List.ext_getElem?
  intro m
  simp only [List.getElem?_set, List.length_set]
  by_cases m1 : i = m
  · subst m1
    have : ¬ j = i := fun z => hij z.symm
    simp [this]
  · by_cases m2 : j = m
    · subst m2
      simp [m1]
    · simp [m1, m2]
/-- a comprehension over an enumeration, without a test -/
theorem L_lcEn {J : It} {n : Nat} {G : Hp → Prop} {xs : List V} {i j : Nat} {te : TE} (wk : Walk J n G (YPair (fun k => some (.int (k : Nat))) (fun k => xs[k]?))) (hn : xs.length = n) (F : Nat → V → V) (hij : i ≠ j) (hi : i < σ.length) (hj : j < σ.length) (hh : Hs H L) (hlen : xs.length ≤ 16000000)
    (hG : ∀ D acc H', Hs H' ([(D, .lst acc)] :: L) → G H')
    (hs : ∀ (k : Nat) (x : V) D acc H2 σ2, xs[k]? = some x → σ2[i]? = some (some (.int (k : Nat))) → σ2[j]? = some (some x) → (∀ m, m ≠ i → m ≠ j → σ2[m]? = σ[m]?) → Hs H2 ([(D, .lst acc)] :: L) → ∀ Rr : V → Hp → Prop, (∀ H3, Hs H3 ([(D, .lst acc)] :: L) → Rr (F k x) H3) → te σ2 H2 Rr)
    (hq : ∀ D H2, Hs H2 ([(D, .lst (xs.mapIdx F))] :: L) → Q (.ref D) H2) : LcG J (gTup K 2 (gCons (gName i) (gCons (gName j) gNil))) tYes te [i, j] σ H Q := by
  subst hn
  refine L_lcW wk (fun D k acc H' => acc = (xs.take k).mapIdx F ∧ Hs H' ([(D, .lst acc)] :: L)) (fun D hD => ⟨by simp, hh.new hD⟩) (fun D k acc H' h => hG D acc H' h.2) ?_ ?_
  · rintro D k x acc H2 H3 hD hk ⟨rfl, h⟩ e y R r1 r2
    obtain ⟨T, a1, a2, rfl, hT, rfl, e1, e2⟩ := y
    cases e1
    have h3 : Hs (upd H2 T (.tup [.int (k : Nat), a2])) ([(D, .lst ((xs.take k).mapIdx F))] :: L) := (h.new hT).tail
    refine ⟨T, _, rfl, SqT.of upd_same, rfl, _, _, rfl, _, _, rfl, rfl, ?_, ?_⟩
    · exact wipe2 σ _ _ hij
    · refine x_yes (x_iteT ?_)
      have e2' : xs[k]? = some a2 := e2
      refine hs k a2 D _ _ _ e2' ?_ ?_ ?_ h3 _ fun H4 h4 => ?_
      · simp [List.getElem?_set, hij.symm, wipe, hi]
      · simp [List.getElem?_set, wipe, hj]
      · intro m m1 m2
        simp [List.getElem?_set, wipe, m1.symm, m2.symm]
      · refine r1 _ _ (h4.g 0 rfl) ?_ ⟨?_, h4.set 0 rfl rfl rfl⟩
        · rw [List.length_mapIdx, List.length_take, sizeLine_eq]; omega
        · rw [take_snoc e2', List.mapIdx_append]
          simp
          have := List.length_take (i := k) (l := xs)
          congr 1
          omega
  · rintro D acc H' hD ⟨rfl, h⟩ e
    rw [List.take_length] at h
    exact hq D H' h
end PI

set_option Elab.async false
set_option linter.all false
set_option maxRecDepth 100000
set_option maxHeartbeats 1000000
namespace PI
open PySem PySem.Spec PyProof.Rows L2 SX0 R_k82
variable {K : PySem.W.Frag} {H : Hp} {Q : VK} {E : XK} {L R A : List Chunk} {σ : L2.St} {D : Ends}
/-! ### a row of a program -/
def chS (c : Nat) : Str := ⟨#[c]⟩
def partsV (ws : List Str) (ks : Str) : List V := ((ks.cps.toList.map fun c => V.str (chS c)).mapIdx fun k x => match x with | .str s => partV (ws.getD (k + 1) "") s | _ => .non)
def rowV (t : Str) : Option (List V) :=
  match partsDue ((Txt.split t " ").getD 0 "") with
  | none => none
  | some ks => if (Txt.split t " ").length = ks.length + 1 then (if inV .non (partsV (Txt.split t " ") ks) = true then none else some (.str ((Txt.split t " ").getD 0 "") :: partsV (Txt.split t " ") ks)) else none
theorem part_flat (t k : Str) : flatV (partV t k) = true := by
  unfold partV
  split
  · split <;> rfl
  · split
    · rfl
    · split <;> rfl
theorem c_row_in {t : Str} (hh : Hs H L) (hl : t.length ≤ 100000) (h0 : rowV t = none → ∀ H', Hs H' L → Q .non H') (h1 : ∀ xs, rowV t = some xs → ∀ p H', Hs H' ([(p, .tup xs)] :: L) → Q (.ref p) H') : sp_row_in K [.str t] H Q E := by
  refine i_row_in ?_
  unfold t_row_in
  walk_at "vh"
  refine s_m1 ?_
  walk_at "vh"
  refine ⟨⟨_, rfl⟩, ?_⟩
  walk_at "vh"
  refine s_split hh (by decide +kernel) (by omega) fun wp H hh => ?_
  have wl := PyProof.Rows.split_le t " "
  have wpos := PyProof.Rows.split_pos t " "
  have wm : ∀ w ∈ Txt.split t " ", w.length ≤ t.length := fun w hw => SJ.split_mem_len hw
  have eG : ∀ k, k < (Txt.split t " ").length → (Txt.split t " ")[k]? = some ((Txt.split t " ").getD k "") := fun k hk => by
    rw [List.getD_eq_getElem?_getD, List.getElem?_eq_getElem hk]; rfl
  unfold rowV at h0 h1
  generalize Txt.split t " " = ws at *
  walk_at "vh"
  refine x_ixL (SqL.of (hh.g 0 rfl)) (strs_atS (n := 0) (eG 0 wpos)) ?_
  walk_at "vh"
  refine c_parts_due hh fun H hh => ?_
  walk_at "vh"
  cases ek : partsDue (ws.getD 0 "") with
  | none =>
    rw [ek] at h0
    refine x_decT rfl ?_
    walk_at "vh"
    exact h0 rfl H hh.tail
  | some ks =>
    rw [ek] at h0 h1
    have kl : ks.length ≤ 10 := by
      unfold partsDue at ek
      repeat' split at ek
      all_goals first | (cases ek; decide +kernel) | cases ek
    refine x_decF (fun z => by cases z) ?_
    walk_at "vh"
    rw [List.length_map]
    show cLenStr [.str ks] _ _
    refine s_lenS (by omega) ?_
    walk_at "vh"
    refine i_iteN (fun hne => ?_) fun heq => ?_
    · walk_at "vh"
      exact h0 (if_neg (by omega)) H hh.tail
    have hlen : ws.length = ks.length + 1 := by omega
    simp only [if_pos hlen] at h0 h1
    have kn : ks.cps.toList.length = ks.length := rfl
    walk_at "vh"
    refine x_iEnumX ?_
    walk_at "vh"
    refine y_enumS (z := ks) ?_
    refine L_lcEn (xs := ks.cps.toList.map fun c => V.str (chS c)) walk_enumS' (by simp) (fun k x => match x with | .str s => partV (ws.getD (k + 1) "") s | _ => .non) (by decide) (by simp) (by simp) hh (by rw [List.length_map]; omega) (fun _ _ _ _ => True.intro) (fun k x D acc H2 σ2 hx e1 e2 e3 h' Rr hR => ?_) fun D H hh => ?_
    · obtain ⟨c, hc, rfl⟩ := get_map hx
      have klt : k < ks.cps.toList.length := (List.getElem?_eq_some_iff.mp hc).1
      refine x_callS (x_cons (x_op (x_var (by rw [e3 1 (by decide) (by decide)]; rfl) (x_op (x_var e1 (x_c (x_rI0 ?_)))))))
      refine x_ixL (SqL.of (h'.g 1 rfl)) (strs_atS (n := k + 1) (eG (k + 1) (by omega))) (x_cons (x_var e2 (x_nil ?_)))
      refine c_part_in (by have := wm _ (List.mem_of_getElem? (eG (k + 1) (by omega))); omega) ?_
      exact hR H2 h'
    · have ep : (ks.cps.toList.map fun c => V.str (chS c)).mapIdx (fun k x => match x with | .str s => partV (ws.getD (k + 1) "") s | _ => .non) = partsV ws ks := rfl
      rw [ep] at hh
      have fl : (partsV ws ks).all flatV = true := by
        rw [List.all_eq_true]
        intro x hx
        obtain ⟨i, hi, e⟩ := List.mem_mapIdx.mp hx
        rw [← e]
        split
        · exact part_flat _ _
        · rfl
      walk_at "vh"
      refine ⟨D, _, rfl, .inl (SqL.of (hh.g 0 rfl)), rfl, fl, ?_⟩
      refine x_bl ?_
      show if inV .non (partsV ws ks) = true then _ else _
      cases en : inV .non (partsV ws ks) with
      | true =>
        rw [en] at h0
        refine x_iteT ?_
        walk_at "vh"
        exact h0 rfl H hh.tail.tail
      | false =>
        rw [en] at h1
        refine x_iteF ?_
        walk_at "vh"
        refine x_ixL (SqL.of (hh.g 1 rfl)) (strs_atS (n := 0) (eG 0 wpos)) ?_
        walk_at "vh"
        refine y_lst hh fun l1 H hh => ?_
        walk_at "vh"
        have pl : (partsV ws ks).length ≤ 10 := by unfold partsV; rw [List.length_mapIdx, List.length_map]; omega
        refine y_cat hh (SqX.of (hh.g 0 rfl)) (SqX.of (hh.g 1 rfl)) (by rw [List.length_singleton]; omega) fun l2 H hh => ?_
        walk_at "vh"
        refine y_tupL hh (SqL.of (hh.g 0 rfl)) fun p H hh => ?_
        refine h1 _ rfl p H ?_
        exact Hs.pick (L := [[(p, HO.tup ([V.str (ws.getD 0 "")] ++ partsV ws ks))], [(l2, HO.lst ([V.str (ws.getD 0 "")] ++ partsV ws ks))], [(l1, HO.lst [V.str (ws.getD 0 "")])], [(D, HO.lst (partsV ws ks))], [(wp, HO.lst (ws.map V.str))]]) (R := L) hh [0]
end PI

set_option Elab.async false
set_option linter.all false
set_option maxRecDepth 100000
set_option maxHeartbeats 1000000
namespace PI
open PySem PySem.Spec PyProof.Rows L2 SX0 R_k82
variable {K : PySem.W.Frag} {H : Hp} {Q : VK} {E : XK} {L R A : List Chunk} {σ : L2.St} {D : Ends}
instance : Enc (List V) := ⟨some⟩
/-- tuples of texts and ints, each with its address -/
abbrev PT_ := PV (List V)
theorem PT_.v_ (p : PT_) : p.v = .ref p.a := rfl
theorem PT_.c_ (p : PT_) : p.c = [(p.a, .tup p.d)] := rfl
theorem PT_.ok_at {p : PT_} (h : p.ok H) : H p.a = some (.tup p.d) := h (p.a, .tup p.d) (by rw [PT_.c_]; exact List.mem_cons_self)
/-! ### marks -/
def wordR (r : List V) : Str := match r with | .str w :: _ => w | _ => ""
def markRow (r : List V) : Option Str := match r with
  | .str w :: .str m :: _ => if w = "mark" then some m else none
  | _ => none
def mkAdd (acc : List (Str × Int)) (m : Str) (i : Int) : List (Str × Int) := if m ∈ acc.map (·.1) then acc else acc ++ [(m, i)]
def mkStep (acc : List (Str × Int)) (p : List V × Nat) : List (Str × Int) := match markRow p.1 with
  | some m => mkAdd acc m p.2
  | none => acc
def mks (rows : List (List V)) : List (Str × Int) := rows.zipIdx.foldl mkStep []
def kvM (l : List (Str × Int)) : List (Key × V) := l.map fun e => (Sum.inr e.1, V.int e.2)
theorem mks_snoc (l : List (List V)) (r : List V) : mks (l ++ [r]) = mkStep (mks l) (r, l.length) := by
  unfold mks
  rw [List.zipIdx_append, List.foldl_append]
  simp
theorem mks_len (l : List (List V)) : (mks l).length ≤ l.length := by
  have : ∀ (k : List (List V × Nat)) acc, (k.foldl mkStep acc).length ≤ acc.length + k.length := by
    intro k
    induction k with
    | nil => intro acc; simp
    | cons a r ih =>
      intro acc
      have h1 := ih (mkStep acc a)
      have h2 : (mkStep acc a).length ≤ acc.length + 1 := by
        unfold mkStep mkAdd
        split
        · split <;> simp
        · omega
      rw [List.foldl_cons, List.length_cons]; omega
  have := this l.zipIdx []
  simpa [mks] using this
theorem val_kvM (l : List (Str × Int)) (m : Str) : valV (kvM l) (Sum.inr m : Key) = (l.lookup m).map V.int := by
  unfold kvM
  induction l with
  | nil => rfl
  | cons e r ih =>
    by_cases h : e.1 = m
    · rw [List.map_cons, valV_pos (by simp [h]), List.lookup_cons]
      simp [h]
    · have h' : (m == e.1) = false := by simpa using fun z : m = e.1 => h z.symm
      rw [List.map_cons, valV_neg (by simpa using h), List.lookup_cons, h', ih]
theorem look_some (l : List (Str × Int)) (m : Str) : (l.lookup m).isSome = decide (m ∈ l.map (·.1)) := by
  induction l with
  | nil => rfl
  | cons e r ih =>
    rw [List.lookup_cons]
    by_cases h : m = e.1
    · simp [h]
    · have h' : (m == e.1) = false := by simpa using h
      rw [h']
      simp only [ih, List.map_cons, List.mem_cons, h, false_or]
theorem x_dnotinS {a : Addr} {kvs : List (Key × V)} {y : Str} (e : Rd H a (.dK kvs)) (h : Q (.bl (!(valV kvs (Sum.inr y : Key)).isSome)) H) : gDNotIn (.ref a) (.str y) H Q := ⟨a, _, rfl, .inl ⟨kvs, Sum.inr y, e, rfl, rfl⟩, h⟩
theorem x_dgetS {a : Addr} {kvs : List (Key × V)} {y : Str} {v : V} (e : Rd H a (.dK kvs)) (ev : valV kvs (Sum.inr y : Key) = some v) (h : Q v H) : gDGet (.ref a) (.str y) H Q := ⟨a, v, rfl, .inl ⟨kvs, Sum.inr y, e, rfl, ev.symm⟩, h⟩
/-- a row as a program has it -/
structure RowOk (r : List V) : Prop where
  w : r = .str (wordR r) :: r.tail
  m : wordR r = "mark" → ∃ m, r = [.str "mark", .str m]
theorem put_kvM {l : List (Str × Int)} {m : Str} {i : Int} (h : m ∉ l.map (·.1)) : putK (kvM l) (Sum.inr m) (.int i) = kvM (l ++ [(m, i)]) := by
  have v0 : valV (kvM l) (Sum.inr m : Key) = none := by
    rw [val_kvM]
    have := look_some l m
    rw [decide_eq_false h] at this
    cases q : l.lookup m with
    | none => rfl
    | some x => rw [q] at this; cases this
  rw [putK_new _ v0]
  simp [kvM]
theorem marks_gen {a : Addr} {J : It} {G : Hp → Prop} {prog : List PT_} (wk : Walk J prog.length G (YPair (fun i => some (.int (i : Nat))) (fun i => (prog.map PV.v)[i]?))) (hG : ∀ H', Hs H' L → G H') (hp : ∀ H', Hs H' L → ∀ p ∈ prog, p.ok H') (ok : ∀ p ∈ prog, RowOk p.d) (hl : prog.length ≤ 100000)
    (hiter : ∀ H' (R : It → Hp → Prop), Hs H' L → R J H' → gEnumX K [.ref a] H' R) (hh : Hs H L) (h : ∀ f H', Hs H' ([(f, .dK (kvM (mks (prog.map (·.d)))))] :: L) → Q (.ref f) H') : sp_marks_in K [.ref a] H Q E := by
  refine i_marks_in ?_
  unfold t_marks_in
  walk_at "vh"
  refine y_dnewK hh fun f H hh => ?_
  walk_at "vh"
  refine x_iEnumX ?_
  walk_at "vh"
  refine hiter H _ hh.tail ?_
  refine L_enumX (L := L) (xs := prog.map PV.v) wk (by simp) (fun i σ H' => (∃ b c, σ = [some (.ref a), some (.ref f), b, c]) ∧ Hs H' ([(f, .dK (kvM (mks ((prog.map (·.d)).take i))))] :: L)) ⟨⟨_, _, rfl⟩, hh⟩ (fun i σ H' _ q => hG H' q.2.tail) ?_ ?_
  · rintro i x T σ H ix ⟨⟨b, c, rfl⟩, hh⟩ hT
    obtain ⟨p, ip, rfl⟩ := get_map ix
    have pm := List.mem_of_getElem? ip
    have ro := ok p pm
    replace hh := (hh.new (o := .tup [.int (i : Nat), PV.v p]) hT).tail
    generalize upd H T _ = H at hh
    have pk : H p.a = some (.tup p.d) := PT_.ok_at (hp H hh.tail p pm)
    have tk : (prog.map (·.d)).take (i + 1) = (prog.map (·.d)).take i ++ [p.d] := take_snoc (by rw [List.getElem?_map, ip]; rfl)
    have tl : ((prog.map (·.d)).take i).length = i := by
      have := (List.getElem?_eq_some_iff.mp ip).1
      rw [List.length_take, List.length_map]; omega
    rw [tk, mks_snoc, tl]
    show tIfS _ _ _ _ _ _
    walk_at "vh"
    refine x_ndecT (fun z => by cases z) ?_
    walk_at "vh"
    refine x_ixT (SqT.of pk) (show atI p.d 0 = some (.str (wordR p.d)) by rw [ro.w]; exact atI_at (n := 0) rfl) ?_
    walk_at "vh"
    refine s_ite (fun b => ?_) fun b => ?_
    · obtain ⟨m, em⟩ := ro.m b
      rw [em] at pk ⊢
      have er : mkStep (mks ((prog.map (·.d)).take i)) ([V.str "mark", .str m], i) = mkAdd (mks ((prog.map (·.d)).take i)) m i := by
        unfold mkStep markRow
        simp
      rw [er]
      walk_at "vh"
      refine x_ixT (SqT.of pk) (show atI [V.str "mark", .str m] 1 = some (.str m) from rfl) ?_
      walk_at "vh"
      refine x_dnotinS (.inl (hh.g 0 rfl)) ?_
      rw [val_kvM, Option.isSome_map, look_some]
      refine x_bl ?_
      unfold mkAdd
      have ml := mks_len ((prog.map (·.d)).take i)
      rw [tl] at ml
      have il := (List.getElem?_eq_some_iff.mp ip).1
      by_cases z : m ∈ (mks ((prog.map (·.d)).take i)).map (·.1)
      · refine x_ndecF z ?_
        walk_at "vh"
        exact ⟨⟨_, _, rfl⟩, by rw [if_pos z]; exact hh⟩
      · refine x_ndecT z ?_
        walk_at "vh"
        refine x_ixT (SqT.of pk) (show atI [V.str "mark", .str m] 1 = some (.str m) from rfl) ?_
        walk_at "vh"
        refine y_dputS (y := m) hh 0 rfl (by rw [kvM, List.length_map]; exact sl' (m := 100001) (by omega)) fun H hh => ⟨⟨_, _, rfl⟩, ?_⟩
        rw [put_kvM z] at hh
        rw [if_neg z]
        exact hh
    · have er : mkStep (mks ((prog.map (·.d)).take i)) (p.d, i) = mks ((prog.map (·.d)).take i) := by
        unfold mkStep
        have : markRow p.d = none := by
          unfold markRow
          split
          · rename_i w m r e
            rw [show wordR p.d = w from by rw [e]; rfl] at b
            rw [if_neg b]
          · rfl
        rw [this]
      rw [er]
      walk_at "vh"
      exact ⟨⟨_, _, rfl⟩, hh⟩
  · rintro σ H ⟨⟨b, c, rfl⟩, hh⟩
    rw [List.take_of_length_le (by simp)] at hh
    walk_at "vh"
    exact h f H hh
theorem c_marks_inL {a : Addr} {prog : List PT_} (hw : ∀ H', Hs H' L → SqL K H' a (prog.map PV.v)) (hp : ∀ H', Hs H' L → ∀ p ∈ prog, p.ok H') (ok : ∀ p ∈ prog, RowOk p.d) (hl : prog.length ≤ 100000) (hh : Hs H L)
    (h : ∀ f H', Hs H' ([(f, .dK (kvM (mks (prog.map (·.d)))))] :: L) → Q (.ref f) H') : sp_marks_in K [.ref a] H Q E := by
  have w := walk_enum (K := K) (a := a) (xs := prog.map PV.v)
  rw [List.length_map] at w
  exact marks_gen w hw hp ok hl (fun H' R h' r => y_enumL (hw H' h') r) hh h
theorem c_marks_inT {a : Addr} {prog : List PT_} (hw : ∀ H', Hs H' L → SqT K H' a (prog.map PV.v)) (hp : ∀ H', Hs H' L → ∀ p ∈ prog, p.ok H') (ok : ∀ p ∈ prog, RowOk p.d) (hl : prog.length ≤ 100000) (hh : Hs H L)
    (h : ∀ f H', Hs H' ([(f, .dK (kvM (mks (prog.map (·.d)))))] :: L) → Q (.ref f) H') : sp_marks_in K [.ref a] H Q E := by
  have w := walk_enumT (K := K) (a := a) (xs := prog.map PV.v)
  rw [List.length_map] at w
  exact marks_gen w hw hp ok hl (fun H' R h' r => y_enumT (hw H' h') r) hh h
/-! ### read_program, where nothing is refused -/
def goesTo (r : List V) : Option V := if wordR r ∈ (["go", "same", "below", "thing"] : List Str) then r.getLast? else none
theorem c_mark_of {p : PT_} (hh : Hs H L) (hp : ∀ H', Hs H' L → p.ok H') (ro : RowOk p.d) (h : ∀ H', Hs H' L → Q ((goesTo p.d).getD .non) H') : sp_mark_of K [p.v] H Q E := by
  refine i_mark_of ?_
  unfold t_mark_of
  have ro' := ro.w
  walk_at "vh"
  refine x_ixT (SqT.of (PT_.ok_at (hp H hh))) (show atI p.d 0 = some (.str (wordR p.d)) by rw [ro.w]; exact atI_at (n := 0) rfl) ?_
  walk_at "vh"
  refine y_tup hh fun q H hh => ?_
  refine s_inT (l := ["go", "same", "below", "thing"]) (SqT.of (hh.g 0 rfl)) ?_
  replace hh := hh.tail
  unfold goesTo at h
  refine x_bl (x_ite (fun b => ?_) fun b => ?_)
  · rw [if_pos b] at h
    walk_at "vh"
    have pos : 0 < p.d.length := by rw [ro']; simp
    have e : atI p.d (-1) = p.d.getLast? := by
      unfold atI ixN
      have : -(p.d.length : Int) ≤ -1 := by omega
      rw [if_neg (by decide), if_pos this]
      simp only [Option.bind_some]
      rw [List.getLast?_eq_getElem?]
      congr 1
      omega
    obtain ⟨x, ex⟩ : ∃ x, p.d.getLast? = some x := by
      cases q : p.d.getLast? with
      | none => rw [List.getLast?_eq_none_iff] at q; rw [q] at pos; simp at pos
      | some x => exact ⟨x, rfl⟩
    rw [ex] at h
    exact x_ixT (SqT.of (PT_.ok_at (hp H hh))) (e.trans ex) (h H hh)
  · rw [if_neg b] at h
    walk_at "vh"
    exact h H hh
end PI

set_option Elab.async false
set_option linter.all false
set_option maxRecDepth 100000
set_option maxHeartbeats 1000000
namespace PI
open PySem PySem.Spec PyProof.Rows L2 SX0 R_k82
variable {K : PySem.W.Frag} {H : Hp} {Q : VK} {E : XK} {L R A : List Chunk} {σ : L2.St} {D : Ends}
structure ProgOk (rows : List (List V)) : Prop where
  ln : rows.length ≤ 200
  ok : ∀ r ∈ rows, RowOk r
  mp : ∀ (i : Nat) r m, rows[i]? = some r → markRow r = some m → (mks rows).lookup m = some (i : Int)
  gt : ∀ r ∈ rows, ∀ v, goesTo r = some v → ∃ m, v = .str m ∧ m ∈ (mks rows).map (·.1)
theorem vcs_app {α : Type} [Enc α] (a b : List (PV α)) : vcs (a ++ b) = vcs a ++ vcs b := by simp [vcs]
theorem mk_word {r : List V} (h : wordR r = "mark") (ro : RowOk r) : ∃ m, markRow r = some m ∧ r = [.str "mark", .str m] := by
  obtain ⟨m, e⟩ := ro.m h
  exact ⟨m, by rw [e]; unfold markRow; simp, e⟩
theorem c_read_program {t : Str} {ts : List Str} {rows : List (List V)} (hh : Hs H L) (hs : Txt.split t "\n" = ts) (hl : t.length ≤ 100000) (hr : ts.map rowV = rows.map some) (ok : ProgOk rows)
    (h : ∀ p (prog : List PT_) H', prog.map (·.d) = rows → Hs H' ([(p, .tup (prog.map PV.v))] :: vcs prog :: L) → Q (.ref p) H') : sp_read_program K [.str t] H Q E := by
  have rl : ts.length = rows.length := by have := congrArg List.length hr; simpa using this
  have l200 := ok.ln
  refine i_read_program ?_
  unfold t_read_program
  walk_at "vh"
  refine s_m1 ?_
  walk_at "vh"
  refine ⟨⟨_, rfl⟩, ?_⟩
  walk_at "vh"
  refine s_split hh (by decide +kernel) (by omega) fun tp H hh => ?_
  rw [hs] at hh
  walk_at "vh"
  have tm : ∀ s ∈ ts, s.length ≤ t.length := fun s hs' => by rw [← hs] at hs'; exact SJ.split_mem_len hs'
  refine L_lcW (walk_list (K := K) (a := tp) (xs := ts.map V.str)) (fun D i acc H' => ∃ prog : List PT_, acc = prog.map PV.v ∧ prog.map (·.d) = rows.take i ∧ Hs H' ([(D, .lst acc)] :: vcs prog :: [(tp, .lst (ts.map V.str))] :: L)) (fun D hD => ⟨[], rfl, rfl, ?_⟩) (fun D i acc H' ⟨prog, _, _, q⟩ => SqL.of (q.g 2 rfl)) ?_ ?_
  · exact (hh.new hD).eq (by simp [vcs])
  · rintro D i x acc H2 H3 hD hi ⟨prog, rfl, ep, hh⟩ e ⟨rfl, hx⟩ Rr r1 r2
    obtain ⟨s, is, rfl⟩ := get_map hx
    have er : rowV s = some (rows[i]'(by rw [List.length_map] at hi; omega)) := by
      have a1 : (ts.map rowV)[i]? = some (rowV s) := by rw [List.getElem?_map, is]; rfl
      rw [hr, List.getElem?_map] at a1
      have hi' : i < rows.length := by rw [List.length_map] at hi; omega
      rw [List.getElem?_eq_getElem hi'] at a1
      exact (Option.some.inj a1).symm
    have hi' : i < rows.length := by rw [List.length_map] at hi; omega
    refine x_own (by simp) fun ev => ?_
    refine x_yes (x_iteT (x_callS (x_cons (x_var ev (x_nil ?_)))))
    refine c_row_in hh (by have := tm s (List.mem_of_getElem? is); omega) (fun z => by rw [er] at z; cases z) fun xs ex p H4 hh => ?_
    rw [er] at ex
    have ex' : rows[i] = xs := Option.some.inj ex
    have pl : prog.length = i := by have := congrArg List.length ep; rw [List.length_map, List.length_take] at this; omega
    refine r1 (.ref p) H4 (hh.g 1 rfl) (by rw [List.length_map, pl]; exact sl' (m := 100001) (by omega)) ⟨prog ++ [⟨xs, p⟩], by simp [PT_.v_], ?_, ?_⟩
    · rw [List.map_append, ep, take_snoc (List.getElem?_eq_getElem hi'), ex']; rfl
    · have h2 := hh.set (o' := .lst (prog.map PV.v ++ [.ref p])) 1 rfl rfl rfl
      have h3 : Hs _ ([(p, .tup xs)] :: [(D, .lst (prog.map PV.v ++ [.ref p]))] :: vcs prog :: [(tp, .lst (ts.map V.str))] :: L) := h2
      have h4 := Hs.pick (L := [[(p, HO.tup xs)], [(D, HO.lst (prog.map PV.v ++ [.ref p]))], vcs prog]) (R := [(tp, .lst (ts.map V.str))] :: L) h3 [1, 2, 0]
      refine h4.eq ?_
      rw [vcs_app]
      simp [vcs, PT_.c_]
  · rintro D acc H hD ⟨prog, rfl, ep, hh⟩ e
    rw [List.length_map, List.take_of_length_le (by omega)] at ep
    have pl : prog.length = rows.length := by have := congrArg List.length ep; simpa using this
    have pok : ∀ p ∈ prog, RowOk p.d := fun p hp => ok.ok p.d (by rw [← ep]; exact List.mem_map.mpr ⟨p, hp, rfl⟩)
    walk_at "vh"
    refine c_marks_inL (prog := prog) (fun H' h' => SqL.of (h'.g 0 rfl)) (fun H' h' p hp => PV.ok_of h' 1 rfl hp) pok (by omega) hh fun f H hh => ?_
    rw [ep] at hh
    walk_at "vh"
    refine x_iEnumX ?_
    walk_at "vh"
    refine y_enumL (SqL.of (hh.g 1 rfl)) ?_
    have wk := walk_enum (K := K) (a := D) (xs := prog.map PV.v)
    rw [List.length_map] at wk
    refine L_enumX (L := L) (xs := prog.map PV.v) wk (by simp) (fun i σ H' => (∃ b c d, σ = [some (.str t), some (.ref tp), some (.ref D), some (.ref f), b, c, d]) ∧ Hs H' ([(f, .dK (kvM (mks rows)))] :: [(D, .lst (prog.map PV.v))] :: vcs prog :: [(tp, .lst (ts.map V.str))] :: L)) ⟨⟨_, _, _, rfl⟩, hh⟩ (fun i σ H' _ q => SqL.of (q.2.g 1 rfl)) ?_ ?_
    · rintro i x T σ H ix ⟨⟨b, c, d, rfl⟩, hh⟩ hT
      obtain ⟨p, ip, rfl⟩ := get_map ix
      have pm := List.mem_of_getElem? ip
      have ro := pok p pm
      have il := (List.getElem?_eq_some_iff.mp ip).1
      have ir : rows[i]? = some p.d := by rw [← ep, List.getElem?_map, ip]; rfl
      have rm : p.d ∈ rows := List.mem_of_getElem? ir
      replace hh := (hh.new (o := .tup [.int (i : Nat), PV.v p]) hT).tail
      generalize upd H T _ = H at hh
      have pk : ∀ {H' : Hp} {c : Chunk}, Hs H' (c :: [(f, .dK (kvM (mks rows)))] :: [(D, .lst (prog.map PV.v))] :: vcs prog :: [(tp, .lst (ts.map V.str))] :: L) → p.ok H' := fun h' => PV.ok_of h' 3 rfl pm
      have pk0 : ∀ {H' : Hp}, Hs H' ([(f, .dK (kvM (mks rows)))] :: [(D, .lst (prog.map PV.v))] :: vcs prog :: [(tp, .lst (ts.map V.str))] :: L) → p.ok H' := fun h' => PV.ok_of h' 2 rfl pm
      have row0 : atI p.d 0 = some (.str (wordR p.d)) := by rw [ro.w]; exact atI_at (n := 0) rfl
      show tSeq _ _ _ _ _
      walk_at "vh"
      refine x_decF (fun z => by cases z) ?_
      walk_at "vh"
      refine x_decF (by omega) ?_
      -- the third look
      have third : ∀ (De : Ends) {H : Hp}, Hs H ([(f, .dK (kvM (mks rows)))] :: [(D, .lst (prog.map PV.v))] :: vcs prog :: [(tp, .lst (ts.map V.str))] :: L) →
        (∀ H', Hs H' ([(f, .dK (kvM (mks rows)))] :: [(D, .lst (prog.map PV.v))] :: vcs prog :: [(tp, .lst (ts.map V.str))] :: L) → De.nx [some (.str t), some (.ref tp), some (.ref D), some (.ref f), some (.int (i : Nat)), some p.v, d] H') →
        (tIfS (tAnd (tTest (tOp oNotN (tCallS (sp_mark_of K) (WE (WD E)) (tCons (tVar 5) tNil)) (tC .non))) (tB (tDNotIn (tCallS (sp_mark_of K) (WE (WD E)) (tCons (tVar 5) tNil)) (tVar 3)))) (tRzO (He.ga K "BadText") (sp_BadText___init__ K) (tCons (tC (.str "a mark that no row puts")) (tCons (tOp oAdd (tVar 4) (tC (.int 1))) tNil)) (WD E)) tNext) De [some (.str t), some (.ref tp), some (.ref D), some (.ref f), some (.int (i : Nat)), some p.v, d] H := by
        intro De H hh fin
        walk_at "vh"
        refine c_mark_of hh (fun H' h' => pk0 h') ro fun H hh => ?_
        walk_at "vh"
        cases eg : goesTo p.d with
        | none =>
          refine x_ndecF rfl ?_
          walk_at "vh"
          exact fin H hh
        | some v =>
          obtain ⟨m, rfl, mm⟩ := ok.gt p.d rm v eg
          refine x_ndecT (fun z => by cases z) ?_
          walk_at "vh"
          refine c_mark_of hh (fun H' h' => pk0 h') ro fun H hh => ?_
          rw [eg]
          walk_at "vh"
          refine x_dnotinS (.inl (hh.g 0 rfl)) ?_
          rw [val_kvM, Option.isSome_map, look_some]
          refine x_bl ?_
          refine x_ndecF mm ?_
          walk_at "vh"
          exact fin H hh
      walk_at "vh"
      refine x_ixT (SqT.of (PT_.ok_at (pk0 hh))) row0 ?_
      walk_at "vh"
      refine s_ite (fun b2 => ?_) fun b2 => ?_
      · obtain ⟨m, em, ed⟩ := mk_word b2 ro
        have lk := ok.mp i p.d m ir em
        walk_at "vh"
        refine x_ixT (SqT.of (PT_.ok_at (pk0 hh))) (show atI p.d 1 = some (.str m) by rw [ed]; rfl) ?_
        walk_at "vh"
        refine x_dgetS (.inl (hh.g 0 rfl)) (show _ = some (V.int (i : Int)) by rw [val_kvM, lk]; rfl) ?_
        walk_at "vh"
        refine x_ndecF rfl ?_
        refine x_next ?_
        exact third _ hh fun H' h' => ⟨⟨_, _, _, rfl⟩, h'⟩
      · refine x_iteF (x_next ?_)
        exact third _ hh fun H' h' => ⟨⟨_, _, _, rfl⟩, h'⟩
    · rintro σ H ⟨⟨b, c, d, rfl⟩, hh⟩
      walk_at "vh"
      refine y_tupL hh (SqL.of (hh.g 1 rfl)) fun p H hh => ?_
      refine h p prog H ep ?_
      exact Hs.pick (L := [[(p, HO.tup (prog.map PV.v))], [(f, .dK (kvM (mks rows)))], [(D, .lst (prog.map PV.v))], vcs prog, [(tp, .lst (ts.map V.str))]]) (R := L) hh [0, 3]
end PI

set_option Elab.async false
set_option linter.all false
set_option maxRecDepth 100000
set_option maxHeartbeats 1000000
namespace PI
open PySem PySem.Spec PyProof.Rows L2 SX0 R_k82
/-! ### rows of a program, plain -/
inductive PRow
  | make (h n : Int) | load (h g k : Int) | store (g k h : Int) | copy (h g : Int) | drop (h : Int) | number (h x : Int) | name (w h : Int) | read (h w : Int)
  | word (h g : Int) | take (h : Int) | held (h : Int) | add (h g : Int) | less (h g : Int)
  | mark (m : Str) | go (m : Str) | same (h g : Int) (m : Str) | below (h g : Int) (m : Str) | thing (h : Int) (m : Str) | say (h : Int) | stop
def PRow.enc : PRow → List V
  | .make h n => [.str "make", .int h, .int n]
  | .load h g k => [.str "load", .int h, .int g, .int k]
  | .store g k h => [.str "store", .int g, .int k, .int h]
  | .copy h g => [.str "copy", .int h, .int g]
  | .drop h => [.str "drop", .int h]
  | .number h x => [.str "number", .int h, .int x]
  | .name w h => [.str "name", .int w, .int h]
  | .read h w => [.str "read", .int h, .int w]
  | .word h g => [.str "word", .int h, .int g]
  | .take h => [.str "take", .int h]
  | .held h => [.str "held", .int h]
  | .add h g => [.str "add", .int h, .int g]
  | .less h g => [.str "less", .int h, .int g]
  | .mark m => [.str "mark", .str m]
  | .go m => [.str "go", .str m]
  | .same h g m => [.str "same", .int h, .int g, .str m]
  | .below h g m => [.str "below", .int h, .int g, .str m]
  | .thing h m => [.str "thing", .int h, .str m]
  | .say h => [.str "say", .int h]
  | .stop => [.str "stop"]
def okH (h : Int) : Prop := 0 ≤ h ∧ h < 8
instance (h : Int) : Decidable (okH h) := inferInstanceAs (Decidable (0 ≤ h ∧ h < 8))
def ID.th (d : ID) (h : Int) : Option Int := if okH h then (match d.hand h with | .thg t => some t | _ => none) else none
def ID.nu (d : ID) (h : Int) : Option Int := if okH h then (match d.hand h with | .num t => some t | _ => none) else none
theorem th_some {d : ID} {h t : Int} (e : d.th h = some t) : okH h ∧ d.hand h = .thg t := by
  unfold ID.th at e
  split at e
  · rename_i o
    refine ⟨o, ?_⟩
    split at e
    · rename_i u q; cases e; exact q
    · cases e
  · cases e
theorem nu_some {d : ID} {h t : Int} (e : d.nu h = some t) : okH h ∧ d.hand h = .num t := by
  unfold ID.nu at e
  split at e
  · rename_i o
    refine ⟨o, ?_⟩
    split at e
    · rename_i u q; cases e; exact q
    · cases e
  · cases e
theorem th_of {d : ID} {h t : Int} (o : okH h) (e : d.hand h = .thg t) : d.th h = some t := by unfold ID.th; rw [if_pos o, e]
theorem nu_of {d : ID} {h t : Int} (o : okH h) (e : d.hand h = .num t) : d.nu h = some t := by unfold ID.nu; rw [if_pos o, e]
theorem th_none {d : ID} {h : Int} (n : ¬ (0 ≤ h ∧ h < 8 ∧ ∃ t, d.hand h = .thg t)) : d.th h = none := by
  cases e : d.th h with
  | none => rfl
  | some t => obtain ⟨o, q⟩ := th_some e; exact absurd ⟨o.1, o.2, t, q⟩ n
theorem nu_none {d : ID} {h : Int} (n : ¬ (0 ≤ h ∧ h < 8 ∧ ∃ t, d.hand h = .num t)) : d.nu h = none := by
  cases e : d.nu h with
  | none => rfl
  | some t => obtain ⟨o, q⟩ := nu_some e; exact absurd ⟨o.1, o.2, t, q⟩ n
def okF (x : Int) : Prop := -FAR ≤ x ∧ x ≤ FAR
instance (x : Int) : Decidable (okF x) := inferInstanceAs (Decidable (-FAR ≤ x ∧ x ≤ FAR))
def ID.numR (d : ID) (h x : Int) : ID × Option Str := if okH h then (if okF x then (d.setHand h (.num x), none) else (d, some "BadCount")) else (d, some "BadHand")
def ID.wordR (d : ID) (h x : Int) : ID × Option Str := match d.th h with
  | none => (d, some "BadHand")
  | some t => if okF x then (if d.lwOf t = none ∧ ¬ d.bearers < 12 then (d, some "TooManyWords") else (d.setWord t x, none)) else (d, some "BadCount")
/-- what a row's deed does to a heap -/
noncomputable def ID.deed (d : ID) : PRow → ID × Option Str
  | .make h n => if okH h then (if 0 ≤ n ∧ n ≤ 6 then (if pwords (d.pre (n + 1)).kept + (n + 1) ≤ (d.pre (n + 1)).limit then ((d.pre (n + 1)).made_ h n, none) else (d.pre (n + 1), some "NoRoom")) else (d, some "BadCount")) else (d, some "BadHand")
  | .load h g k => if okH h then (match d.th g with
    | none => (d, some "BadHand")
    | some t => if 0 ≤ k ∧ k < (d.fsOf t).length then (d.setHand h (d.fieldV t k), none) else (d, some "BadField")) else (d, some "BadHand")
  | .store g k h => match d.th g with
    | none => (d, some "BadHand")
    | some t => if okH h then (if 0 ≤ k ∧ k < (d.fsOf t).length then (d.setField t k (d.hand h), none) else (d, some "BadField")) else (d, some "BadHand")
  | .copy h g => if okH h ∧ okH g then (d.setHand h (d.hand g), none) else (d, some "BadHand")
  | .drop h => if okH h then (d.setHand h .non, none) else (d, some "BadHand")
  | .number h x => d.numR h x
  | .name i h => match d.th h with
    | none => (d, some "BadHand")
    | some t => if 0 ≤ i ∧ i < 8 then (d.setName i t, none) else (d, some "BadName")
  | .read h i => if okH h then (if 0 ≤ i ∧ i < 8 then (d.read h i, none) else (d, some "BadName")) else (d, some "BadHand")
  | .word h g => match d.nu g with
    | none => (d, some "BadHand")
    | some x => d.wordR h x
  | .held h => d.numR h (pwords d.kept)
  | .add h g => match d.nu h, d.nu g with
    | some x, some y => d.numR h (x + y)
    | _, _ => (d, some "BadHand")
  | .less h g => match d.nu h, d.nu g with
    | some x, some y => d.numR h (x - y)
    | _, _ => (d, some "BadHand")
  | .take h => if okH h then (match d.spoken with
    | [] => (d.setHand h .non, none)
    | x :: r => ({ d with spoken := r } : ID).numR h x) else (d, some "BadHand")
  | _ => (d, none)
def PRow.plain : PRow → Bool
  | .mark _ | .go _ | .same _ _ _ | .below _ _ _ | .thing _ _ | .say _ | .stop => false
  | _ => true
variable {K : PySem.W.Frag} {H : Hp} {Q : VK} {E : XK} {L R A : List Chunk} {σ : L2.St} {D : Ends}
theorem At.spoken {a : Addr} {d : ID} (h : At K a d R H) : True := True.intro
/-- a tuple known beside a heap -/
def Kp (K : PySem.W.Frag) (R : List Chunk) (p : PT_) : Prop := ∀ c H', Hs H' (c :: R) → p.ok H'
theorem Kp.at_ {a : Addr} {d : ID} {p : PT_} (k : Kp K R p) (h : At K a d R H) : H p.a = some (.tup p.d) := by
  obtain ⟨s, _, _, hh⟩ := h
  exact PT_.ok_at (k _ _ hh)
theorem At.ob {a : Addr} {d : ID} (h : At K a d R H) : ∃ dx fs, H a = some (.ins (IC K) dx fs) ∧ ∀ m ∈ (["make", "load", "store", "copy", "drop", "number", "name", "read", "word", "take", "held", "value", "kind", "same", "fields", "small", "begin", "end"] : List Str), fs.lookup m = none := by
  obtain ⟨s, rfl, _, hh⟩ := h
  refine ⟨s.dx, s.fs, (IS.op hh).g 0 rfl, ?_⟩
  intro m hm
  simp only [List.mem_cons, List.mem_nil_iff, or_false] at hm
  rcases hm with h | h | h | h | h | h | h | h | h | h | h | h | h | h | h | h | h | h <;> (subst h; rfl)
end PI


open PySem PySem.Spec PyProof.Rows L2 SX0
local macro_rules | `(tactic| walk_at "sw") => `(tactic| first | refine x_decT (by decide +kernel) ?_ | refine x_decF (by decide +kernel) ?_)
set_option Elab.async false
set_option linter.all false
set_option maxRecDepth 100000
set_option maxHeartbeats 1000000
namespace PI
open PySem PySem.Spec PyProof.Rows L2 SX0 R_k82
variable {K : PySem.W.Frag} {H : Hp} {Q : VK} {E : XK} {L R A : List Chunk} {σ : L2.St} {D : Ends}
/-- what an outcome of a deed asks -/
def Out (K : PySem.W.Frag) (a : Addr) (R : List Chunk) (o : ID × Option Str) (Q : VK) (E : XK) : Prop :=
  (o.2 = none → ∀ H', At K a o.1 R H' → Q .non H') ∧ ∀ n, o.2 = some n → ∀ H', At K a o.1 R H' → E (Ex K n) none H'
theorem Out.ok {a : Addr} {d : ID} (h : Out K a R (d, none) Q E) : ∀ H', At K a d R H' → Q .non H' := h.1 rfl
theorem Out.err {a : Addr} {d : ID} {n : Str} (h : Out K a R (d, some n) Q E) : ∀ H', At K a d R H' → E (Ex K n) none H' := h.2 n rfl
theorem o_number {a : Addr} {d : ID} {h x : Int} (hA : At K a d R H) (w : d.Wf) (o : Out K a R (d.numR h x) Q E) : sp_IdealHeap_number K [.ref a, .int h, .int x] H Q E := by
  unfold ID.numR at o
  refine c_number hA w (fun h8 hx H' hA' => ?_) (fun n => ?_) fun h8 n => ?_
  · rw [if_pos (show okH h from h8), if_pos (show okF x from hx)] at o
    exact o.ok H' hA'
  · rw [if_neg (show ¬ okH h from n)] at o
    exact o.err H hA
  · rw [if_pos (show okH h from h8), if_neg (show ¬ okF x from n)] at o
    exact o.err H hA
theorem o_word {a : Addr} {d : ID} {h x : Int} (hA : At K a d R H) (w : d.Wf) (o : Out K a R (d.wordR h x) Q E) : sp_IdealHeap_word K [.ref a, .int h, .int x] H Q E := by
  unfold ID.wordR at o
  refine c_word hA w (fun h8 t ht hx hb H' hA' => ?_) (fun n => ?_) (fun h8 t ht n => ?_) fun h8 t ht hx e hb H' hA' => ?_
  · rw [th_of h8 ht] at o
    simp only [if_pos (show okF x from hx), if_neg (show ¬ (d.lwOf t = none ∧ ¬ d.bearers < 12) from fun z => z.2 (hb z.1))] at o
    exact o.ok H' hA'
  · rw [th_none fun z => n ⟨⟨z.1, z.2.1⟩, z.2.2⟩] at o
    exact o.err H hA
  · rw [th_of h8 ht] at o
    simp only [if_neg (show ¬ okF x from n)] at o
    exact o.err H hA
  · rw [th_of h8 ht] at o
    simp only [if_pos (show okF x from hx), if_pos (show d.lwOf t = none ∧ ¬ d.bearers < 12 from ⟨e, hb⟩)] at o
    exact o.err H' hA'
theorem o_drop {a : Addr} {d : ID} {h : Int} (hA : At K a d R H) (w : d.Wf) (o : Out K a R (d.deed (.drop h)) Q E) : sp_IdealHeap_drop K [.ref a, .int h] H Q E := by
  simp only [ID.deed] at o
  refine c_drop hA w (fun h8 H' hA' => ?_) fun n => ?_
  · rw [if_pos (show okH h from h8)] at o; exact o.ok H' hA'
  · rw [if_neg (show ¬ okH h from n)] at o; exact o.err H hA
theorem o_value {a : Addr} {d : ID} {h : Int} (hA : At K a d R H) (w : d.Wf) (h1 : ∀ x, d.nu h = some x → Q (.int x) H) (h2 : d.nu h = none → E (Ex K "BadHand") none H) : sp_IdealHeap_value K [.ref a, .int h] H Q E :=
  c_value hA w (fun h8 x e => h1 x (nu_of h8 e)) fun n => h2 (nu_none n)
theorem o_make {a : Addr} {d : ID} {h n : Int} (hA : At K a d R H) (w : d.Wf) (hl : d.spoken.length ≤ 1000000) (o : Out K a R (d.deed (.make h n)) Q E) : sp_IdealHeap_make K [.ref a, .int h, .int n] H Q E := by
  simp only [ID.deed] at o
  refine c_make hA w hl (fun h8 hn hr H' hA' => ?_) (fun z => ?_) (fun h8 z => ?_) fun h8 hn hr H' hA' => ?_
  · simp only [if_pos (show okH h from h8), if_pos hn, if_pos hr] at o; exact o.ok H' hA'
  · simp only [if_neg (show ¬ okH h from z)] at o; exact o.err H hA
  · simp only [if_pos (show okH h from h8), if_neg z] at o; exact o.err H hA
  · simp only [if_pos (show okH h from h8), if_pos hn, if_neg hr] at o; exact o.err H' hA'
theorem o_load {a : Addr} {d : ID} {h g k : Int} (hA : At K a d R H) (w : d.Wf) (o : Out K a R (d.deed (.load h g k)) Q E) : sp_IdealHeap_load K [.ref a, .int h, .int g, .int k] H Q E := by
  simp only [ID.deed] at o
  refine c_load hA w (fun h8 g8 t ht hk H' hA' => ?_) (fun z => ?_) fun h8 g8 t ht z => ?_
  · simp only [if_pos (show okH h from h8), th_of g8 ht, if_pos hk] at o; exact o.ok H' hA'
  · by_cases h8 : okH h
    · have e : d.th g = none := th_none fun y => z ⟨h8, ⟨y.1, y.2.1⟩, y.2.2⟩
      simp only [if_pos h8, e] at o; exact o.err H hA
    · simp only [if_neg h8] at o; exact o.err H hA
  · simp only [if_pos (show okH h from h8), th_of g8 ht, if_neg z] at o; exact o.err H hA
theorem o_store {a : Addr} {d : ID} {g k h : Int} (hA : At K a d R H) (w : d.Wf) (o : Out K a R (d.deed (.store g k h)) Q E) : sp_IdealHeap_store K [.ref a, .int g, .int k, .int h] H Q E := by
  simp only [ID.deed] at o
  refine c_store hA w (fun g8 h8 t ht hk H' hA' => ?_) (fun z => ?_) fun g8 h8 t ht z => ?_
  · simp only [th_of g8 ht, if_pos (show okH h from h8), if_pos hk] at o; exact o.ok H' hA'
  · cases e : d.th g with
    | none => simp only [e] at o; exact o.err H hA
    | some t =>
      obtain ⟨g8, ht⟩ := th_some e
      have h8 : ¬ okH h := fun y => z ⟨g8, ⟨t, ht⟩, y⟩
      simp only [e, if_neg h8] at o; exact o.err H hA
  · simp only [th_of g8 ht, if_pos (show okH h from h8), if_neg z] at o; exact o.err H hA
theorem o_copy {a : Addr} {d : ID} {h g : Int} (hA : At K a d R H) (w : d.Wf) (o : Out K a R (d.deed (.copy h g)) Q E) : sp_IdealHeap_copy K [.ref a, .int h, .int g] H Q E := by
  simp only [ID.deed] at o
  refine c_copy hA w (fun h8 g8 H' hA' => ?_) fun z => ?_
  · rw [if_pos (show okH h ∧ okH g from ⟨h8, g8⟩)] at o; exact o.ok H' hA'
  · rw [if_neg (show ¬ (okH h ∧ okH g) from z)] at o; exact o.err H hA
theorem o_name {a : Addr} {d : ID} {i h : Int} (hA : At K a d R H) (w : d.Wf) (o : Out K a R (d.deed (.name i h)) Q E) : sp_IdealHeap_name K [.ref a, .int i, .int h] H Q E := by
  simp only [ID.deed] at o
  refine c_name hA w (fun h8 t ht i8 H' hA' => ?_) (fun z => ?_) fun h8 t ht z => ?_
  · simp only [th_of h8 ht, if_pos i8] at o; exact o.ok H' hA'
  · have e : d.th h = none := th_none fun y => z ⟨⟨y.1, y.2.1⟩, y.2.2⟩
    simp only [e] at o; exact o.err H hA
  · simp only [th_of h8 ht, if_neg z] at o; exact o.err H hA
theorem o_read {a : Addr} {d : ID} {h i : Int} (hA : At K a d R H) (w : d.Wf) (o : Out K a R (d.deed (.read h i)) Q E) : sp_IdealHeap_read K [.ref a, .int h, .int i] H Q E := by
  simp only [ID.deed] at o
  refine c_read hA w (fun h8 i8 H' hA' => ?_) (fun z => ?_) fun h8 z => ?_
  · simp only [if_pos (show okH h from h8), if_pos i8] at o; exact o.ok H' hA'
  · simp only [if_neg (show ¬ okH h from z)] at o; exact o.err H hA
  · simp only [if_pos (show okH h from h8), if_neg z] at o; exact o.err H hA
/-- a method of the heap at a -/
theorem y_at {a : Addr} {d : ID} {alts : List Alt} {m : Str} {W : WX} {t : TA} {f : Addr} {sp : Sp} (hA : At K a d R H) (hm : m ∈ (["make", "load", "store", "copy", "drop", "number", "name", "read", "word", "take", "held", "value", "kind", "same", "fields", "small", "begin", "end"] : List Str)) (hal : (IC K, f, sp) ∈ alts)
    (h : t σ H fun vs H2 => sp (.ref a :: vs) H2 Q (WE W σ)) : gMU alts m W t σ (.ref a) H Q := by
  obtain ⟨dx, fs, e, l⟩ := hA.ob
  exact y_mu e hal (l m hm) h
theorem c_do_value {a : Addr} {d : ID} {p : PT_} {row : PRow} (hA : At K a d R H) (w : d.Wf) (hl : d.spoken.length ≤ 1000000) (hk : Kp K R p) (ep : p.d = row.enc) (hv : row.enc.head? = some (.str "word") ∨ row.enc.head? = some (.str "held") ∨ row.enc.head? = some (.str "add") ∨ row.enc.head? = some (.str "less") ∨ row.enc.head? = some (.str "take"))
    (o : Out K a R (d.deed row) Q E) : sp_do_value K [.ref a, p.v] H Q E := by
  refine i_do_value ?_
  unfold t_do_value
  have pk : ∀ {d' : ID} {H' : Hp}, At K a d' R H' → SqT K H' p.a row.enc := fun h' => SqT.of (by rw [← ep]; exact hk.at_ h')
  cases row with
  | word h g =>
    walk_at "vh"
    refine x_ixT (pk hA) (show atI (PRow.word h g).enc 0 = some (.str "word") from rfl) ?_
    walk_at "vh"; walk_at "sw"; walk_at "vh"
    refine y_at hA (by decide +kernel) (by walk_at "hm") ?_
    walk_at "vh"
    refine x_ixT (pk hA) (show atI (PRow.word h g).enc 1 = some (.int h) from rfl) ?_
    walk_at "vh"
    refine y_at hA (by decide +kernel) (by walk_at "hm") ?_
    walk_at "vh"
    refine x_ixT (pk hA) (show atI (PRow.word h g).enc 2 = some (.int g) from rfl) ?_
    walk_at "vh"
    simp only [ID.deed] at o
    refine o_value hA w (fun x e => ?_) fun e => ?_
    · simp only [e] at o
      walk_at "vh"
      exact o_word hA w ⟨fun z H' h' => o.1 z H' h', o.2⟩
    · simp only [e] at o
      exact o.err H hA
  | held h =>
    walk_at "vh"
    refine x_ixT (pk hA) (show atI (PRow.held h).enc 0 = some (.str "held") from rfl) ?_
    walk_at "vh"; walk_at "sw"; walk_at "vh"
    refine x_ixT (pk hA) (show atI (PRow.held h).enc 0 = some (.str "held") from rfl) ?_
    walk_at "vh"; walk_at "sw"; walk_at "vh"
    refine y_at hA (by decide +kernel) (by walk_at "hm") ?_
    walk_at "vh"
    refine x_ixT (pk hA) (show atI (PRow.held h).enc 1 = some (.int h) from rfl) ?_
    walk_at "vh"
    refine y_at hA (by decide +kernel) (by walk_at "hm") ?_
    walk_at "vh"
    refine c_held hA w fun H hA => ?_
    walk_at "vh"
    exact o_number hA w ⟨fun z H' h' => o.1 z H' h', o.2⟩
  | add h g =>
    walk_at "vh"
    refine x_ixT (pk hA) (show atI (PRow.add h g).enc 0 = some (.str "add") from rfl) ?_
    walk_at "vh"; walk_at "sw"; walk_at "vh"
    refine x_ixT (pk hA) (show atI (PRow.add h g).enc 0 = some (.str "add") from rfl) ?_
    walk_at "vh"; walk_at "sw"; walk_at "vh"
    refine x_ixT (pk hA) (show atI (PRow.add h g).enc 0 = some (.str "add") from rfl) ?_
    walk_at "vh"; walk_at "sw"; walk_at "vh"
    refine y_at hA (by decide +kernel) (by walk_at "hm") ?_
    walk_at "vh"
    refine x_ixT (pk hA) (show atI (PRow.add h g).enc 1 = some (.int h) from rfl) ?_
    walk_at "vh"
    refine y_at hA (by decide +kernel) (by walk_at "hm") ?_
    walk_at "vh"
    refine x_ixT (pk hA) (show atI (PRow.add h g).enc 1 = some (.int h) from rfl) ?_
    walk_at "vh"
    simp only [ID.deed] at o
    refine o_value hA w (fun x e => ?_) fun e => ?_
    · walk_at "vh"
      refine y_at hA (by decide +kernel) (by walk_at "hm") ?_
      walk_at "vh"
      refine x_ixT (pk hA) (show atI (PRow.add h g).enc 2 = some (.int g) from rfl) ?_
      walk_at "vh"
      refine o_value hA w (fun y e2 => ?_) fun e2 => ?_
      · simp only [e, e2] at o
        walk_at "vh"
        exact o_number hA w ⟨fun z H' h' => o.1 z H' h', o.2⟩
      · simp only [e, e2] at o
        exact o.err H hA
    · simp only [e] at o
      exact o.err H hA
  | less h g =>
    walk_at "vh"
    refine x_ixT (pk hA) (show atI (PRow.less h g).enc 0 = some (.str "less") from rfl) ?_
    walk_at "vh"; walk_at "sw"; walk_at "vh"
    refine x_ixT (pk hA) (show atI (PRow.less h g).enc 0 = some (.str "less") from rfl) ?_
    walk_at "vh"; walk_at "sw"; walk_at "vh"
    refine x_ixT (pk hA) (show atI (PRow.less h g).enc 0 = some (.str "less") from rfl) ?_
    walk_at "vh"; walk_at "sw"; walk_at "vh"
    refine x_ixT (pk hA) (show atI (PRow.less h g).enc 0 = some (.str "less") from rfl) ?_
    walk_at "vh"; walk_at "sw"; walk_at "vh"
    refine y_at hA (by decide +kernel) (by walk_at "hm") ?_
    walk_at "vh"
    refine x_ixT (pk hA) (show atI (PRow.less h g).enc 1 = some (.int h) from rfl) ?_
    walk_at "vh"
    refine y_at hA (by decide +kernel) (by walk_at "hm") ?_
    walk_at "vh"
    refine x_ixT (pk hA) (show atI (PRow.less h g).enc 1 = some (.int h) from rfl) ?_
    walk_at "vh"
    simp only [ID.deed] at o
    refine o_value hA w (fun x e => ?_) fun e => ?_
    · walk_at "vh"
      refine y_at hA (by decide +kernel) (by walk_at "hm") ?_
      walk_at "vh"
      refine x_ixT (pk hA) (show atI (PRow.less h g).enc 2 = some (.int g) from rfl) ?_
      walk_at "vh"
      refine o_value hA w (fun y e2 => ?_) fun e2 => ?_
      · simp only [e, e2] at o
        walk_at "vh"
        exact o_number hA w ⟨fun z H' h' => o.1 z H' h', o.2⟩
      · simp only [e, e2] at o
        exact o.err H hA
    · simp only [e] at o
      exact o.err H hA
  | take h =>
    walk_at "vh"
    refine x_ixT (pk hA) (show atI (PRow.take h).enc 0 = some (.str "take") from rfl) ?_
    walk_at "vh"; walk_at "sw"; walk_at "vh"
    refine x_ixT (pk hA) (show atI (PRow.take h).enc 0 = some (.str "take") from rfl) ?_
    walk_at "vh"; walk_at "sw"; walk_at "vh"
    refine x_ixT (pk hA) (show atI (PRow.take h).enc 0 = some (.str "take") from rfl) ?_
    walk_at "vh"; walk_at "sw"; walk_at "vh"
    refine x_ixT (pk hA) (show atI (PRow.take h).enc 0 = some (.str "take") from rfl) ?_
    walk_at "vh"; walk_at "sw"; walk_at "vh"
    refine y_at hA (by decide +kernel) (by walk_at "hm") ?_
    walk_at "vh"
    refine x_ixT (pk hA) (show atI (PRow.take h).enc 1 = some (.int h) from rfl) ?_
    walk_at "vh"
    simp only [ID.deed] at o
    refine c_kind hA w (fun h8 => ?_) fun z => ?_
    · simp only [if_pos (show okH h from h8)] at o
      walk_at "vh"
      refine y_at hA (by decide +kernel) (by walk_at "hm") ?_
      walk_at "vh"
      refine c_take hA hl (fun e => ?_) fun x r e H hA => ?_
      · simp only [e] at o
        walk_at "vh"
        refine x_decT rfl ?_
        walk_at "vh"
        refine y_at hA (by decide +kernel) (by walk_at "hm") ?_
        walk_at "vh"
        refine x_ixT (pk hA) (show atI (PRow.take h).enc 1 = some (.int h) from rfl) ?_
        walk_at "vh"
        refine o_drop hA w ?_
        simp only [ID.deed, if_pos (show okH h from h8)]
        exact ⟨fun z H' h' => o.1 z H' h', o.2⟩
      · simp only [e] at o
        walk_at "vh"
        refine x_decF (fun z => by cases z) ?_
        walk_at "vh"
        refine y_at hA (by decide +kernel) (by walk_at "hm") ?_
        walk_at "vh"
        refine x_ixT (pk hA) (show atI (PRow.take h).enc 1 = some (.int h) from rfl) ?_
        walk_at "vh"
        have w' : ({ d with spoken := r } : ID).Wf := ⟨w.asc, w.lt, w.h8, w.n8, w.f6, w.hv, w.fv, w.nv, w.gs, w.wl, w.lm⟩
        exact o_number hA w' ⟨fun z H' h' => o.1 z H' h', o.2⟩
    · simp only [if_neg (show ¬ okH h from z)] at o
      exact o.err H hA
  | _ => exfalso; revert hv; simp only [PRow.enc, List.head?_cons, Option.some.injEq, V.str.injEq]; decide +kernel
/-- what is said of a row that goes on elsewhere -/
theorem c_do_plain {a : Addr} {d : ID} {p : PT_} {row : PRow} (hA : At K a d R H) (w : d.Wf) (hl : d.spoken.length ≤ 1000000) (hk : Kp K R p) (ep : p.d = row.enc) (hp : row.plain = true) (o : Out K a R (d.deed row) Q E) : sp_do_plain K [.ref a, p.v] H Q E := by
  refine i_do_plain ?_
  unfold t_do_plain
  have pk : ∀ {d' : ID} {H' : Hp}, At K a d' R H' → SqT K H' p.a row.enc := fun h' => SqT.of (by rw [← ep]; exact hk.at_ h')
  have dv : (row.enc.head? = some (.str "word") ∨ row.enc.head? = some (.str "held") ∨ row.enc.head? = some (.str "add") ∨ row.enc.head? = some (.str "less") ∨ row.enc.head? = some (.str "take")) → ∀ {H : Hp} {Q' : VK} {E' : XK}, At K a d R H → Out K a R (d.deed row) Q' E' → sp_do_value K [.ref a, p.v] H Q' E' := fun hv H Q' E' hA o => c_do_value hA w hl hk ep hv o
  cases row with
  | make h n =>
    walk_at "vh"
    refine x_ixT (pk hA) (show atI (PRow.make h n).enc 0 = some (.str "make") from rfl) ?_
    walk_at "vh"; walk_at "sw"; walk_at "vh"
    refine y_at hA (by decide +kernel) (by walk_at "hm") ?_
    walk_at "vh"
    refine x_ixT (pk hA) (show atI (PRow.make h n).enc 1 = some (.int h) from rfl) ?_
    walk_at "vh"
    refine x_ixT (pk hA) (show atI (PRow.make h n).enc 2 = some (.int n) from rfl) ?_
    walk_at "vh"
    exact o_make hA w hl ⟨fun z H' h' => o.1 z H' h', o.2⟩
  | load h g k =>
    walk_at "vh"
    refine x_ixT (pk hA) (show atI (PRow.load h g k).enc 0 = some (.str "load") from rfl) ?_
    walk_at "vh"; walk_at "sw"; walk_at "vh"
    refine x_ixT (pk hA) (show atI (PRow.load h g k).enc 0 = some (.str "load") from rfl) ?_
    walk_at "vh"; walk_at "sw"; walk_at "vh"
    refine y_at hA (by decide +kernel) (by walk_at "hm") ?_
    walk_at "vh"
    refine x_ixT (pk hA) (show atI (PRow.load h g k).enc 1 = some (.int h) from rfl) ?_
    walk_at "vh"
    refine x_ixT (pk hA) (show atI (PRow.load h g k).enc 2 = some (.int g) from rfl) ?_
    walk_at "vh"
    refine x_ixT (pk hA) (show atI (PRow.load h g k).enc 3 = some (.int k) from rfl) ?_
    walk_at "vh"
    exact o_load hA w ⟨fun z H' h' => o.1 z H' h', o.2⟩
  | store g k h =>
    walk_at "vh"
    refine x_ixT (pk hA) (show atI (PRow.store g k h).enc 0 = some (.str "store") from rfl) ?_
    walk_at "vh"; walk_at "sw"; walk_at "vh"
    refine x_ixT (pk hA) (show atI (PRow.store g k h).enc 0 = some (.str "store") from rfl) ?_
    walk_at "vh"; walk_at "sw"; walk_at "vh"
    refine x_ixT (pk hA) (show atI (PRow.store g k h).enc 0 = some (.str "store") from rfl) ?_
    walk_at "vh"; walk_at "sw"; walk_at "vh"
    refine y_at hA (by decide +kernel) (by walk_at "hm") ?_
    walk_at "vh"
    refine x_ixT (pk hA) (show atI (PRow.store g k h).enc 1 = some (.int g) from rfl) ?_
    walk_at "vh"
    refine x_ixT (pk hA) (show atI (PRow.store g k h).enc 2 = some (.int k) from rfl) ?_
    walk_at "vh"
    refine x_ixT (pk hA) (show atI (PRow.store g k h).enc 3 = some (.int h) from rfl) ?_
    walk_at "vh"
    exact o_store hA w ⟨fun z H' h' => o.1 z H' h', o.2⟩
  | copy h g =>
    walk_at "vh"
    refine x_ixT (pk hA) (show atI (PRow.copy h g).enc 0 = some (.str "copy") from rfl) ?_
    walk_at "vh"; walk_at "sw"; walk_at "vh"
    refine x_ixT (pk hA) (show atI (PRow.copy h g).enc 0 = some (.str "copy") from rfl) ?_
    walk_at "vh"; walk_at "sw"; walk_at "vh"
    refine x_ixT (pk hA) (show atI (PRow.copy h g).enc 0 = some (.str "copy") from rfl) ?_
    walk_at "vh"; walk_at "sw"; walk_at "vh"
    refine x_ixT (pk hA) (show atI (PRow.copy h g).enc 0 = some (.str "copy") from rfl) ?_
    walk_at "vh"; walk_at "sw"; walk_at "vh"
    refine y_at hA (by decide +kernel) (by walk_at "hm") ?_
    walk_at "vh"
    refine x_ixT (pk hA) (show atI (PRow.copy h g).enc 1 = some (.int h) from rfl) ?_
    walk_at "vh"
    refine x_ixT (pk hA) (show atI (PRow.copy h g).enc 2 = some (.int g) from rfl) ?_
    walk_at "vh"
    exact o_copy hA w ⟨fun z H' h' => o.1 z H' h', o.2⟩
  | drop h =>
    walk_at "vh"
    refine x_ixT (pk hA) (show atI (PRow.drop h).enc 0 = some (.str "drop") from rfl) ?_
    walk_at "vh"; walk_at "sw"; walk_at "vh"
    refine x_ixT (pk hA) (show atI (PRow.drop h).enc 0 = some (.str "drop") from rfl) ?_
    walk_at "vh"; walk_at "sw"; walk_at "vh"
    refine x_ixT (pk hA) (show atI (PRow.drop h).enc 0 = some (.str "drop") from rfl) ?_
    walk_at "vh"; walk_at "sw"; walk_at "vh"
    refine x_ixT (pk hA) (show atI (PRow.drop h).enc 0 = some (.str "drop") from rfl) ?_
    walk_at "vh"; walk_at "sw"; walk_at "vh"
    refine x_ixT (pk hA) (show atI (PRow.drop h).enc 0 = some (.str "drop") from rfl) ?_
    walk_at "vh"; walk_at "sw"; walk_at "vh"
    refine y_at hA (by decide +kernel) (by walk_at "hm") ?_
    walk_at "vh"
    refine x_ixT (pk hA) (show atI (PRow.drop h).enc 1 = some (.int h) from rfl) ?_
    walk_at "vh"
    exact o_drop hA w ⟨fun z H' h' => o.1 z H' h', o.2⟩
  | number h x =>
    iterate 5
      walk_at "vh"
      refine x_ixT (pk hA) (show atI (PRow.number h x).enc 0 = some (.str "number") from rfl) ?_
      walk_at "vh"; walk_at "sw"
    walk_at "vh"
    refine x_ixT (pk hA) (show atI (PRow.number h x).enc 0 = some (.str "number") from rfl) ?_
    walk_at "vh"; walk_at "sw"; walk_at "vh"
    refine y_at hA (by decide +kernel) (by walk_at "hm") ?_
    walk_at "vh"
    refine x_ixT (pk hA) (show atI (PRow.number h x).enc 1 = some (.int h) from rfl) ?_
    walk_at "vh"
    refine x_ixT (pk hA) (show atI (PRow.number h x).enc 2 = some (.int x) from rfl) ?_
    walk_at "vh"
    exact o_number hA w ⟨fun z H' h' => o.1 z H' h', o.2⟩
  | name i h =>
    iterate 6
      walk_at "vh"
      refine x_ixT (pk hA) (show atI (PRow.name i h).enc 0 = some (.str "name") from rfl) ?_
      walk_at "vh"; walk_at "sw"
    walk_at "vh"
    refine x_ixT (pk hA) (show atI (PRow.name i h).enc 0 = some (.str "name") from rfl) ?_
    walk_at "vh"; walk_at "sw"; walk_at "vh"
    refine y_at hA (by decide +kernel) (by walk_at "hm") ?_
    walk_at "vh"
    refine x_ixT (pk hA) (show atI (PRow.name i h).enc 1 = some (.int i) from rfl) ?_
    walk_at "vh"
    refine x_ixT (pk hA) (show atI (PRow.name i h).enc 2 = some (.int h) from rfl) ?_
    walk_at "vh"
    exact o_name hA w ⟨fun z H' h' => o.1 z H' h', o.2⟩
  | read h i =>
    iterate 7
      walk_at "vh"
      refine x_ixT (pk hA) (show atI (PRow.read h i).enc 0 = some (.str "read") from rfl) ?_
      walk_at "vh"; walk_at "sw"
    walk_at "vh"
    refine x_ixT (pk hA) (show atI (PRow.read h i).enc 0 = some (.str "read") from rfl) ?_
    walk_at "vh"; walk_at "sw"; walk_at "vh"
    refine y_at hA (by decide +kernel) (by walk_at "hm") ?_
    walk_at "vh"
    refine x_ixT (pk hA) (show atI (PRow.read h i).enc 1 = some (.int h) from rfl) ?_
    walk_at "vh"
    refine x_ixT (pk hA) (show atI (PRow.read h i).enc 2 = some (.int i) from rfl) ?_
    walk_at "vh"
    exact o_read hA w ⟨fun z H' h' => o.1 z H' h', o.2⟩
  | word h g =>
    iterate 8
      walk_at "vh"
      refine x_ixT (pk hA) (show atI (PRow.word h g).enc 0 = some (.str "word") from rfl) ?_
      walk_at "vh"; walk_at "sw"
    walk_at "vh"
    exact dv (.inl rfl) hA ⟨fun z H' h' => o.1 z H' h', o.2⟩
  | held h =>
    iterate 8
      walk_at "vh"
      refine x_ixT (pk hA) (show atI (PRow.held h).enc 0 = some (.str "held") from rfl) ?_
      walk_at "vh"; walk_at "sw"
    walk_at "vh"
    exact dv (.inr (.inl rfl)) hA ⟨fun z H' h' => o.1 z H' h', o.2⟩
  | add h g =>
    iterate 8
      walk_at "vh"
      refine x_ixT (pk hA) (show atI (PRow.add h g).enc 0 = some (.str "add") from rfl) ?_
      walk_at "vh"; walk_at "sw"
    walk_at "vh"
    exact dv (.inr (.inr (.inl rfl))) hA ⟨fun z H' h' => o.1 z H' h', o.2⟩
  | less h g =>
    iterate 8
      walk_at "vh"
      refine x_ixT (pk hA) (show atI (PRow.less h g).enc 0 = some (.str "less") from rfl) ?_
      walk_at "vh"; walk_at "sw"
    walk_at "vh"
    exact dv (.inr (.inr (.inr (.inl rfl)))) hA ⟨fun z H' h' => o.1 z H' h', o.2⟩
  | take h =>
    iterate 8
      walk_at "vh"
      refine x_ixT (pk hA) (show atI (PRow.take h).enc 0 = some (.str "take") from rfl) ?_
      walk_at "vh"; walk_at "sw"
    walk_at "vh"
    exact dv (.inr (.inr (.inr (.inr rfl)))) hA ⟨fun z H' h' => o.1 z H' h', o.2⟩
  | _ => exact absurd hp Bool.false_ne_true
end PI

set_option Elab.async false
set_option linter.all false
set_option maxRecDepth 100000
set_option maxHeartbeats 1000000
namespace PI
open PySem PySem.Spec PyProof.Rows L2 SX0 R_k82
variable {K : PySem.W.Frag} {H : Hp} {Q : VK} {E : XK} {R A : List Chunk} {σ : L2.St} {D : Ends}
theorem At.split {a : Addr} {d : ID} (h : At K a d R H) : ∃ c, Hs H (c :: R) ∧ ∀ R' H', Hs H' (c :: R') → At K a d R' H' := by
  obtain ⟨s, e1, e2, hh⟩ := h
  exact ⟨s.c K, hh, fun R' H' h' => ⟨s, e1, e2, h'⟩⟩
/-! ### what is said; where it goes on -/
def ID.said (d : ID) (h : Int) : Option (List V) := if okH h then some (match d.hand h with | .non => [.str "none"] | .num x => [.str "number", .int x] | .thg t => [.str "thing", .int (d.fsOf t).length]) else none
def ID.goes (d : ID) : PRow → Option Bool
  | .same h g _ => if okH h ∧ okH g then some (decide (d.hand h = d.hand g)) else none
  | .below h g _ => match d.nu h, d.nu g with
    | some x, some y => some (decide (x < y))
    | _, _ => none
  | .thing h _ => if okH h then some (decide (kindS (d.hand h) = "thing")) else none
  | _ => some true
theorem c_said_of {a : Addr} {d : ID} {h : Int} (hA : At K a d R H) (w : d.Wf) (h1 : ∀ xs, d.said h = some xs → ∀ p H', At K a d ([(p, .tup xs)] :: R) H' → Q (.ref p) H') (h2 : d.said h = none → E (Ex K "BadHand") none H) : sp_said_of K [.ref a, .int h] H Q E := by
  refine i_said_of ?_
  unfold t_said_of
  unfold ID.said at h1 h2
  walk_at "vh"
  refine y_at hA (by decide +kernel) (by walk_at "hm") ?_
  walk_at "vh"
  refine c_kind hA w (fun h8 => ?_) fun z => h2 (if_neg z)
  simp only [if_pos (show okH h from h8)] at h1
  obtain ⟨c, hh, mk⟩ := hA.split
  have tup : ∀ (xs : List V), (some (match d.hand h with | .non => [V.str "none"] | .num x => [.str "number", .int x] | .thg t => [.str "thing", .int (d.fsOf t).length]) = some xs) → ∀ p H', Hs H' ([(p, .tup xs)] :: c :: R) → Q (.ref p) H' := fun xs e p H' h' => h1 xs e p H' (mk _ _ (h'.to (by simp only [List.flatten_cons]; exact List.perm_append_comm_assoc _ _ _)))
  cases eh : d.hand h with
  | non =>
    rw [eh] at tup
    rw [show kindS Val.non = "none" from rfl]
    walk_at "vh"; walk_at "sw"; walk_at "vh"; walk_at "sw"; walk_at "vh"
    exact y_tup hh fun p H' hh => tup _ rfl p H' hh
  | num x =>
    rw [eh] at tup
    rw [show kindS (Val.num x) = "number" from rfl]
    walk_at "vh"; walk_at "sw"; walk_at "vh"
    refine y_at hA (by decide +kernel) (by walk_at "hm") ?_
    walk_at "vh"
    refine o_value hA w (fun y e => ?_) fun e => ?_
    · rw [nu_of h8 eh] at e
      cases e
      walk_at "vh"
      exact y_tup hh fun p H' hh => tup _ rfl p H' hh
    · rw [nu_of h8 eh] at e; cases e
  | thg t =>
    rw [eh] at tup
    rw [show kindS (Val.thg t) = "thing" from rfl]
    walk_at "vh"; walk_at "sw"; walk_at "vh"; walk_at "sw"; walk_at "vh"
    refine y_at hA (by decide +kernel) (by walk_at "hm") ?_
    walk_at "vh"
    refine c_fields hA w (fun _ u e => ?_) fun z => absurd ⟨h8.1, h8.2, t, eh⟩ z
    rw [eh] at e
    cases e
    walk_at "vh"
    exact y_tup hh fun p H' hh => tup _ rfl p H' hh
theorem c_goes_on {a : Addr} {d : ID} {p : PT_} {row : PRow} (hA : At K a d R H) (w : d.Wf) (hk : Kp K R p) (ep : p.d = row.enc) (hg : wordR row.enc ∈ (["go", "same", "below", "thing"] : List Str)) (h1 : ∀ b, d.goes row = some b → Q (.bl b) H) (h2 : d.goes row = none → E (Ex K "BadHand") none H) : sp_goes_on K [.ref a, p.v] H Q E := by
  refine i_goes_on ?_
  unfold t_goes_on
  have pk : SqT K H p.a row.enc := SqT.of (by rw [← ep]; exact hk.at_ hA)
  cases row with
  | same h g m =>
    walk_at "vh"
    refine x_ixT pk (show atI (PRow.same h g m).enc 0 = some (.str "same") from rfl) ?_
    walk_at "vh"; walk_at "sw"; walk_at "vh"
    refine y_at hA (by decide +kernel) (by walk_at "hm") ?_
    walk_at "vh"
    refine x_ixT pk (show atI (PRow.same h g m).enc 1 = some (.int h) from rfl) ?_
    walk_at "vh"
    refine x_ixT pk (show atI (PRow.same h g m).enc 2 = some (.int g) from rfl) ?_
    walk_at "vh"
    simp only [ID.goes] at h1 h2
    exact c_same hA w (fun h8 g8 => h1 _ (if_pos ⟨h8, g8⟩)) fun z => h2 (if_neg z)
  | below h g m =>
    iterate 1
      walk_at "vh"
      refine x_ixT pk (show atI (PRow.below h g m).enc 0 = some (.str "below") from rfl) ?_
      walk_at "vh"; walk_at "sw"
    walk_at "vh"
    refine x_ixT pk (show atI (PRow.below h g m).enc 0 = some (.str "below") from rfl) ?_
    walk_at "vh"; walk_at "sw"; walk_at "vh"
    refine y_at hA (by decide +kernel) (by walk_at "hm") ?_
    walk_at "vh"
    refine x_ixT pk (show atI (PRow.below h g m).enc 1 = some (.int h) from rfl) ?_
    walk_at "vh"
    simp only [ID.goes] at h1 h2
    refine o_value hA w (fun x e => ?_) fun e => h2 (by rw [e])
    walk_at "vh"
    refine y_at hA (by decide +kernel) (by walk_at "hm") ?_
    walk_at "vh"
    refine x_ixT pk (show atI (PRow.below h g m).enc 2 = some (.int g) from rfl) ?_
    walk_at "vh"
    refine o_value hA w (fun y e2 => ?_) fun e2 => h2 (by rw [e, e2])
    walk_at "vh"
    exact h1 _ (by rw [e, e2])
  | thing h m =>
    iterate 2
      walk_at "vh"
      refine x_ixT pk (show atI (PRow.thing h m).enc 0 = some (.str "thing") from rfl) ?_
      walk_at "vh"; walk_at "sw"
    walk_at "vh"
    refine x_ixT pk (show atI (PRow.thing h m).enc 0 = some (.str "thing") from rfl) ?_
    walk_at "vh"; walk_at "sw"; walk_at "vh"
    refine y_at hA (by decide +kernel) (by walk_at "hm") ?_
    walk_at "vh"
    refine x_ixT pk (show atI (PRow.thing h m).enc 1 = some (.int h) from rfl) ?_
    walk_at "vh"
    simp only [ID.goes] at h1 h2
    refine c_kind hA w (fun h8 => ?_) fun z => h2 (if_neg z)
    walk_at "vh"
    rw [decStr]
    exact h1 _ (if_pos h8)
  | go m =>
    iterate 3
      walk_at "vh"
      refine x_ixT pk (show atI (PRow.go m).enc 0 = some (.str "go") from rfl) ?_
      walk_at "vh"; walk_at "sw"
    walk_at "vh"
    exact h1 true rfl
  | _ => exfalso; revert hg; simp only [PRow.enc, wordR]; decide +kernel
/-! ### runs -/
structure RS where
  self : Addr
  dx : Addr
  pl : Addr
  ln : Addr
  pr : Addr
  hall : Addr
  prog : List PT_
  spot : Int
  done : Int
  lines : List PT_
  broken : Option Str
abbrev RC (K : PySem.W.Frag) : Addr := He.ga K "Running"
def RS.fs (s : RS) : List (Str × V) := [("program", .ref s.pr), ("hall", .ref s.hall), ("places", .ref s.pl), ("spot", .int s.spot), ("rows_done", .int s.done), ("lines", .ref s.ln), ("broken", oS s.broken)]
def RS.L (K : PySem.W.Frag) (s : RS) : List Chunk := [[(s.self, .ins (RC K) s.dx s.fs)], [(s.pl, .dK (kvM (mks (s.prog.map (·.d)))))], [(s.ln, .lst (s.lines.map PV.v))], [(s.pr, .tup (s.prog.map PV.v))], vcs s.prog, vcs s.lines]
def RS.c (K : PySem.W.Frag) (s : RS) : Chunk := (s.L K).flatten
structure RD where
  spot : Int
  done : Int
  lines : List (List V)
  broken : Option Str
def RS.d (s : RS) : RD := ⟨s.spot, s.done, s.lines.map (·.d), s.broken⟩
/-- a run of some rows on a heap -/
def Run (K : PySem.W.Frag) (a h : Addr) (rows : List PRow) (r : RD) (d : ID) (R : List Chunk) (H : Hp) : Prop :=
  ∃ s : RS, s.self = a ∧ s.hall = h ∧ s.prog.map (·.d) = rows.map PRow.enc ∧ s.d = r ∧ At K h d (s.c K :: R) H
theorem RS.op2 {s : RS} {c : Chunk} (h : Hs H (c :: s.c K :: R)) : Hs H (s.L K ++ (c :: R)) := h.to (by
  simp only [RS.c, List.flatten_cons, List.flatten_append]
  exact List.perm_append_comm_assoc _ _ _)
theorem RS.cl2 {s : RS} {c : Chunk} (h : Hs H (s.L K ++ (c :: R))) : Hs H (c :: s.c K :: R) := h.to (by
  simp only [RS.c, List.flatten_cons, List.flatten_append]
  exact List.perm_append_comm_assoc _ _ _)
theorem lkR (s : RS) : True := True.intro
theorem oS_non (o : Option Str) : decide (oS o = .non) = decide (o = none) := by cases o <;> simp [oS]
def RD.at_ (r : RD) (n : Nat) : Option Int := if r.broken = none ∧ r.spot < n then some r.spot else none
theorem c_at {a h : Addr} {rows : List PRow} {r : RD} {d : ID} (hR : Run K a h rows r d R H) (h1 : Q (oV (r.at_ rows.length)) H) : sp_Running_at K [.ref a] H Q E := by
  obtain ⟨s, rfl, rfl, ep, rfl, hA⟩ := hR
  obtain ⟨c, hh, mk⟩ := hA.split
  replace hh := RS.op2 hh
  have pl : s.prog.length = rows.length := by have := congrArg List.length ep; simpa using this
  refine i_Running_at ?_
  unfold t_Running_at
  unfold RD.at_ at h1
  walk_at "vh"
  rw [oS_non]
  cases eb : s.broken with
  | some b =>
    refine x_ndecT (fun z => by cases z) ?_
    walk_at "vh"
    rw [if_neg (fun z => by have : s.broken = none := z.1; rw [eb] at this; cases this)] at h1
    exact h1
  | none =>
    refine x_ndecF rfl ?_
    walk_at "vh"
    refine x_lenT (SqT.of (hh.g 3 rfl)) ?_
    rw [List.length_map]
    walk_at "vh"
    refine x_ite (fun b => ?_) fun b => ?_
    · walk_at "vh"
      rw [if_neg (fun z => by have : s.spot < rows.length := z.2; omega)] at h1
      exact h1
    · walk_at "vh"
      rw [if_pos ⟨eb, by show s.spot < rows.length; omega⟩] at h1
      exact h1
theorem c_steps {a h : Addr} {rows : List PRow} {r : RD} {d : ID} (hR : Run K a h rows r d R H) (h1 : Q (.int r.done) H) : sp_Running_steps K [.ref a] H Q E := by
  obtain ⟨s, rfl, rfl, ep, rfl, hA⟩ := hR
  obtain ⟨c, hh, mk⟩ := hA.split
  replace hh := RS.op2 hh
  refine i_Running_steps ?_
  unfold t_Running_steps
  walk_at "vh"
  exact h1
theorem Run.spotI {a h : Addr} : True := True.intro
/-- where a mark stands -/
def placeOf (rows : List PRow) (m : Str) : Int := ((mks (rows.map PRow.enc)).lookup m).getD 0
def PRow.mark? : PRow → Option Str
  | .go m => some m
  | .same _ _ m => some m
  | .below _ _ m => some m
  | .thing _ m => some m
  | _ => none
def RD.goTo (r : RD) (k : Int) : RD := { r with spot := k }
/-- what a row does: a heap and a run behind it, or a fault -/
noncomputable def rowDone (rows : List PRow) (row : PRow) (d : ID) (r : RD) : ID × Except Str RD :=
  match row with
  | .say h => match d.said h with
    | some xs => (d, .ok { r with lines := r.lines ++ [xs], spot := r.spot + 1 })
    | none => (d, .error "BadHand")
  | .stop => (d, .ok (r.goTo rows.length))
  | .mark _ => (d, .ok (r.goTo (r.spot + 1)))
  | row => match row.mark? with
    | some m => (match d.goes row with
      | some true => (d, .ok (r.goTo (placeOf rows m)))
      | some false => (d, .ok (r.goTo (r.spot + 1)))
      | none => (d, .error "BadHand"))
    | none => match d.deed row with
      | (d', none) => (d', .ok (r.goTo (r.spot + 1)))
      | (d', some n) => (d', .error n)
/-- the marks that rows tell are there -/
def MarksOk (rows : List PRow) : Prop := ∀ row ∈ rows, ∀ m, row.mark? = some m → m ∈ (mks (rows.map PRow.enc)).map (·.1)
theorem place_some {rows : List PRow} {m : Str} (h : m ∈ (mks (rows.map PRow.enc)).map (·.1)) : (mks (rows.map PRow.enc)).lookup m = some (placeOf rows m) := by
  unfold placeOf
  have := look_some (mks (rows.map PRow.enc)) m
  rw [decide_eq_true h] at this
  cases q : (mks (rows.map PRow.enc)).lookup m with
  | none => rw [q] at this; cases this
  | some x => rfl
end PI

set_option Elab.async false
set_option linter.all false
set_option maxRecDepth 100000
set_option maxHeartbeats 2000000
namespace PI
open PySem PySem.Spec PyProof.Rows L2 SX0 R_k82
variable {K : PySem.W.Frag} {H : Hp} {Q : VK} {E : XK} {R A : List Chunk} {σ : L2.St} {D : Ends} {s : RS}
def PRow.wd : PRow → Str
  | .make _ _ => "make" | .load _ _ _ => "load" | .store _ _ _ => "store" | .copy _ _ => "copy" | .drop _ => "drop" | .number _ _ => "number" | .name _ _ => "name" | .read _ _ => "read" | .word _ _ => "word"
  | .take _ => "take" | .held _ => "held" | .add _ _ => "add" | .less _ _ => "less" | .mark _ => "mark" | .go _ => "go" | .same _ _ _ => "same" | .below _ _ _ => "below" | .thing _ _ => "thing" | .say _ => "say" | .stop => "stop"
theorem wd_eq (row : PRow) : wordR row.enc = row.wd := by cases row <;> rfl
local macro_rules | `(tactic| walk_at "swd") => `(tactic| ((try dsimp only [PRow.wd]); walk_at "sw"))
theorem RS.kp {p : PT_} (hp : p ∈ s.prog) : Kp K (s.c K :: R) p := fun c H' h' => PV.ok_of (RS.op2 h') 4 rfl hp
/-- the cell of the run itself -/
theorem RS.ob {d : ID} {a : Addr} (hA : At K a d (s.c K :: R) H) : H s.self = some (.ins (RC K) s.dx s.fs) := by
  obtain ⟨c, hh, _⟩ := hA.split
  exact (RS.op2 hh).g 0 rfl
/-- the end: the spot is set -/
theorem set_spot {d : ID} {rows : List PRow} {k : Int} (hA : At K s.hall d (s.c K :: R) H) (ep : s.prog.map (·.d) = rows.map PRow.enc) {P : Hp → Prop} (h : ∀ H', Run K s.self s.hall rows (s.d.goTo k) d R H' → P H') : gSFd [He.ga K "Running"] "spot" (.int k) (.ref s.self) H P := by
  obtain ⟨c, hh, mk⟩ := hA.split
  replace hh := RS.op2 hh
  refine y_sfd hh 0 rfl (by walk_at "hm") (by show (7 : Nat) < 1000; decide) fun H' hh => ?_
  refine h H' ⟨{ s with spot := k }, rfl, rfl, ep, rfl, mk _ _ (RS.cl2 ?_)⟩
  exact hh
theorem enc_word (row : PRow) : row.enc = .str (wordR row.enc) :: row.enc.tail := by cases row <;> rfl
theorem c_do_row {d : ID} {rows : List PRow} {row : PRow} {p : PT_} (hA : At K s.hall d (s.c K :: R) H) (w : d.Wf) (hl : d.spoken.length ≤ 1000000) (ll : s.lines.length ≤ 1000000) (hp : p ∈ s.prog) (ep : p.d = row.enc) (es : s.prog.map (·.d) = rows.map PRow.enc)
    (mo : ∀ m, row.mark? = some m → m ∈ (mks (rows.map PRow.enc)).map (·.1)) (hk : ∀ d' r', rowDone rows row d s.d = (d', .ok r') → ∀ H', Run K s.self s.hall rows r' d' R H' → Q .non H')
    (he : ∀ d' n, rowDone rows row d s.d = (d', .error n) → ∀ H', Run K s.self s.hall rows s.d d' R H' → E (Ex K n) none H') : sp_Running_do_row K [.ref s.self, p.v] H Q E := by
  have kp := RS.kp (K := K) (R := R) hp
  have pk : ∀ {d' : ID} {H' : Hp}, At K s.hall d' (s.c K :: R) H' → SqT K H' p.a row.enc := fun h' => SqT.of (by rw [← ep]; exact kp.at_ h')
  have pl : s.prog.length = rows.length := by have := congrArg List.length es; simpa using this
  have ob := RS.ob hA
  have e0 : atI row.enc 0 = some (.str row.wd) := by rw [enc_word, wd_eq]; exact atI_at (n := 0) rfl
  refine i_Running_do_row ?_
  unfold t_Running_do_row
  walk_at "vh"
  refine y_fd ob (by walk_at "hm") rfl ?_
  walk_at "vh"
  refine x_ixT (pk hA) e0 ?_
  walk_at "vh"
  have fin : ∀ {k : Int} {d' : ID} {H : Hp}, At K s.hall d' (s.c K :: R) H → rowDone rows row d s.d = (d', .ok (s.d.goTo k)) → gSFd [He.ga K "Running"] "spot" (.int k) (.ref s.self) H fun H' => Q .non H' := fun hA er => set_spot hA es fun H' hR => hk _ _ er H' hR
  have jump : ∀ m, row.mark? = some m → wordR row.enc ∈ (["go", "same", "below", "thing"] : List Str) → atI row.enc (-1) = some (.str m) → (rowDone rows row d s.d = match d.goes row with
      | some true => (d, .ok (s.d.goTo (placeOf rows m)))
      | some false => (d, .ok (s.d.goTo (s.d.spot + 1)))
      | none => (d, .error "BadHand")) → ∀ {H : Hp}, At K s.hall d (s.c K :: R) H →
      (tIfS (tB (tCallS (sp_goes_on K) (WE (WD E)) (tCons (tFd [He.ga K "Running"] "hall" (tVar 0)) (tCons (tVar 1) tNil)))) (tAsg (tDGet (tFd [He.ga K "Running"] "places" (tVar 0)) (tOp (rIxT K) (tVar 1) (tUn oNeg (tC (.int 1))))) (gName 2)) tNext) { nx := sFd [He.ga K "Running"] (tVar 0) (tVar 2) "spot" { nx := fun _ H' => Q .non H', rt := Q }, rt := Q } [some (.ref s.self), some p.v, some (.int (s.spot + 1))] H := by
    intro m em hw el er H hA
    walk_at "vh"
    refine y_fd (RS.ob hA) (by walk_at "hm") rfl ?_
    walk_at "vh"
    refine c_goes_on hA w kp ep hw (fun b eb => ?_) fun eb => ?_
    · refine x_bl ?_
      rw [eb] at er
      cases b with
      | true =>
        refine x_iteT ?_
        walk_at "vh"
        refine y_fd (RS.ob hA) (by walk_at "hm") rfl ?_
        walk_at "vh"
        refine x_ixT (pk hA) (show atI row.enc (-1) = some (.str m) from el) ?_
        obtain ⟨c, hh, mk⟩ := hA.split
        replace hh := RS.op2 hh
        refine x_dgetS (.inl (hh.g 1 rfl)) (show _ = some (V.int (placeOf rows m)) by rw [val_kvM, es, place_some (mo m em)]; rfl) ?_
        walk_at "vh"
        exact fin hA er
      | false =>
        refine x_iteF ?_
        walk_at "vh"
        exact fin hA er
    · rw [eb] at er
      exact he _ _ er H ⟨s, rfl, rfl, es, rfl, hA⟩
  have plain : row.plain = true → (rowDone rows row d s.d = match d.deed row with
      | (d', none) => (d', .ok (s.d.goTo (s.d.spot + 1)))
      | (d', some n) => (d', .error n)) → ∀ {H : Hp}, At K s.hall d (s.c K :: R) H →
      (tDrop (tCallS (sp_do_plain K) (WE (WD E)) (tCons (tFd [He.ga K "Running"] "hall" (tVar 0)) (tCons (tVar 1) tNil)))) { nx := sFd [He.ga K "Running"] (tVar 0) (tVar 2) "spot" { nx := fun _ H' => Q .non H', rt := Q }, rt := Q } [some (.ref s.self), some p.v, some (.int (s.spot + 1))] H := by
    intro hp2 er H hA
    walk_at "vh"
    refine y_fd (RS.ob hA) (by walk_at "hm") rfl ?_
    walk_at "vh"
    refine c_do_plain hA w hl kp ep hp2 ⟨fun e H' hA' => ?_, fun n e H' hA' => ?_⟩
    · rw [show d.deed row = ((d.deed row).1, (d.deed row).2) from rfl, e] at er
      walk_at "vh"
      exact fin hA' er
    · rw [show d.deed row = ((d.deed row).1, (d.deed row).2) from rfl, e] at er
      exact he _ _ er H' ⟨s, rfl, rfl, es, rfl, hA'⟩
  cases row with
  | say h =>
    walk_at "swd"; walk_at "vh"
    refine y_fd ob (by walk_at "hm") rfl ?_
    obtain ⟨c, hh, mk⟩ := hA.split
    have hh0 := RS.op2 hh
    refine ⟨x_tyL (hh0.g 2 rfl), ?_⟩
    walk_at "vh"
    refine y_fd ob (by walk_at "hm") rfl ?_
    walk_at "vh"
    refine x_ixT (pk hA) (show atI (PRow.say h).enc 1 = some (.int h) from rfl) ?_
    walk_at "vh"
    refine c_said_of hA w (fun xs ex q H hA2 => ?_) fun ex => ?_
    · obtain ⟨c2, h2, mk2⟩ := hA2.split
      have h3 : Hs H ([(q, .tup xs)] :: (s.L K ++ (c2 :: R))) := by
        refine h2.to ?_
        simp only [RS.c, List.flatten_cons, List.flatten_append]
        refine (List.Perm.append_left _ (List.perm_append_comm_assoc _ _ _)).trans ?_
        exact List.perm_append_comm_assoc _ _ _
      walk_at "vh"
      refine y_append (v := .ref q) h3 3 rfl (by rw [List.length_map]; exact sl' (m := 1000001) (by omega)) fun H h4 => ?_
      have e1 : s.lines.map PV.v ++ [V.ref q] = (s.lines ++ [(⟨xs, q⟩ : PT_)]).map PV.v := by simp [PT_.v_]
      rw [e1] at h4
      have h5 : Hs H (({ s with lines := s.lines ++ [⟨xs, q⟩] } : RS).L K ++ (c2 :: R)) := by
        have h6 : Hs H ([(q, .tup xs)] :: [(s.self, .ins (RC K) s.dx s.fs)] :: [(s.pl, .dK (kvM (mks (s.prog.map (·.d)))))] :: [(s.ln, .lst ((s.lines ++ [(⟨xs, q⟩ : PT_)]).map PV.v))] :: [(s.pr, .tup (s.prog.map PV.v))] :: vcs s.prog :: vcs s.lines :: (c2 :: R)) := h4
        have h7 := Hs.pick (L := [[(q, .tup xs)], [(s.self, .ins (RC K) s.dx s.fs)], [(s.pl, .dK (kvM (mks (s.prog.map (·.d)))))], [(s.ln, .lst ((s.lines ++ [(⟨xs, q⟩ : PT_)]).map PV.v))], [(s.pr, .tup (s.prog.map PV.v))], vcs s.prog, vcs s.lines]) (R := c2 :: R) h6 [1, 2, 3, 4, 5, 6, 0]
        refine h7.eq ?_
        simp only [RS.L, List.map_cons, List.map_nil, List.getD_cons_zero, List.getD_cons_succ, List.cons_append, List.nil_append, List.flatten_cons, vcs_app, List.append_assoc]
        simp [vcs, PT_.c_, RS.fs]
      walk_at "vh"
      have hA3 : At K ({ s with lines := s.lines ++ [⟨xs, q⟩] } : RS).hall d (({ s with lines := s.lines ++ [⟨xs, q⟩] } : RS).c K :: R) H := mk2 _ _ (RS.cl2 h5)
      refine set_spot (s := { s with lines := s.lines ++ [⟨xs, q⟩] }) hA3 es fun H' hR => hk d _ ?_ H' hR
      simp only [rowDone, ex]
      simp [RS.d, RD.goTo]
    · refine he d "BadHand" (by simp only [rowDone, ex]) H ⟨s, rfl, rfl, es, rfl, hA⟩
  | stop =>
    walk_at "swd"; walk_at "vh"
    refine x_ixT (pk hA) e0 ?_
    walk_at "vh"; walk_at "swd"; walk_at "vh"
    refine y_fd ob (by walk_at "hm") rfl ?_
    walk_at "vh"
    obtain ⟨c, hh, mk⟩ := hA.split
    refine x_lenT (SqT.of ((RS.op2 hh).g 3 rfl)) ?_
    rw [List.length_map, pl]
    walk_at "vh"
    exact fin hA rfl
  | mark m =>
    walk_at "swd"; walk_at "vh"
    refine x_ixT (pk hA) e0 ?_
    walk_at "vh"; walk_at "swd"; walk_at "vh"
    refine x_ixT (pk hA) e0 ?_
    walk_at "vh"
    obtain ⟨c, hh, mk⟩ := hA.split
    refine y_tup hh fun q H hh => ?_
    refine s_inT (l := ["go", "same", "below", "thing"]) (SqT.of (hh.g 0 rfl)) ?_
    replace hA := mk _ _ hh.tail
    refine x_bl ?_
    walk_at "swd"; walk_at "vh"
    refine x_ixT (pk hA) e0 ?_
    walk_at "vh"
    refine x_ndecF (by dsimp only [PRow.wd]) ?_
    walk_at "vh"
    exact fin hA rfl
  | go m =>
    walk_at "swd"; walk_at "vh"
    refine x_ixT (pk hA) e0 ?_
    walk_at "vh"; walk_at "swd"; walk_at "vh"
    refine x_ixT (pk hA) e0 ?_
    walk_at "vh"
    obtain ⟨c, hh, mk⟩ := hA.split
    refine y_tup hh fun q H hh => ?_
    refine s_inT (l := ["go", "same", "below", "thing"]) (SqT.of (hh.g 0 rfl)) ?_
    replace hA := mk _ _ hh.tail
    refine x_bl ?_
    walk_at "swd"
    exact jump m rfl (by rw [wd_eq]; dsimp only [PRow.wd]; decide +kernel) rfl rfl hA
  | same h g m =>
    walk_at "swd"; walk_at "vh"
    refine x_ixT (pk hA) e0 ?_
    walk_at "vh"; walk_at "swd"; walk_at "vh"
    refine x_ixT (pk hA) e0 ?_
    walk_at "vh"
    obtain ⟨c, hh, mk⟩ := hA.split
    refine y_tup hh fun q H hh => ?_
    refine s_inT (l := ["go", "same", "below", "thing"]) (SqT.of (hh.g 0 rfl)) ?_
    replace hA := mk _ _ hh.tail
    refine x_bl ?_
    walk_at "swd"
    exact jump m rfl (by rw [wd_eq]; dsimp only [PRow.wd]; decide +kernel) rfl rfl hA
  | below h g m =>
    walk_at "swd"; walk_at "vh"
    refine x_ixT (pk hA) e0 ?_
    walk_at "vh"; walk_at "swd"; walk_at "vh"
    refine x_ixT (pk hA) e0 ?_
    walk_at "vh"
    obtain ⟨c, hh, mk⟩ := hA.split
    refine y_tup hh fun q H hh => ?_
    refine s_inT (l := ["go", "same", "below", "thing"]) (SqT.of (hh.g 0 rfl)) ?_
    replace hA := mk _ _ hh.tail
    refine x_bl ?_
    walk_at "swd"
    exact jump m rfl (by rw [wd_eq]; dsimp only [PRow.wd]; decide +kernel) rfl rfl hA
  | thing h m =>
    walk_at "swd"; walk_at "vh"
    refine x_ixT (pk hA) e0 ?_
    walk_at "vh"; walk_at "swd"; walk_at "vh"
    refine x_ixT (pk hA) e0 ?_
    walk_at "vh"
    obtain ⟨c, hh, mk⟩ := hA.split
    refine y_tup hh fun q H hh => ?_
    refine s_inT (l := ["go", "same", "below", "thing"]) (SqT.of (hh.g 0 rfl)) ?_
    replace hA := mk _ _ hh.tail
    refine x_bl ?_
    walk_at "swd"
    exact jump m rfl (by rw [wd_eq]; dsimp only [PRow.wd]; decide +kernel) rfl rfl hA
  | _ =>
    walk_at "swd"; walk_at "vh"
    refine x_ixT (pk hA) e0 ?_
    walk_at "vh"; walk_at "swd"; walk_at "vh"
    refine x_ixT (pk hA) e0 ?_
    walk_at "vh"
    obtain ⟨c, hh, mk⟩ := hA.split
    refine y_tup hh fun q H hh => ?_
    refine s_inT (l := ["go", "same", "below", "thing"]) (SqT.of (hh.g 0 rfl)) ?_
    replace hA := mk _ _ hh.tail
    refine x_bl ?_
    walk_at "swd"; walk_at "vh"
    refine x_ixT (pk hA) e0 ?_
    walk_at "vh"
    refine x_ndecT (by dsimp only [PRow.wd]; decide +kernel) ?_
    exact plain rfl rfl hA
end PI

set_option Elab.async false
set_option linter.all false
set_option maxRecDepth 100000
set_option maxHeartbeats 2000000
namespace PI
open PySem PySem.Spec PyProof.Rows L2 SX0 R_k82
variable {K : PySem.W.Frag} {H : Hp} {Q : VK} {E : XK} {R A : List Chunk} {σ : L2.St} {D : Ends} {s : RS}
/-! ### faults -/
def ERRS : List Str := ["BadHand", "BadName", "BadField", "BadCount", "NoRoom", "TooManyWords"]
theorem numR_err {d : ID} {h x : Int} {n : Str} (e : (d.numR h x).2 = some n) : n ∈ ERRS := by
  unfold ID.numR at e
  repeat' split at e
  all_goals first | (cases e; decide +kernel) | cases e
theorem wordR_err {d : ID} {h x : Int} {n : Str} (e : (d.wordR h x).2 = some n) : n ∈ ERRS := by
  unfold ID.wordR at e
  repeat' split at e
  all_goals first | (cases e; decide +kernel) | cases e
theorem deed_err {d : ID} {row : PRow} {n : Str} (e : (d.deed row).2 = some n) : n ∈ ERRS := by
  cases row with
  | number h x => exact numR_err (by simpa only [ID.deed] using e)
  | held h => exact numR_err (by simpa only [ID.deed] using e)
  | word h g =>
    simp only [ID.deed] at e
    split at e
    · cases e; decide +kernel
    · exact wordR_err e
  | add h g =>
    simp only [ID.deed] at e
    split at e
    · exact numR_err e
    · cases e; decide +kernel
  | less h g =>
    simp only [ID.deed] at e
    split at e
    · exact numR_err e
    · cases e; decide +kernel
  | take h =>
    simp only [ID.deed] at e
    split at e
    · split at e
      · cases e
      · exact numR_err e
    · cases e; decide +kernel
  | _ =>
    simp only [ID.deed] at e
    repeat' split at e
    all_goals first | (cases e; decide +kernel) | cases e
theorem row_err {rows : List PRow} {row : PRow} {d d' : ID} {r : RD} {n : Str} (e : rowDone rows row d r = (d', .error n)) : n ∈ ERRS := by
  have bad : ("BadHand" : Str) ∈ ERRS := by decide +kernel
  cases row with
  | say h =>
    simp only [rowDone] at e
    split at e
    · cases e
    · cases e; exact bad
  | stop => simp only [rowDone] at e; cases e
  | mark m => simp only [rowDone] at e; cases e
  | go m => simp only [rowDone, PRow.mark?] at e; split at e <;> first | cases e; exact bad | cases e
  | same h g m => simp only [rowDone, PRow.mark?] at e; split at e <;> first | (cases e; exact bad) | cases e
  | below h g m => simp only [rowDone, PRow.mark?] at e; split at e <;> first | (cases e; exact bad) | cases e
  | thing h m => simp only [rowDone, PRow.mark?] at e; split at e <;> first | (cases e; exact bad) | cases e
  | _ =>
    simp only [rowDone, PRow.mark?] at e
    split at e
    · cases e
    · rename_i d2 n2 q
      cases e
      exact deed_err (by rw [q])
theorem exm_of (pf : PF K) {n : Str} (h : n ∈ ERRS) : PySem.W.exmOne K (Ex K n) (.ref (He.ga K "HeapError")) = some true := by
  simp only [ERRS, List.mem_cons, List.mem_nil_iff, or_false] at h
  rcases h with h | h | h | h | h | h <;> subst h
  · exact pf.exm_BadHand_HeapError
  · exact pf.exm_BadName_HeapError
  · exact pf.exm_BadField_HeapError
  · exact pf.exm_BadCount_HeapError
  · exact pf.exm_NoRoom_HeapError
  · exact pf.exm_TooManyWords_HeapError
def gXmC (alts : List CAlt) (m : Str) (x : V) (H1 : Hp) (Q : VK) : Prop := ∃ al ∈ alts, ∃ a fs, x = .ref a ∧ KeptX H1 a al.C fs ∧ fs.lookup m = none ∧ Q (.str al.c) H1
theorem x_xmC {alts : List CAlt} {m : Str} {ta : TE} (h : ta σ H fun x H1 => gXmC alts m x H1 Q) : tXmC alts m ta σ H Q := h
theorem y_xmC {alts : List CAlt} {m n : Str} {a : Addr} (e : H a = some (xob a (Ex K n) none)) (hal : ∃ f, (⟨He.ga K n, f, n⟩ : CAlt) ∈ alts) (h : Q (.str n) H) : gXmC alts m (.ref a) H Q := by
  obtain ⟨f, hf⟩ := hal
  exact ⟨_, hf, a, [], rfl, .bare e, rfl, h⟩
theorem x_tryT {c : Value} {i : Nat} {tb : WX → TS} {ts : TS} {Wout : WX} (h : tb (wAsT K c i ts Wout D) D σ H) : tTryT K c i tb ts Wout D σ H := h
/-! ### a step -/
noncomputable def step1 (rows : List PRow) (d : ID) (r : RD) : ID × RD :=
  match r.at_ rows.length with
  | none => (d, r)
  | some k => match rows[k.toNat]? with
    | none => (d, r)
    | some row => match rowDone rows row d { r with done := r.done + 1 } with
      | (d', .ok r') => (d', r')
      | (d', .error n) => (d', { r with done := r.done + 1, broken := some n })
theorem rows_at {rows : List PRow} (es : s.prog.map (·.d) = rows.map PRow.enc) {k : Nat} {row : PRow} (h : rows[k]? = some row) : ∃ p ∈ s.prog, s.prog[k]? = some p ∧ p.d = row.enc := by
  have a1 : (s.prog.map (·.d))[k]? = some row.enc := by rw [es, List.getElem?_map, h]; rfl
  obtain ⟨p, ip, e⟩ := get_map a1
  exact ⟨p, List.mem_of_getElem? ip, ip, e.symm⟩
theorem Run.ob {a h : Addr} {rows : List PRow} {r : RD} {d : ID} (hR : Run K a h rows r d R H) : ∃ dx fs, H a = some (.ins (RC K) dx fs) ∧ ∀ m ∈ (["at", "steps", "step", "do_row", "told", "fault"] : List Str), fs.lookup m = none := by
  obtain ⟨s, rfl, _, _, _, hA⟩ := hR
  refine ⟨s.dx, s.fs, RS.ob hA, ?_⟩
  intro m hm
  simp only [List.mem_cons, List.mem_nil_iff, or_false] at hm
  rcases hm with h | h | h | h | h | h <;> (subst h; rfl)
theorem y_run {a h : Addr} {rows : List PRow} {r : RD} {d : ID} {alts : List Alt} {m : Str} {W : WX} {t : TA} {f : Addr} {sp : Sp} (hR : Run K a h rows r d R H) (hm : m ∈ (["at", "steps", "step", "do_row", "told", "fault"] : List Str)) (hal : (RC K, f, sp) ∈ alts)
    (h : t σ H fun vs H2 => sp (.ref a :: vs) H2 Q (WE W σ)) : gMU alts m W t σ (.ref a) H Q := by
  obtain ⟨dx, fs, e, l⟩ := hR.ob
  exact y_mu e hal (l m hm) h
theorem oV_dec (o : Option Int) : decide (oV o = .non) = decide (o = none) := oV_non o
theorem c_step (pf : PF K) {a h : Addr} {rows : List PRow} {r : RD} {d : ID} (hR : Run K a h rows r d R H) (w : d.Wf) (hl : d.spoken.length ≤ 1000000) (ll : r.lines.length ≤ 1000000) (mo : MarksOk rows) (r0 : 0 ≤ r.spot)
    (hk : ∀ H', Run K a h rows (step1 rows d r).2 (step1 rows d r).1 R H' → Q (.bl (!decide ((step1 rows d r).2.at_ rows.length = none))) H') : sp_Running_step K [.ref a] H Q E := by
  refine i_Running_step ?_
  unfold t_Running_step
  walk_at "vh"
  refine y_run hR (by decide +kernel) (by walk_at "hm") ?_
  walk_at "vh"
  refine c_at hR ?_
  walk_at "vh"
  rw [oV_dec]
  cases ea : r.at_ rows.length with
  | none =>
    refine x_decT rfl ?_
    walk_at "vh"
    have e1 : step1 rows d r = (d, r) := by unfold step1; rw [ea]
    rw [e1] at hk
    have := hk H hR
    simp only [ea] at this
    exact this
  | some k =>
    have ek : r.broken = none ∧ r.spot < rows.length ∧ k = r.spot := by
      unfold RD.at_ at ea
      split at ea
      · rename_i z; cases ea; exact ⟨z.1, z.2, rfl⟩
      · cases ea
    obtain ⟨eb, sl, rfl⟩ := ek
    have hlt : r.spot.toNat < rows.length := by omega
    have er := List.getElem?_eq_getElem hlt
    generalize rows[r.spot.toNat] = row at er
    have rm : row ∈ rows := List.mem_of_getElem? er
    refine x_decF (fun z => by cases z) ?_
    walk_at "vh"
    obtain ⟨s, rfl, rfl, es, rfl, hA⟩ := hR
    refine y_fd (RS.ob hA) (by walk_at "hm") rfl ?_
    walk_at "vh"
    obtain ⟨c, hh, mk⟩ := hA.split
    replace hh := RS.op2 hh
    refine y_sfd hh 0 rfl (by walk_at "hm") (by show (7 : Nat) < 1000; decide) fun H hh => ?_
    obtain ⟨p, pm, ip, ep⟩ := rows_at es er
    have hA : At K ({ s with done := s.done + 1 } : RS).hall d (({ s with done := s.done + 1 } : RS).c K :: R) H := mk _ _ (RS.cl2 hh)
    -- the look behind the row
    have look : ∀ (r' : RD) (d' : ID) (H : Hp) (z : Option V), step1 rows d s.d = (d', r') → Run K s.self s.hall rows r' d' R H → (tRet (tOp oNotN (tMU [(He.ga K "Running", He.ma K (He.ga K "Running") "at", sp_Running_at K)] "at" (WD E) (tVar 0) tNil) (tC .non))) { nx := fun _ H' => Q .non H', rt := Q } [some (.ref s.self), z] H := by
      intro r' d' H z e1 hR
      walk_at "vh"
      refine y_run hR (by decide +kernel) (by walk_at "hm") ?_
      walk_at "vh"
      refine c_at hR ?_
      walk_at "vh"
      rw [oV_dec]
      rw [e1] at hk
      exact hk H hR
    walk_at "vh"
    refine x_tryT ?_
    walk_at "vh"
    obtain ⟨c2, h2, mk2⟩ := hA.split
    replace h2 := RS.op2 h2
    have ix : atI (s.prog.map PV.v) s.spot = some (.ref p.a) := by
      have e0 : s.spot = ((s.spot.toNat : Nat) : Int) := by have : 0 ≤ s.spot := r0; omega
      rw [e0]
      exact atI_at (by rw [List.getElem?_map, show s.prog[s.spot.toNat]? = some p from ip]; rfl)
    refine x_ixT (SqT.of (h2.g 3 rfl)) ix ?_
    walk_at "vh"
    have step_e : step1 rows d s.d = match rowDone rows row d { s.d with done := s.done + 1 } with
      | (d', .ok r') => (d', r')
      | (d', .error n) => (d', { s.d with done := s.done + 1, broken := some n }) := by
      unfold step1
      rw [ea]
      simp only [er]
      rfl
    refine c_do_row (s := { s with done := s.done + 1 }) (rows := rows) (row := row) (p := p) hA w hl (by simpa [RS.d] using ll) pm ep es (fun m em => mo row rm m em) (fun d' r' e H hR => ?_) fun d' n e H hR => ?_
    · have e2 : rowDone rows row d { s.d with done := s.done + 1 } = (d', .ok r') := e
      rw [e2] at step_e
      exact look r' d' H _ step_e hR
    · have e2 : rowDone rows row d { s.d with done := s.done + 1 } = (d', .error n) := e
      rw [e2] at step_e
      have ne := row_err e
      refine ⟨true, exm_of pf ne, fun _ xa hxa => ?_, fun z => by cases z⟩
      obtain ⟨s3, e3, h3, es3, ds3, hA3⟩ := hR
      obtain ⟨c3, hh3, mk3⟩ := hA3.split
      have hh3 := (RS.op2 hh3).new (o := xob xa (Ex K n) none) hxa
      generalize upd H xa (xob xa (Ex K n) none) = H at hh3
      walk_at "vh"
      refine x_xmC ?_
      walk_at "vh"
      refine y_xmC (n := n) (hh3.g 0 rfl) ?_ ?_
      · simp only [ERRS, List.mem_cons, List.mem_nil_iff, or_false] at ne
        rcases ne with h | h | h | h | h | h <;> subst h <;> exact ⟨_, by repeat (first | exact List.mem_cons_self | apply List.mem_cons_of_mem)⟩
      have e3' : s3.self = s.self := e3
      rw [← e3']
      walk_at "vh"
      refine y_sfd hh3 1 rfl (by walk_at "hm") (by show (7 : Nat) < 1000; decide) fun H hh => ?_
      have hh : Hs H ((({ s3 with broken := some n } : RS).L K) ++ (c3 :: R)) := Hs.tail hh
      have lk := look { s.d with done := s.done + 1, broken := some n } d' H none step_e ⟨{ s3 with broken := some n }, e3, h3, es3, by
        have : s3.d = ({ s with done := s.done + 1 } : RS).d := ds3
        unfold RS.d at this ⊢
        simp only [RD.mk.injEq] at this ⊢
        exact ⟨this.1, this.2.1, this.2.2.1, trivial⟩, mk3 _ _ (RS.cl2 hh)⟩
      rw [← e3'] at lk
      exact lk
end PI

set_option Elab.async false
set_option linter.all false
set_option maxRecDepth 100000
set_option maxHeartbeats 2000000
namespace PI
open PySem PySem.Spec PyProof.Rows L2 SX0 R_k82
variable {K : PySem.W.Frag} {H : Hp} {Q : VK} {E : XK} {L R A : List Chunk} {σ : L2.St} {D : Ends}
def okL (y l : Int) : Prop := (y = 0 ∨ (7 ≤ y ∧ y ≤ 64)) ∧ 7 ≤ l ∧ l ≤ 400
theorem c_look_at_limits {y l : Int} (h1 : okL y l → Q .non H) (h2 : ¬ okL y l → E (Ex K "BadCount") none H) : sp_look_at_limits K [.int y, .int l] H Q E := by
  refine i_look_at_limits ?_
  unfold t_look_at_limits
  have second : (y = 0 ∨ (7 ≤ y ∧ y ≤ 64)) → (tIfS (tOr (tTest (tOp oLt (tVar 1) (tC (.int 7)))) (tTest (tOp oGt (tVar 1) (tC (.int 400))))) (tRz (He.ga K "BadCount") (WD E)) tNext) { nx := fun _ H' => Q .non H', rt := Q } [some (.int y), some (.int l)] H := by
    intro hy
    walk_at "vh"
    refine x_ite (fun a => ?_) fun a => ?_
    · walk_at "vh"; exact h2 fun z => by have := z.2; omega
    · walk_at "vh"
      refine x_ite (fun b => ?_) fun b => ?_
      · walk_at "vh"; exact h2 fun z => by have := z.2; omega
      · walk_at "vh"; exact h1 ⟨hy, by omega, by omega⟩
  walk_at "vh"
  refine i_iteN (fun a => ?_) fun a => ?_
  · walk_at "vh"
    refine x_ite (fun b => ?_) fun b => ?_
    · walk_at "vh"; exact h2 fun z => by have := z.1; omega
    · walk_at "vh"
      refine x_ite (fun c => ?_) fun c => ?_
      · walk_at "vh"; exact h2 fun z => by have := z.1; omega
      · refine x_next ?_
        exact second (.inr ⟨by omega, by omega⟩)
  · refine x_iteF (x_next ?_)
    exact second (.inl a)
def ID.new (y l : Int) : ID := ⟨y, l, 0, List.replicate 8 .non, List.replicate 8 none, [], none, []⟩
theorem lc_none {n : Int} {i : Nat} {σ : L2.St} (hi : i < σ.length) (hn : 0 ≤ n ∧ n ≤ 1000) (hh : Hs H L) (hq : ∀ D H2, Hs H2 ([(D, .lst (List.replicate n.toNat .non))] :: L) → Q (.ref D) H2) : LcG (Itr 0 n.toNat) (gName i) tYes (tC .non) [i] σ H Q := by
  refine L_lcr (fun _ => some .non) hh (by omega) (fun k D acc H2 _ h' R hR => ?_) fun l H hh => ?_
  · refine x_own hi fun ev => ?_
    exact x_yes (x_iteT (x_c (hR H2 h')))
  · have e : ((List.range n.toNat).map fun i => V.int (0 + (i : Nat))).filterMap (fun _ => some V.non) = List.replicate n.toNat V.non := by
      rw [List.filterMap_map]
      have : ∀ k, (List.range k).filterMap ((fun _ => some V.non) ∘ fun i => V.int (0 + (i : Nat))) = List.replicate k V.non := by
        intro k
        induction k with
        | zero => rfl
        | succ k ih => rw [List.range_succ, List.filterMap_append, ih, List.replicate_succ']; rfl
      exact this _
    rw [e] at hh
    exact hq l H hh
theorem c_ideal_init {x dx : Addr} {y l : Int} (hh : Hs H ([(x, .ins (IC K) dx [])] :: L)) (h1 : okL y l → ∀ H', At K x (ID.new y l) L H' → Q .non H') (h2 : ¬ okL y l → E (Ex K "BadCount") none H) : sp_IdealHeap___init__ K [.ref x, .int y, .int l] H Q E := by
  refine i_IdealHeap___init__ ?_
  unfold t_IdealHeap___init__
  walk_at "vh"
  refine c_look_at_limits (fun ok => ?_) h2
  walk_at "vh"
  refine y_sfd hh 0 rfl (by walk_at "hm") (by show (0 : Nat) < 1000; decide) fun H hh => ?_
  walk_at "vh"
  refine y_sfd hh 0 rfl (by walk_at "hm") (by show (1 : Nat) < 1000; decide) fun H hh => ?_
  walk_at "vh"
  refine x_gRng1 (by decide) (by decide) ?_
  refine lc_none (by simp) (by decide) hh fun hd H hh => ?_
  walk_at "vh"
  refine y_sfd hh 1 rfl (by walk_at "hm") (by show (2 : Nat) < 1000; decide) fun H hh => ?_
  walk_at "vh"
  refine x_gRng1 (by decide) (by decide) ?_
  refine lc_none (by simp) (by decide) hh fun nm H hh => ?_
  walk_at "vh"
  refine y_sfd hh 2 rfl (by walk_at "hm") (by show (3 : Nat) < 1000; decide) fun H hh => ?_
  walk_at "vh"
  refine y_dnewK hh fun kp H hh => ?_
  walk_at "vh"
  refine y_sfd hh 3 rfl (by walk_at "hm") (by show (4 : Nat) < 1000; decide) fun H hh => ?_
  walk_at "vh"
  refine y_sfd hh 3 rfl (by walk_at "hm") (by show (5 : Nat) < 1000; decide) fun H hh => ?_
  walk_at "vh"
  refine y_sfd hh 3 rfl (by walk_at "hm") (by show (6 : Nat) < 1000; decide) fun H hh => ?_
  walk_at "vh"
  refine y_lst hh fun sp H hh => ?_
  walk_at "vh"
  refine y_sfd hh 4 rfl (by walk_at "hm") (by show (7 : Nat) < 1000; decide) fun H hh => ?_
  refine h1 ok H ⟨⟨x, dx, hd, nm, kp, sp, y, l, 0, List.replicate 8 ⟨.non, 0⟩, List.replicate 8 none, [], none, []⟩, rfl, rfl, IS.cl ?_⟩
  have h3 := Hs.pick (L := [[(sp, HO.lst [])], [(kp, .dK [])], [(nm, .lst (List.replicate 8 .non))], [(hd, .lst (List.replicate 8 .non))], [(x, .ins (IC K) dx [("room", .int y), ("limit", .int l), ("in_hands", .ref hd), ("naming", .ref nm), ("kept", .ref kp), ("count", .int 0), ("going", .non), ("spoken", .ref sp)])]]) (R := L) hh [4, 3, 2, 1, 0]
  refine h3.eq ?_
  rfl
theorem new_wf {y l : Int} (h : okL y l) : (ID.new y l).Wf := by
  refine ⟨List.Pairwise.nil, (fun t ht => by cases ht), rfl, rfl, (fun e he => by cases he), fun t ht => ?_, (fun e he => by cases he), fun t ht => ?_, (fun g hg => by cases hg), by show (0 : Int) ≤ 400; decide, h.2.2⟩
  · have : tsv (List.replicate 8 Val.non) = [] := rfl
    rw [show (ID.new y l).hands = List.replicate 8 Val.non from rfl, this] at ht; cases ht
  · have := (List.mem_replicate.mp (show some t ∈ List.replicate 8 none from ht)).2; cases this
def RD.new : RD := ⟨0, 0, [], none⟩
theorem c_run_init {x dx h pa : Addr} {prog : List PT_} {rows : List PRow} {d : ID} (hA : At K h d ([(x, .ins (RC K) dx [])] :: [(pa, .tup (prog.map PV.v))] :: vcs prog :: R) H) (ep : prog.map (·.d) = rows.map PRow.enc) (rok : ∀ p ∈ prog, RowOk p.d) (ln : prog.length ≤ 100000)
    (k : ∀ H', Run K x h rows RD.new d R H' → Q .non H') : sp_Running___init__ K [.ref x, .ref pa, .ref h] H Q E := by
  obtain ⟨c, hh, mk⟩ := hA.split
  refine i_Running___init__ ?_
  unfold t_Running___init__
  walk_at "vh"
  refine y_tupT (SqT.of (hh.g 2 rfl)) ?_
  walk_at "vh"
  refine y_sfd hh 1 rfl (by walk_at "hm") (by show (0 : Nat) < 1000; decide) fun H hh => ?_
  walk_at "vh"
  refine y_sfd hh 1 rfl (by walk_at "hm") (by show (1 : Nat) < 1000; decide) fun H hh => ?_
  walk_at "vh"
  refine c_marks_inT (prog := prog) (fun H' h' => SqT.of (h'.g 2 rfl)) (fun H' h' p hp => PV.ok_of h' 3 rfl hp) rok ln hh fun pl H hh => ?_
  walk_at "vh"
  refine y_sfd hh 2 rfl (by walk_at "hm") (by show (2 : Nat) < 1000; decide) fun H hh => ?_
  walk_at "vh"
  refine y_sfd hh 2 rfl (by walk_at "hm") (by show (3 : Nat) < 1000; decide) fun H hh => ?_
  walk_at "vh"
  refine y_sfd hh 2 rfl (by walk_at "hm") (by show (4 : Nat) < 1000; decide) fun H hh => ?_
  walk_at "vh"
  refine y_lst hh fun ln H hh => ?_
  walk_at "vh"
  refine y_sfd hh 3 rfl (by walk_at "hm") (by show (5 : Nat) < 1000; decide) fun H hh => ?_
  walk_at "vh"
  refine y_sfd hh 3 rfl (by walk_at "hm") (by show (6 : Nat) < 1000; decide) fun H hh => ?_
  refine k H ⟨⟨x, dx, pl, ln, pa, h, prog, 0, 0, [], none⟩, rfl, rfl, ep, rfl, mk _ _ (RS.cl2 ?_)⟩
  have h3 := Hs.pick (L := [[(ln, HO.lst [])], [(pl, .dK (kvM (mks (prog.map (·.d)))))], c, [(x, .ins (RC K) dx [("program", .ref pa), ("hall", .ref h), ("places", .ref pl), ("spot", .int 0), ("rows_done", .int 0), ("lines", .ref ln), ("broken", .non)])], [(pa, .tup (prog.map PV.v))], vcs prog]) (R := R) hh [3, 1, 0, 4, 5, 2]
  refine h3.eq ?_
  simp [RS.L, RS.fs, oS, vcs]
end PI

set_option Elab.async false
set_option linter.all false
set_option maxRecDepth 100000
set_option maxHeartbeats 2000000
namespace PI
open PySem PySem.Spec PyProof.Rows L2 SX0 R_k82
/-! ### what rows keep -/
theorem spoken_wf {d : ID} (w : d.Wf) (r : List Int) : ({ d with spoken := r } : ID).Wf := ⟨w.asc, w.lt, w.h8, w.n8, w.f6, w.hv, w.fv, w.nv, w.gs, w.wl, w.lm⟩
theorem numR_wf {d : ID} (w : d.Wf) (h x : Int) : (d.numR h x).1.Wf := by
  unfold ID.numR
  repeat' split
  · exact number_wf w h x
  · exact w
  · exact w
theorem wordR_wf {d : ID} (w : d.Wf) (h x : Int) : (d.wordR h x).1.Wf := by
  unfold ID.wordR
  repeat' split
  · exact w
  · exact w
  · exact word_wf w _ x
  · exact w
theorem deed_wf {d : ID} (w : d.Wf) (row : PRow) : (d.deed row).1.Wf := by
  cases row with
  | make h n =>
    simp only [ID.deed]
    repeat' split
    · rename_i hn hr
      exact made_wf (pre_wf w _) h n hn hr
    · exact pre_wf w _
    · exact w
    · exact w
  | load h g k =>
    simp only [ID.deed]
    split
    · split
      · exact w
      · rename_i t e
        split
        · exact load_wf w h g t k (th_some e).2
        · exact w
    · exact w
  | store g k h =>
    simp only [ID.deed]
    split
    · exact w
    · rename_i t e
      repeat' split
      · exact store_wf w t k h g (th_some e).2
      · exact w
      · exact w
  | copy h g =>
    simp only [ID.deed]
    split
    · exact copy_wf w h g
    · exact w
  | drop h =>
    simp only [ID.deed]
    split
    · exact drop_wf w h
    · exact w
  | number h x => simp only [ID.deed]; exact numR_wf w h x
  | name i h =>
    simp only [ID.deed]
    split
    · exact w
    · rename_i t e
      split
      · exact name_wf w i t h (th_some e).2
      · exact w
  | read h i =>
    simp only [ID.deed]
    repeat' split
    · exact read_wf w h i
    · exact w
    · exact w
  | word h g =>
    simp only [ID.deed]
    split
    · exact w
    · exact wordR_wf w _ _
  | held h => simp only [ID.deed]; exact numR_wf w _ _
  | add h g =>
    simp only [ID.deed]
    split
    · exact numR_wf w _ _
    · exact w
  | less h g =>
    simp only [ID.deed]
    split
    · exact numR_wf w _ _
    · exact w
  | take h =>
    simp only [ID.deed]
    repeat' split
    · exact drop_wf w h
    · exact numR_wf (spoken_wf w _) _ _
    · exact w
  | _ => simp only [ID.deed]; exact w
/-- how many things are held and said -/
def ID.size (d : ID) : Nat := d.spoken.length + d.kept.length
theorem settle_size (d : ID) (g : List Int) : (d.settle g).size ≤ d.size := by
  unfold ID.size ID.settle
  simp only [List.length_append]
  have h1 : ((d.kept.filter fun e => decide (e.t ∈ g)).filterMap (·.lw)).length ≤ (d.kept.filter fun e => decide (e.t ∈ g)).length := List.length_filterMap_le _ _
  have h2 : (d.kept.filter fun e => decide (e.t ∈ g)).length + (d.kept.filter fun e => !decide (e.t ∈ g)).length = d.kept.length := by
    induction d.kept with
    | nil => rfl
    | cons a r ih =>
      by_cases h : a.t ∈ g
      · simp only [List.filter_cons, h, decide_true, if_true, Bool.not_true, Bool.false_eq_true, if_false, List.length_cons]; omega
      · simp only [List.filter_cons, h, decide_false, Bool.false_eq_true, if_false, Bool.not_false, if_true, List.length_cons]; omega
  omega
theorem small_size (d : ID) : d.small.size ≤ d.size := by
  unfold ID.small
  have := settle_size d ((pyids d.kept).filter fun t => !@decide (d.Stay t) (Classical.propDecidable _))
  unfold ID.size at *
  simp only [List.length_map]
  exact this
theorem small_going (d : ID) : d.small.going = d.going := rfl
theorem begin_size (d : ID) : d.begin_.size ≤ d.size := small_size d
theorem end_size (d : ID) : d.end_.size ≤ d.size := by
  unfold ID.end_
  exact settle_size _ _
theorem end_going (d : ID) : d.end_.going = none := rfl
theorem pre_size (d : ID) (k : Int) : (d.pre k).size ≤ d.size := by unfold ID.pre; split; exact small_size d; exact Nat.le_refl _
theorem pre_going (d : ID) (k : Int) : (d.pre k).going = d.going := by unfold ID.pre; split <;> rfl
theorem numR_size (d : ID) (h x : Int) : (d.numR h x).1.size = d.size ∧ (d.numR h x).1.going = d.going := by
  unfold ID.numR
  repeat' split
  all_goals exact ⟨rfl, rfl⟩
theorem deed_size (d : ID) (row : PRow) (hg : d.going = none) : (d.deed row).1.size ≤ d.size + 1 ∧ (d.deed row).1.going = none := by
  cases row with
  | make h n =>
    simp only [ID.deed]
    have p := pre_size d (n + 1)
    have q := pre_going d (n + 1)
    repeat' split
    · refine ⟨?_, by show (d.pre (n + 1)).going = none; rw [q, hg]⟩
      unfold ID.size ID.made_ at *
      simp only [List.length_append, List.length_singleton]; omega
    · exact ⟨by show (d.pre (n + 1)).size ≤ _; omega, by show (d.pre (n + 1)).going = none; rw [q, hg]⟩
    · exact ⟨Nat.le_succ _, hg⟩
    · exact ⟨Nat.le_succ _, hg⟩
  | number h x => simp only [ID.deed]; have := numR_size d h x; exact ⟨by omega, by rw [this.2, hg]⟩
  | held h => simp only [ID.deed]; have := numR_size d h (pwords d.kept); exact ⟨by omega, by rw [this.2, hg]⟩
  | add h g =>
    simp only [ID.deed]
    split
    · rename_i x y _ _
      have := numR_size d h (x + y); exact ⟨by omega, by rw [this.2, hg]⟩
    · exact ⟨Nat.le_succ _, hg⟩
  | less h g =>
    simp only [ID.deed]
    split
    · rename_i x y _ _
      have := numR_size d h (x - y); exact ⟨by omega, by rw [this.2, hg]⟩
    · exact ⟨Nat.le_succ _, hg⟩
  | word h g =>
    simp only [ID.deed]
    split
    · exact ⟨Nat.le_succ _, hg⟩
    · rename_i x _
      unfold ID.wordR
      repeat' split
      · exact ⟨Nat.le_succ _, hg⟩
      · exact ⟨Nat.le_succ _, hg⟩
      · refine ⟨?_, hg⟩
        unfold ID.size ID.setWord onP
        simp only [List.length_map]; omega
      · exact ⟨Nat.le_succ _, hg⟩
  | store g k h =>
    simp only [ID.deed]
    split
    · exact ⟨Nat.le_succ _, hg⟩
    · repeat' split
      · refine ⟨?_, hg⟩
        unfold ID.size ID.setField onP
        simp only [List.length_map]; omega
      · exact ⟨Nat.le_succ _, hg⟩
      · exact ⟨Nat.le_succ _, hg⟩
  | read h i =>
    simp only [ID.deed]
    repeat' split
    · unfold ID.read
      split
      · exact ⟨Nat.le_succ _, hg⟩
      · refine ⟨Nat.le_succ _, ?_⟩
        show Option.map _ d.going = none
        rw [hg]; rfl
    · exact ⟨Nat.le_succ _, hg⟩
    · exact ⟨Nat.le_succ _, hg⟩
  | take h =>
    simp only [ID.deed]
    split
    · split
      · exact ⟨Nat.le_succ _, hg⟩
      · rename_i x r e
        have := numR_size ({ d with spoken := r } : ID) h x
        refine ⟨?_, by rw [this.2]; exact hg⟩
        rw [this.1]
        unfold ID.size
        rw [e]
        simp only [List.length_cons]; omega
    · exact ⟨Nat.le_succ _, hg⟩
  | load h g k =>
    simp only [ID.deed]
    split
    · split
      · exact ⟨Nat.le_succ _, hg⟩
      · split <;> exact ⟨Nat.le_succ _, hg⟩
    · exact ⟨Nat.le_succ _, hg⟩
  | name i h =>
    simp only [ID.deed]
    split
    · exact ⟨Nat.le_succ _, hg⟩
    · split <;> exact ⟨Nat.le_succ _, hg⟩
  | copy h g => simp only [ID.deed]; split <;> exact ⟨Nat.le_succ _, hg⟩
  | drop h => simp only [ID.deed]; split <;> exact ⟨Nat.le_succ _, hg⟩
  | _ => simp only [ID.deed]; exact ⟨Nat.le_succ _, hg⟩
theorem mks_nn (l : List (List V)) : ∀ e ∈ mks l, 0 ≤ e.2 := by
  have : ∀ (k : List (List V × Nat)) acc, (∀ e ∈ acc, 0 ≤ e.2) → ∀ e ∈ k.foldl mkStep acc, 0 ≤ e.2 := by
    intro k
    induction k with
    | nil => intro acc h; exact h
    | cons a r ih =>
      intro acc h
      refine ih _ fun e he => ?_
      unfold mkStep mkAdd at he
      split at he
      · split at he
        · exact h e he
        · rcases List.mem_append.mp he with z | z
          · exact h e z
          · rw [List.mem_singleton.mp z]; exact Int.natCast_nonneg _
      · exact h e he
  exact this l.zipIdx [] fun e he => by cases he
theorem place_nn (rows : List PRow) (m : Str) : 0 ≤ placeOf rows m := by
  unfold placeOf
  cases q : (mks (rows.map PRow.enc)).lookup m with
  | none => exact Int.le_refl _
  | some x =>
    have : (m, x) ∈ mks (rows.map PRow.enc) := by
      generalize mks (rows.map PRow.enc) = l at q
      induction l with
      | nil => cases q
      | cons e r ih =>
        rw [List.lookup_cons] at q
        split at q
        · rename_i h
          have h2 : m = e.1 := by simpa using h
          cases q
          rw [h2]; exact List.mem_cons_self
        · exact List.mem_cons_of_mem _ (ih q)
    exact mks_nn _ _ this
/-- what a step keeps -/
structure Good1 (d : ID) (r : RD) : Prop where
  w : d.Wf
  g : d.going = none
  sz : (d.size : Int) ≤ r.done
  ln : (r.lines.length : Int) ≤ r.done
  sp : 0 ≤ r.spot
theorem row_good {rows : List PRow} {row : PRow} {d : ID} {r : RD} (h : Good1 d r) : match rowDone rows row d { r with done := r.done + 1 } with
    | (d', .ok r') => Good1 d' r' ∧ r'.done = r.done + 1
    | (d', .error _) => Good1 d' { r with done := r.done + 1 } := by
  have g1 : Good1 d { r with done := r.done + 1 } := ⟨h.w, h.g, by have := h.sz; show (d.size : Int) ≤ r.done + 1; omega, by have := h.ln; show (r.lines.length : Int) ≤ r.done + 1; omega, h.sp⟩
  have jump : ∀ k : Int, 0 ≤ k → Good1 d (({ r with done := r.done + 1 } : RD).goTo k) := fun k hk => ⟨g1.w, g1.g, g1.sz, g1.ln, hk⟩
  have sp1 : 0 ≤ r.spot + 1 := by have := h.sp; omega
  have gen : ∀ m, row.mark? = some m → (∀ d, rowDone rows row d { r with done := r.done + 1 } = match d.goes row with
      | some true => (d, .ok (({ r with done := r.done + 1 } : RD).goTo (placeOf rows m)))
      | some false => (d, .ok (({ r with done := r.done + 1 } : RD).goTo (r.spot + 1)))
      | none => (d, .error "BadHand")) → match rowDone rows row d { r with done := r.done + 1 } with
    | (d', .ok r') => Good1 d' r' ∧ r'.done = r.done + 1
    | (d', .error _) => Good1 d' { r with done := r.done + 1 } := by
    intro m _ e
    rw [e]
    cases d.goes row with
    | none => exact g1
    | some b => cases b; exact ⟨jump _ sp1, rfl⟩; exact ⟨jump _ (place_nn rows m), rfl⟩
  have pl : (∀ d, rowDone rows row d { r with done := r.done + 1 } = match d.deed row with
      | (d', none) => (d', .ok (({ r with done := r.done + 1 } : RD).goTo (r.spot + 1)))
      | (d', some n) => (d', .error n)) → match rowDone rows row d { r with done := r.done + 1 } with
    | (d', .ok r') => Good1 d' r' ∧ r'.done = r.done + 1
    | (d', .error _) => Good1 d' { r with done := r.done + 1 } := by
    intro e
    rw [e]
    have w2 := deed_wf h.w row
    obtain ⟨s2, g2⟩ := deed_size d row h.g
    have sz := h.sz
    have ln := h.ln
    generalize d.deed row = o at w2 s2 g2
    obtain ⟨d', n⟩ := o
    have s3 : (d'.size : Int) ≤ r.done + 1 := by have : d'.size ≤ d.size + 1 := s2; omega
    have l3 : (r.lines.length : Int) ≤ r.done + 1 := by omega
    cases n with
    | none => exact ⟨⟨w2, g2, s3, l3, sp1⟩, rfl⟩
    | some n => exact ⟨w2, g2, s3, l3, h.sp⟩
  cases row with
  | say hh =>
    simp only [rowDone]
    cases d.said hh with
    | none => exact g1
    | some xs => refine ⟨⟨g1.w, g1.g, g1.sz, ?_, sp1⟩, rfl⟩; have := h.ln; simp; omega
  | stop => exact ⟨jump _ (Int.natCast_nonneg _), rfl⟩
  | mark m => exact ⟨jump _ sp1, rfl⟩
  | go m => exact gen m rfl fun _ => rfl
  | same a b m => exact gen m rfl fun _ => rfl
  | below a b m => exact gen m rfl fun _ => rfl
  | thing a m => exact gen m rfl fun _ => rfl
  | _ => exact pl fun _ => rfl
theorem step_good {rows : List PRow} {d : ID} {r : RD} (h : Good1 d r) (ha : r.at_ rows.length ≠ none) : Good1 (step1 rows d r).1 (step1 rows d r).2 ∧ (step1 rows d r).2.done = r.done + 1 := by
  unfold step1
  cases ea : r.at_ rows.length with
  | none => exact absurd ea ha
  | some k =>
    have ek : r.spot < rows.length ∧ k = r.spot := by
      unfold RD.at_ at ea
      split at ea
      · rename_i z; cases ea; exact ⟨z.2, rfl⟩
      · cases ea
    obtain ⟨sl, rfl⟩ := ek
    have s0 := h.sp
    have hlt : r.spot.toNat < rows.length := by omega
    simp only [List.getElem?_eq_getElem hlt]
    have := row_good (rows := rows) (row := rows[r.spot.toNat]) h
    generalize rowDone rows rows[r.spot.toNat] d { r with done := r.done + 1 } = o at this
    obtain ⟨d', x⟩ := o
    cases x with
    | ok r' => exact this
    | error n => exact ⟨⟨this.w, this.g, this.sz, this.ln, this.sp⟩, rfl⟩
theorem turn_good {d : ID} {r : RD} (h : Good1 d r) : Good1 d.begin_.end_ r :=
  ⟨end_wf (begin_wf h.w), rfl, by have h1 := begin_size d; have h2 := end_size d.begin_; have := h.sz; omega, h.ln, h.sp⟩
end PI

set_option Elab.async false
set_option linter.all false
set_option maxRecDepth 100000
set_option maxHeartbeats 2000000
namespace PI
open PySem PySem.Spec PyProof.Rows L2 SX0 R_k82
variable {K : PySem.W.Frag} {H : Hp} {Q : VK} {E : XK} {L R R' A : List Chunk} {σ : L2.St} {D : Ends}
theorem Hs.dup {c : Chunk} (h : Hs H (c :: L)) (hc : ∀ e ∈ c, isT e.2 = true) : Hs H (c :: c :: L) := by
  have z : nt c = [] := by
    cases q : nt c with
    | nil => rfl
    | cons x r =>
      have hx : x ∈ nt c := by rw [q]; exact List.mem_cons_self
      obtain ⟨o, h1, h2⟩ := mem_nt.mp hx
      rw [hc _ h1] at h2; cases h2
  refine ⟨?_, fun e he => h.at_ e ?_⟩
  · have := h.nd
    simp only [List.flatten_cons, nt_app, z, List.nil_append] at this ⊢
    exact this
  · simp only [List.flatten_cons, List.mem_append] at he ⊢
    rcases he with z | z | z
    · exact .inl z
    · exact .inl z
    · exact .inr z
theorem Run.frame {a h : Addr} {rows : List PRow} {r : RD} {d : ID} (hR : Run K a h rows r d R H) (f : ∀ c, Hs H (c :: R) → Hs H (c :: R')) : Run K a h rows r d R' H := by
  obtain ⟨s, e1, e2, e3, e4, hA⟩ := hR
  obtain ⟨c, hh, mk⟩ := hA.split
  refine ⟨s, e1, e2, e3, e4, mk _ _ ?_⟩
  have h1 := f (c ++ s.c K) (hh.eq (by simp))
  exact h1.eq (by simp)
theorem Run.hs {a h : Addr} {rows : List PRow} {r : RD} {d : ID} (hR : Run K a h rows r d R H) : ∃ c, Hs H (c :: R) := by
  obtain ⟨s, e1, e2, e3, e4, hA⟩ := hR
  obtain ⟨c, hh, mk⟩ := hA.split
  exact ⟨c ++ s.c K, hh.eq (by simp)⟩
theorem Run.tup {a h : Addr} {rows : List PRow} {r : RD} {d : ID} {xs : List V} (hR : Run K a h rows r d R H) (hl : Nat.ble xs.length 16777216 = true) (k : ∀ p H', Run K a h rows r d ([(p, .tup xs)] :: R) H' → Q (.ref p) H') : gTupN xs H Q := by
  obtain ⟨s, e1, e2, e3, e4, hA⟩ := hR
  obtain ⟨c, hh, mk⟩ := hA.split
  refine y_tup hh (fun p H' h' => k p H' ⟨s, e1, e2, e3, e4, mk _ _ (h'.to ?_)⟩) hl
  simp only [List.flatten_cons]
  have p1 := (List.perm_append_comm_assoc (s.c K) [(p, HO.tup xs)] R.flatten).append_left c
  exact p1.trans (List.perm_append_comm_assoc _ _ _)
theorem Run.on {a h : Addr} {rows : List PRow} {r : RD} {d : ID} (hR : Run K a h rows r d R H) : ∃ R2, At K h d R2 H ∧ ∀ d' H', At K h d' R2 H' → Run K a h rows r d' R H' := by
  obtain ⟨s, e1, e2, e3, e4, hA⟩ := hR
  exact ⟨s.c K :: R, e2 ▸ hA, fun d' H' h' => ⟨s, e1, e2, e3, e4, e2 ▸ h'⟩⟩
structure MR where
  d : ID
  r : RD
  m : Int
  k : Int
noncomputable def mrOne (rows : List PRow) (x : MR) : MR :=
  let s := step1 rows x.d.begin_.end_ x.r
  ⟨s.1, s.2, if x.m < s.1.rwords then s.1.rwords else x.m, if x.m < s.1.rwords then s.2.done else x.k⟩
noncomputable def mrGo (rows : List PRow) (steps : Int) : Nat → MR → MR
  | 0, x => x
  | n + 1, x => if x.r.at_ rows.length ≠ none ∧ x.r.done < steps then mrGo rows steps n (mrOne rows x) else x
def MR.new : MR := ⟨ID.new 0 400, RD.new, 0, 0⟩
theorem new_good : Good1 MR.new.d MR.new.r := ⟨new_wf ⟨.inl rfl, by decide, by decide⟩, rfl, by decide, by decide, by decide⟩
theorem mr_good {rows : List PRow} {x : MR} (g : Good1 x.d x.r) (ha : x.r.at_ rows.length ≠ none) : Good1 (mrOne rows x).d (mrOne rows x).r ∧ (mrOne rows x).r.done = x.r.done + 1 := step_good (turn_good g) ha
theorem c_most_reached (pf : PF K) {pa : Addr} {prog : List PT_} {rows : List PRow} {steps : Int} (hh : Hs H ([(pa, .tup (prog.map PV.v))] :: vcs prog :: L)) (ep : prog.map (·.d) = rows.map PRow.enc) (rok : ∀ p ∈ prog, RowOk p.d) (ln : prog.length ≤ 100000) (mo : MarksOk rows) (s1 : 1 ≤ steps) (s2 : steps ≤ 2000)
    (k : ∀ q H', Hs H' ([(q, .tup [.int (mrGo rows steps steps.toNat MR.new).m, .int (mrGo rows steps steps.toNat MR.new).k])] :: [(pa, .tup (prog.map PV.v))] :: vcs prog :: L) → Q (.ref q) H') : sp_most_reached K [.ref pa, .int steps] H Q E := by
  refine i_most_reached ?_
  unfold t_most_reached
  walk_at "vh"
  refine x_ite (fun a => by omega) fun _ => ?_
  walk_at "vh"
  refine x_ite (fun a => by omega) fun _ => ?_
  walk_at "vh"
  have h1 := Hs.dup (c := (pa, HO.tup (prog.map PV.v)) :: vcs prog) (L := L) (hh.eq rfl) (fun e he => by
    rcases List.mem_cons.mp he with z | z
    · rw [z]; rfl
    · exact vcs_tup z)
  replace hh : Hs H ([(pa, .tup (prog.map PV.v))] :: vcs prog :: [(pa, .tup (prog.map PV.v))] :: vcs prog :: L) := h1.eq (by simp)
  refine y_mks hh fun x dx H hh => ?_
  refine c_ideal_init (hh.erase 1) (fun _ H hA => ⟨rfl, ?_⟩) (fun z => absurd ⟨.inl rfl, by decide, by decide⟩ z)
  walk_at "vh"
  obtain ⟨c, hh, mk⟩ := hA.split
  refine y_mks hh fun y dy H hh => ?_
  have hA : At K x (ID.new 0 400) ([(y, .ins (RC K) dy [])] :: [(pa, .tup (prog.map PV.v))] :: vcs prog :: ([(pa, .tup (prog.map PV.v))] :: vcs prog :: L)) H := mk _ _ ((hh.erase 1).to (by
    show (c ++ ([(y, HO.ins (RC K) dy [])] ++ _)).Perm ([(y, HO.ins (RC K) dy [])] ++ (c ++ _))
    exact List.perm_append_comm_assoc _ _ _))
  refine c_run_init hA ep rok ln fun H hR => ⟨rfl, ?_⟩
  walk_at "vh"
  refine hR.tup rfl fun mp H hR => ?_
  walk_at "vh"
  refine L_while (fun n σ H' => ∃ x0 : MR, ∃ mp, n = (steps - x0.r.done).toNat ∧ mrGo rows steps (steps - x0.r.done).toNat x0 = mrGo rows steps steps.toNat MR.new ∧ Good1 x0.d x0.r ∧ 0 ≤ x0.r.done ∧ x0.r.done ≤ steps ∧ (∃ w, σ = [some (.ref pa), some (.int steps), some (.ref x), some (.ref y), some (.ref mp), w]) ∧ Run K y x rows x0.r x0.d ([(mp, .tup [.int x0.m, .int x0.k])] :: ([(pa, .tup (prog.map PV.v))] :: vcs prog :: L)) H') _
    ⟨MR.new, mp, rfl, (by show mrGo rows steps (steps - 0).toNat _ = _; rw [Int.sub_zero]), new_good, by decide, by show (0 : Int) ≤ steps; omega, ⟨_, rfl⟩, hR⟩ ?_
  rintro n σ H ⟨x0, mp, rfl, eg, g, d0, dle, ⟨w, rfl⟩, hR⟩
  have fin : (¬ (x0.r.at_ rows.length ≠ none ∧ x0.r.done < steps)) → Q (.ref mp) H := fun hn => by
    have e2 : mrGo rows steps (steps - x0.r.done).toNat x0 = x0 := by
      cases (steps - x0.r.done).toNat with
      | zero => rfl
      | succ n => exact if_neg hn
    obtain ⟨c, hh⟩ := hR.hs
    rw [e2] at eg
    rw [← eg] at k
    exact k mp H hh.tail
  walk_at "vh"
  refine y_run hR (by decide +kernel) (by walk_at "hm") ?_
  walk_at "vh"
  refine c_at hR ?_
  walk_at "vh"
  rw [oV_dec]
  cases ea : x0.r.at_ rows.length with
  | none =>
    refine x_ndecF rfl ?_
    walk_at "vh"
    exact fin fun z => z.1 ea
  | some kk =>
    refine x_ndecT (fun z => by cases z) ?_
    walk_at "vh"
    refine y_run hR (by decide +kernel) (by walk_at "hm") ?_
    walk_at "vh"
    refine c_steps hR ?_
    walk_at "vh"
    refine x_ite (fun hlt => ?_) fun hge => ?_
    · refine x_whileGo ?_
      have sz := g.sz
      have sl : x0.d.spoken.length ≤ 1000000 := by have : x0.d.spoken.length ≤ x0.d.size := Nat.le_add_right _ _; omega
      have sb : x0.d.begin_.spoken.length ≤ 1000000 := by have a1 := begin_size x0.d; have : x0.d.begin_.spoken.length ≤ x0.d.begin_.size := Nat.le_add_right _ _; omega
      have se : x0.d.begin_.end_.spoken.length ≤ 1000000 := by have a1 := begin_size x0.d; have a2 := end_size x0.d.begin_; have : x0.d.begin_.end_.spoken.length ≤ x0.d.begin_.end_.size := Nat.le_add_right _ _; omega
      walk_at "vh"
      obtain ⟨R2, hA, back⟩ := hR.on
      refine y_at hA (by decide +kernel) (by walk_at "hm") ?_
      walk_at "vh"
      refine c_begin hA g.w (small_wf g.w) sl (fun _ H hA => ?_) fun z => absurd g.g z
      walk_at "vh"
      refine y_at hA (by decide +kernel) (by walk_at "hm") ?_
      walk_at "vh"
      refine c_end hA (begin_wf g.w) sb (fun _ H hA => ?_) fun z => ?_
      · have hR := back _ _ hA
        have g2 := turn_good g
        have ha : x0.r.at_ rows.length ≠ none := by rw [ea]; exact fun z => by cases z
        obtain ⟨g3, dn⟩ := mr_good (rows := rows) g ha
        walk_at "vh"
        refine y_run hR (by decide +kernel) (by walk_at "hm") ?_
        walk_at "vh"
        refine c_step pf hR g2.w se (by have := g.ln; omega) mo g.sp fun H hR => ?_
        walk_at "vh"
        obtain ⟨R3, hA, back⟩ := hR.on
        refine c_words_reached hA g3.w fun H hA => ?_
        have hR := back _ _ hA
        obtain ⟨c, hh⟩ := hR.hs
        have nxt : mrGo rows steps (steps - (mrOne rows x0).r.done).toNat (mrOne rows x0) = mrGo rows steps steps.toNat MR.new := by
          rw [← eg, show (steps - x0.r.done).toNat = (steps - (mrOne rows x0).r.done).toNat + 1 by rw [dn]; omega]
          exact (if_pos ⟨ha, hlt⟩).symm
        walk_at "vh"
        refine x_ixT (SqT.of (hh.g 1 rfl)) (show atI [V.int x0.m, V.int x0.k] 0 = some (.int x0.m) from rfl) ?_
        walk_at "vh"
        refine x_ite (fun hw => ?_) fun hw => ?_
        · walk_at "vh"
          refine y_run hR (by decide +kernel) (by walk_at "hm") ?_
          walk_at "vh"
          refine c_steps hR ?_
          walk_at "vh"
          refine hR.tup rfl fun mp2 H hR => ?_
          walk_at "vh"
          have hw' : x0.m < (step1 rows x0.d.begin_.end_ x0.r).1.rwords := by omega
          refine ⟨_, ?_, mrOne rows x0, mp2, rfl, nxt, g3, by omega, by omega, ⟨_, rfl⟩, ?_⟩
          · rw [dn]; omega
          · have e1 : (mrOne rows x0).m = (step1 rows x0.d.begin_.end_ x0.r).1.rwords := if_pos hw'
            have e2 : (mrOne rows x0).k = (step1 rows x0.d.begin_.end_ x0.r).2.done := if_pos hw'
            rw [e1, e2]
            exact hR.frame fun c h => h.erase 2
        · walk_at "vh"
          have hw' : ¬ x0.m < (step1 rows x0.d.begin_.end_ x0.r).1.rwords := by omega
          refine ⟨_, ?_, mrOne rows x0, mp, rfl, nxt, g3, by omega, by omega, ⟨_, rfl⟩, ?_⟩
          · rw [dn]; omega
          · have e1 : (mrOne rows x0).m = x0.m := if_neg hw'
            have e2 : (mrOne rows x0).k = x0.k := if_neg hw'
            rw [e1, e2]
            exact hR
      · exact absurd z (fun z => by cases z)
    · walk_at "vh"
      exact fin fun z => hge (by omega)
end PI

set_option Elab.async false
set_option linter.all false
set_option maxRecDepth 100000
set_option maxHeartbeats 2000000
namespace PI
open PySem PySem.Spec PyProof.Rows L2 SX0 R_k82
/-! ### the law's own machine, plain -/
structure LM where
  at_ : Nat
  hs : List Val
  fs : List (List Val)
  ws : List Int
def LM.new : LM := ⟨0, List.replicate 8 .non, [], []⟩
def LM.hand (x : LM) (h : Int) : Val := (x.hs[h.toNat]?).getD .non
def lfs (fs : List (List Val)) (t : Int) : List Val := (fs[t.toNat]?).getD []
def lfo (fs : List (List Val)) (t : Int) : List Int := tsv (lfs fs t)
def LReach (hs : List Val) (fs : List (List Val)) (t : Int) : Prop := Led (lfo fs) (fun _ => True) (tsv hs) t
def IsW (hs : List Val) (fs : List (List Val)) (n : Int) : Prop := ∃ ks : List Int, ks.Nodup ∧ (∀ t, t ∈ ks ↔ LReach hs fs t) ∧ n = (ks.map fun t => ((lfs fs t).length : Int) + 1).sum
theorem sum_perm {a b : List Int} (h : a.Perm b) : a.sum = b.sum := by
  induction h with
  | nil => rfl
  | cons x _ ih => simp [ih]
  | swap x y l => simp only [List.sum_cons]; omega
  | trans _ _ i1 i2 => exact i1.trans i2
theorem IsW.eq {hs : List Val} {fs : List (List Val)} {n m : Int} (h1 : IsW hs fs n) (h2 : IsW hs fs m) : n = m := by
  obtain ⟨k1, n1, e1, rfl⟩ := h1
  obtain ⟨k2, n2, e2, rfl⟩ := h2
  have : k1.Perm k2 := (List.perm_ext_iff_of_nodup n1 n2).mpr fun t => (e1 t).trans (e2 t).symm
  exact sum_perm (this.map _)
def LM.last (x : LM) : Int := (x.ws.getLast?).getD 0
def LM.go (x : LM) : LM := { x with at_ := x.at_ + 1 }
def LM.setH (x : LM) (h : Int) (v : Val) : LM := { x with hs := x.hs.set h.toNat v }
/-- a row, where it is not refused -/
def LM.deed (x : LM) : PRow → LM
  | .make h n => { x with hs := x.hs.set h.toNat (.thg x.fs.length), fs := x.fs ++ [List.replicate n.toNat .non] }
  | .store g k v => match x.hand g with
    | .thg t => { x with fs := x.fs.set t.toNat ((lfs x.fs t).set k.toNat (x.hand v)) }
    | _ => x
  | .load h g k => match x.hand g with
    | .thg t => x.setH h (((lfs x.fs t)[k.toNat]?).getD .non)
    | _ => x
  | .copy h g => x.setH h (x.hand g)
  | .number h n => x.setH h (.num n)
  | .drop h => x.setH h .non
  | .add h g => match x.hand h, x.hand g with
    | .num a, .num b => x.setH h (.num (a + b))
    | _, _ => x
  | .below _ _ _ => match x.hand 6, x.hand 7 with
    | .num a, .num b => if a < b then { x with at_ := 9 } else x
    | _, _ => x
  | _ => x
def LM.say (x : LM) (w : Int) : LM := { x with ws := x.ws ++ [w] }
section
variable {T : Nat} {x : LM} {rows : List PRow} {r : PRow} {w : Int}
theorem get_set {α : Type} {l : List α} {k i : Nat} {v : α} (h : k ≠ i) : (l.set k v)[i]? = l[i]? := List.getElem?_set_ne h
theorem get_set_eq {α : Type} {l : List α} {k : Nat} {v : α} (h : k < l.length) : (l.set k v)[k]? = some v := List.getElem?_set_self h
theorem tsv_mem {vs : List Val} {t : Int} : t ∈ tsv vs ↔ .thg t ∈ vs := by
  unfold tsv
  rw [List.mem_filterMap]
  constructor
  · rintro ⟨v, hv, e⟩
    cases v with
    | thg u => have : u = t := Option.some.inj e; rw [← this]; exact hv
    | non => cases e
    | num y => cases e
  · intro h
    exact ⟨_, h, rfl⟩
theorem lfs_mem {fs : List (List Val)} {t : Int} (h : 0 ≤ t ∧ t < fs.length) : lfs fs t ∈ fs ∧ fs[t.toNat]? = some (lfs fs t) := by
  have : t.toNat < fs.length := by omega
  unfold lfs
  rw [List.getElem?_eq_getElem this]
  exact ⟨List.getElem_mem _, rfl⟩
end
structure FSim (hs : List Val) (fs : List (List Val)) (d : ID) : Prop where
  w : d.Wf
  hs : d.hands = hs
  fl : ∀ e ∈ d.kept, 0 ≤ e.t ∧ fs[e.t.toNat]? = some e.fs
section
variable {hs : List Val} {fs : List (List Val)} {d : ID} {T : Nat} {x : LM} {rows : List PRow}
theorem FSim.lf (f : FSim hs fs d) {e : PT} (he : e ∈ d.kept) : lfs fs e.t = e.fs := by
  unfold lfs
  rw [(f.fl e he).2]; rfl
theorem FSim.reach (f : FSim hs fs d) (t : Int) : d.Reach t ↔ LReach hs fs t := by
  constructor
  · intro h
    induction h with
    | start a b => exact .start (by rw [← f.hs]; exact a) trivial
    | @step t u a b c ih =>
      refine .step ih ?_ trivial
      obtain ⟨e, he, rfl⟩ := mem_pids.mp a.som
      rw [pflo_of f.w.asc he] at b
      unfold lfo
      rw [f.lf he]; exact b
  · intro h
    induction h with
    | start a b => rw [← f.hs] at a; exact .start a (f.w.hv _ a)
    | @step t u a b c ih =>
      have som : t ∈ pids d.kept := Led.som ih
      obtain ⟨e, he, rfl⟩ := mem_pids.mp som
      unfold lfo at b
      rw [f.lf he] at b
      exact .step ih (by rw [pflo_of f.w.asc he]; exact b) (f.w.fv e he u b)
theorem FSim.sum (f : FSim hs fs d) {k : List PT} (hk : ∀ e ∈ k, e ∈ d.kept) : pwords k = ((pids k).map fun t => ((lfs fs t).length : Int) + 1).sum := by
  unfold pwords pids
  rw [List.map_map]
  refine congrArg List.sum (List.map_congr_left fun e he => ?_)
  show (e.fs.length : Int) + 1 = ((lfs fs e.t).length : Int) + 1
  rw [f.lf (hk e he)]
theorem FSim.nd (f : FSim hs fs d) : (pids d.kept).Nodup := f.w.asc.imp fun q => Int.ne_of_lt q
theorem FSim.rw_ (f : FSim hs fs d) : IsW hs fs d.rwords := by
  refine ⟨pids (d.kept.filter fun e => @decide (d.Reach e.t) (Classical.propDecidable _)), (List.filter_sublist.map _).nodup f.nd, fun t => ?_, ?_⟩
  · rw [mem_pids, ← f.reach]
    constructor
    · rintro ⟨e, he, rfl⟩
      exact @of_decide_eq_true _ (Classical.propDecidable _) (List.mem_filter.mp he).2
    · intro h
      obtain ⟨e, he, rfl⟩ := mem_pids.mp (Led.som h)
      exact ⟨e, List.mem_filter.mpr ⟨he, @decide_eq_true _ (Classical.propDecidable _) h⟩, rfl⟩
  · exact f.sum fun e he => (List.mem_filter.mp he).1
theorem FSim.small (f : FSim hs fs d) : FSim hs fs d.small := by
  refine ⟨small_wf f.w, f.hs, fun e he => ?_⟩
  obtain ⟨y, hy, rfl⟩ := List.mem_map.mp (show e ∈ List.map _ _ from he)
  exact f.fl y (List.mem_filter.mp (show y ∈ List.filter _ _ from hy)).1
theorem end_kept {d : ID} {e : PT} : e ∈ d.begin_.end_.kept ↔ e ∈ d.small.kept ∧ d.small.Reach e.t := by
  have e1 : d.begin_.end_.kept = d.small.kept.filter fun e => !decide (e.t ∈ (pids d.small.kept).filter fun t => !@decide (d.small.Reach t) (Classical.propDecidable _)) := rfl
  rw [e1, List.mem_filter]
  refine and_congr_right fun he => ?_
  have hp : e.t ∈ pids d.small.kept := mem_pids.mpr ⟨e, he, rfl⟩
  rw [Bool.not_eq_true', decide_eq_false_iff_not, mem_doom]
  constructor
  · intro z; exact Classical.byContradiction fun c => z ⟨hp, c⟩
  · intro h z; exact z.2 h
theorem FSim.turn (f : FSim hs fs d) : FSim hs fs d.begin_.end_ ∧ IsW hs fs (pwords d.begin_.end_.kept) := by
  have f1 := f.small
  have f2 : FSim hs fs d.begin_.end_ := ⟨end_wf (begin_wf f.w), f.hs, fun e he => f1.fl e (end_kept.mp he).1⟩
  refine ⟨f2, pids d.begin_.end_.kept, f2.nd, fun t => ?_, f2.sum fun e he => he⟩
  constructor
  · intro ht
    obtain ⟨e, he, rfl⟩ := mem_pids.mp ht
    exact (f1.reach _).mp (end_kept.mp he).2
  · intro ht
    exact Led.som ((f2.reach t).mpr ht)
structure Sim (x : LM) (d : ID) (r : RD) : Prop where
  g : Good1 d r
  room : d.room = 0
  lim : d.limit = 400
  hs : d.hands = x.hs
  cn : d.count = x.fs.length
  fl : ∀ e ∈ d.kept, 0 ≤ e.t ∧ x.fs[e.t.toNat]? = some e.fs
  sp : r.spot = x.at_
  br : r.broken = none
  dn : r.done = x.ws.length
theorem Sim.f {r : RD} (s : Sim x d r) : FSim x.hs x.fs d := ⟨s.g.w, s.hs, s.fl⟩
theorem turn_room (d : ID) : d.begin_.end_.room = d.room ∧ d.begin_.end_.limit = d.limit ∧ d.begin_.end_.count = d.count ∧ d.begin_.end_.hands = d.hands := ⟨rfl, rfl, rfl, rfl⟩
theorem Sim.turn {r : RD} (s : Sim x d r) : Sim x d.begin_.end_ r := ⟨turn_good s.g, s.room, s.lim, s.hs, s.cn, s.f.turn.1.fl, s.sp, s.br, s.dn⟩
theorem step_of {r r3 : RD} {d3 : ID} {row : PRow} (ha : r.at_ rows.length = some r.spot) (er : rows[r.spot.toNat]? = some row) (e : rowDone rows row d { r with done := r.done + 1 } = (d3, .ok r3)) : step1 rows d r = (d3, r3) := by
  unfold step1
  rw [ha]
  simp only [er, e]
/-- a plain change of a hand or of nothing -/
theorem sim_of {r r3 : RD} {d3 : ID} {x3 : LM} (g : Good1 d3 r3) (s : Sim x d r) (e1 : d3.room = d.room) (e2 : d3.limit = d.limit) (e3 : d3.hands = x3.hs) (e4 : d3.count = x3.fs.length) (e5 : ∀ e ∈ d3.kept, 0 ≤ e.t ∧ x3.fs[e.t.toNat]? = some e.fs) (e6 : r3.spot = x3.at_) (e7 : r3.broken = none) (e8 : r3.done = x3.ws.length) : Sim x3 d3 r3 :=
  ⟨g, e1.trans s.room, e2.trans s.lim, e3, e4, e5, e6, e7, e8⟩
theorem Sim.hand {r : RD} (s : Sim x d r) (h : Int) : d.hand h = x.hand h := by unfold ID.hand LM.hand; rw [s.hs]
theorem Sim.held {r : RD} (s : Sim x d r) {h t : Int} (e : x.hand h = .thg t) : t ∈ pids d.kept := by
  refine s.g.w.hv t ?_
  rw [s.hs]
  unfold LM.hand at e
  cases q : x.hs[h.toNat]? with
  | none => rw [q] at e; cases e
  | some v => rw [q] at e; cases e; exact tsv_mem.mpr (List.mem_of_getElem? q)
theorem Sim.fsOf {r : RD} (s : Sim x d r) {h t : Int} (e : x.hand h = .thg t) : d.fsOf t = lfs x.fs t ∧ 0 ≤ t := by
  obtain ⟨p, hp, rfl⟩ := mem_pids.mp (s.held e)
  unfold ID.fsOf
  rw [find_pt s.g.w.asc hp]
  exact ⟨(s.f.lf hp).symm, (s.fl p hp).1⟩

end
section
variable {hs : List Val} {fs : List (List Val)} {d : ID} {T : Nat} {x : LM} {rows : List PRow} {r : RD} {row : PRow} {w : Int}
def rd1 (r : RD) : RD := { r with done := r.done + 1 }
theorem Sim.at_ (s : Sim x d r) (on : x.at_ < rows.length) : r.at_ rows.length = some r.spot := if_pos ⟨s.br, by rw [s.sp]; omega⟩
theorem Sim.rowAt (s : Sim x d r) (er : rows[x.at_]? = some row) : rows[r.spot.toNat]? = some row := by rw [s.sp, Int.toNat_natCast]; exact er
theorem okH_of {h : Int} (h0 : 0 ≤ h) (h1 : h < 8) : okH h := ⟨h0, h1⟩
theorem okF_of {n : Int} (h : -(2 ^ 44) ≤ n) (h1 : n ≤ 2 ^ 44) : okF n := by
  have e : FAR = 1000000000000000000000000000000000000000000000000000000000000 := rfl
  unfold okF
  rw [e]
  omega
/-- the deeds of the law's rows -/
structure Deed (x : LM) (d : ID) (row : PRow) (d3 : ID) : Prop where
  e1 : d3.room = d.room
  e2 : d3.limit = d.limit
  hs : d3.hands = (x.go.deed row).hs
  cn : d3.count = (x.go.deed row).fs.length
  fl : ∀ e ∈ d3.kept, 0 ≤ e.t ∧ (x.go.deed row).fs[e.t.toNat]? = some e.fs
theorem Deed.hand_ (s : Sim x d r) {h : Int} {v : Val} (e : x.go.deed row = x.go.setH h v) : Deed x d row (d.setHand h v) := by
  refine ⟨rfl, rfl, ?_, ?_, ?_⟩
  · rw [e]; show d.hands.set h.toNat v = x.hs.set h.toNat v; rw [s.hs]
  · rw [e]; exact s.cn
  · rw [e]; exact s.fl
theorem Deed.non_ (s : Sim x d r) (e : x.go.deed row = x.go) : Deed x d row d := by
  refine ⟨rfl, rfl, ?_, ?_, ?_⟩
  · rw [e]; exact s.hs
  · rw [e]; exact s.cn
  · rw [e]; exact s.fl
theorem Sim.th (s : Sim x d r) {g t : Int} (h0 : 0 ≤ g) (h1 : g < 8) (e : x.hand g = .thg t) : d.th g = some t := th_of (okH_of h0 h1) (by rw [s.hand, e])
theorem Sim.nu (s : Sim x d r) {g t : Int} (h0 : 0 ≤ g) (h1 : g < 8) (e : x.hand g = .num t) : d.nu g = some t := nu_of (okH_of h0 h1) (by rw [s.hand, e])
theorem deed_make (s : Sim x d r) {h n : Int} (h0 : 0 ≤ h) (h1 : h < 8) (n0 : 0 ≤ n) (n6 : n ≤ 6) : (pwords d.kept + (n + 1) ≤ 400 → ∃ d3, d.deed (.make h n) = (d3, none) ∧ Deed x d (.make h n) d3) ∧ (¬ pwords d.kept + (n + 1) ≤ 400 → d.deed (.make h n) = (d, some ("NoRoom" : Str))) := by
  have pre : d.pre (n + 1) = d := if_neg fun z => by have := z.1; rw [s.room] at this; cases this
  have e0 : d.deed (.make h n) = if pwords d.kept + (n + 1) ≤ 400 then (d.made_ h n, none) else (d, some ("NoRoom" : Str)) := by
    simp only [ID.deed]
    rw [if_pos (okH_of h0 h1), if_pos ⟨n0, n6⟩, pre, s.lim]
  refine ⟨fun q => ⟨d.made_ h n, by rw [e0, if_pos q], ?_⟩, fun q => by rw [e0, if_neg q]⟩
  refine ⟨rfl, rfl, ?_, ?_, ?_⟩
  · show d.hands.set h.toNat (.thg d.count) = x.hs.set h.toNat (.thg x.fs.length)
    rw [s.hs, s.cn]
  · show d.count + 1 = ((x.fs ++ [List.replicate n.toNat Val.non]).length : Int)
    rw [List.length_append, List.length_singleton, s.cn]; omega
  · intro e he
    show 0 ≤ e.t ∧ (x.fs ++ [List.replicate n.toNat Val.non])[e.t.toNat]? = some e.fs
    rcases List.mem_append.mp (show e ∈ d.kept ++ [_] from he) with z | z
    · obtain ⟨a, b⟩ := s.fl e z
      refine ⟨a, ?_⟩
      have : e.t.toNat < x.fs.length := by
        rcases Nat.lt_or_ge e.t.toNat x.fs.length with q | q
        · exact q
        · rw [List.getElem?_eq_none q] at b; cases b
      rw [List.getElem?_append_left this]; exact b
    · rw [List.mem_singleton.mp z]
      show 0 ≤ d.count ∧ (x.fs ++ [List.replicate n.toNat Val.non])[d.count.toNat]? = some (List.replicate n.toNat Val.non)
      rw [s.cn]
      refine ⟨Int.natCast_nonneg _, ?_⟩
      rw [Int.toNat_natCast, List.getElem?_append_right (Nat.le_refl _), Nat.sub_self]; rfl

end
section
variable {d : ID} {T : Nat} {x : LM} {rows : List PRow} {r : RD} {row : PRow} {w : Int}
theorem go_none {steps : Int} {n : Nat} {y : MR} (h : ¬ (y.r.at_ rows.length ≠ none ∧ y.r.done < steps)) : mrGo rows steps n y = y := by
  cases n with
  | zero => rfl
  | succ n => exact if_neg h
theorem sim_new : Sim LM.new MR.new.d MR.new.r := ⟨new_good, rfl, rfl, rfl, rfl, (fun e he => by cases he), rfl, rfl, rfl⟩
end
section
variable {d d3 : ID} {x x3 : LM} {rows : List PRow} {r r3 : RD} {row : PRow} {w steps : Int}
theorem sim_next (s : Sim x d r) (on : x.at_ < rows.length) (er : rows[x.at_]? = some row) (e1 : rowDone rows row d.begin_.end_ (rd1 r) = (d3, .ok r3)) (h1 : d3.room = 0) (h2 : d3.limit = 400) (h3 : d3.hands = x3.hs) (h4 : d3.count = x3.fs.length) (h5 : ∀ e ∈ d3.kept, 0 ≤ e.t ∧ x3.fs[e.t.toNat]? = some e.fs)
    (h6 : r3.spot = x3.at_) (h7 : r3.broken = none) (h8 : r3.done = r.done + 1) (h9 : x3.ws.length = x.ws.length + 1) : step1 rows d.begin_.end_ r = (d3, r3) ∧ Sim x3 d3 r3 := by
  have s2 := s.turn
  have ha := s2.at_ on
  have es : step1 rows d.begin_.end_ r = (d3, r3) := step_of ha (s2.rowAt er) e1
  have g := (step_good (rows := rows) s2.g (by rw [ha]; exact fun z => by cases z)).1
  rw [es] at g
  exact ⟨es, g, h1, h2, h3, h4, h5, h6, h7, by rw [h8, h9, s.dn]; simp⟩
theorem mr_next {f : Nat} {m k : Int} (s : Sim x d r) (on : x.at_ < rows.length) (lt : x.ws.length < steps) (es : step1 rows d.begin_.end_ r = (d3, r3)) (s3 : Sim x3 d3 r3) (h9 : x3.ws.length = x.ws.length + 1) (iw : IsW x3.hs x3.fs w) :
    mrGo rows steps (f + 1) ⟨d, r, m, k⟩ = mrGo rows steps f ⟨d3, r3, if m < w then w else m, if m < w then x.ws.length + 1 else k⟩ := by
  have ha := s.at_ on
  have e1 : mrGo rows steps (f + 1) ⟨d, r, m, k⟩ = mrGo rows steps f (mrOne rows ⟨d, r, m, k⟩) := if_pos ⟨by rw [show (MR.mk d r m k).r = r from rfl, ha]; exact (fun z => by cases z), by show r.done < steps; rw [s.dn]; exact lt⟩
  have ew : d3.rwords = w := s3.f.rw_.eq iw
  have ld : r3.done = (x.ws.length : Int) + 1 := by rw [s3.dn, h9]; simp
  rw [e1]
  congr 1
  unfold mrOne
  simp only [es, ew, ld]
theorem isW_none {hs : List Val} {fs : List (List Val)} (h : tsv hs = []) : IsW hs fs 0 := by
  refine ⟨[], List.nodup_nil, fun t => ⟨(fun h => by cases h), fun hr => ?_⟩, rfl⟩
  induction hr with
  | start a b => rw [h] at a; cases a
  | step _ _ _ ih => cases ih
end
end PI

set_option Elab.async false
set_option linter.all false
set_option maxRecDepth 100000
set_option maxHeartbeats 2000000
namespace PI
open PySem PySem.Spec PyProof.Rows L2 SX0 R_k82
variable {K : PySem.W.Frag} {H : Hp} {Q : VK} {E : XK} {L R A : List Chunk} {σ : L2.St} {De : Ends}
def okP (p : Int) : Prop := 1 ≤ p ∧ p ≤ 100
theorem c_look_at_pace {p : Int} (h1 : okP p → Q .non H) (h2 : ¬ okP p → E (Ex K "BadCount") none H) : sp_look_at_pace K [.int p] H Q E := by
  refine i_look_at_pace ?_
  unfold t_look_at_pace
  walk_at "vh"
  refine x_ite (fun a => ?_) fun a => ?_
  · walk_at "vh"; exact h2 fun z => by have := z.1; omega
  · walk_at "vh"
    refine x_ite (fun b => ?_) fun b => ?_
    · walk_at "vh"; exact h2 fun z => by have := z.2; omega
    · walk_at "vh"; exact h1 ⟨by omega, by omega⟩
theorem c_room_needed {m p : Int} (h1 : 0 ≤ m → m ≤ 400 → okP p → Q (.int (m + 2 * (m / p + 16))) H) (h2 : ¬ (0 ≤ m ∧ m ≤ 400 ∧ okP p) → E (Ex K "BadCount") none H) : sp_room_needed K [.int m, .int p] H Q E := by
  refine i_room_needed ?_
  unfold t_room_needed
  walk_at "vh"
  refine x_ite (fun a => ?_) fun a => ?_
  · walk_at "vh"; exact h2 fun z => by have := z.1; omega
  walk_at "vh"
  refine x_ite (fun b => ?_) fun b => ?_
  · walk_at "vh"; exact h2 fun z => by have := z.2.1; omega
  walk_at "vh"
  refine c_look_at_pace (fun ok => ?_) fun n => h2 fun z => n z.2.2
  have := ok.1
  have := ok.2
  walk_at "vh"
  refine x_fdv (cdiv ⟨by omega, by omega⟩) ?_
  walk_at "vh"
  refine x_mulL (by decide) ?_
  walk_at "vh"
  exact h1 (by omega) (by omega) ok
/-! ### the number of a cell: any of eight -/
theorem ints_at {l : List Int} {i : Int} (h : 0 ≤ i ∧ i < l.length) : ∃ n, atI (l.map V.int) i = some (V.int n) := by
  obtain ⟨k, rfl⟩ : ∃ k : Nat, i = (k : Int) := ⟨i.toNat, by omega⟩
  have hk : k < l.length := by omega
  exact ⟨l[k], atI_at (by rw [List.getElem?_map, List.getElem?_eq_getElem hk]; rfl)⟩
theorem c_law_number {c l m : Int} (hh : Hs H L) (hm : l ≤ m) (b : -5000 ≤ l ∧ m ≤ 5000) (h : ∀ n H', Hs H' L → Q (.int n) H') : sp__law_number K [.int c, .int l, .int m] H Q E := by
  refine i__law_number ?_
  unfold t__law_number
  walk_at "vh"
  refine x_fdv (cdiv ⟨by decide, by decide⟩) ?_
  walk_at "vh"
  refine x_pow ⟨by decide, by decide, by decide⟩ ?_
  walk_at "vh"
  refine x_mod (by decide) ?_
  generalize c / 8 % 10 ^ (60 : Int).toNat = far
  walk_at "vh"
  refine x_mod (by omega) ?_
  walk_at "vh"
  refine x_fdv (cdiv ⟨by decide, by decide⟩) ?_
  walk_at "vh"
  refine x_mod (by omega) ?_
  walk_at "vh"
  refine y_lst hh fun p H hh => ?_
  walk_at "vh"
  refine x_mod (by decide) ?_
  obtain ⟨n, en⟩ := ints_at (l := [l, m, l + far % (m + 1 - l), l - 1, m + 1, l - 1 - far, m + 1 + far, l + far / 7 % (m + 1 - l)]) (i := c % 8) ⟨by omega, by show c % 8 < 8; omega⟩
  exact x_ixL (SqL.of (hh.g 0 rfl)) en (h n _ hh.tail)
/-! ### the start of a run on any hall -/
theorem c_run_init0 {x dx h pa : Addr} {prog : List PT_} {rows : List PRow} (hh : Hs H ([(x, .ins (RC K) dx [])] :: [(pa, .tup (prog.map PV.v))] :: vcs prog :: R)) (ep : prog.map (·.d) = rows.map PRow.enc) (rok : ∀ p ∈ prog, RowOk p.d) (ln : prog.length ≤ 100000)
    (k : ∀ s : RS, s.self = x → s.lines = [] → s.broken = none → ∀ H', Hs H' (s.c K :: R) → Q .non H') : sp_Running___init__ K [.ref x, .ref pa, .ref h] H Q E := by
  refine i_Running___init__ ?_
  unfold t_Running___init__
  walk_at "vh"
  refine y_tupT (SqT.of (hh.g 1 rfl)) ?_
  walk_at "vh"
  refine y_sfd hh 0 rfl (by walk_at "hm") (by show (0 : Nat) < 1000; decide) fun H hh => ?_
  walk_at "vh"
  refine y_sfd hh 0 rfl (by walk_at "hm") (by show (1 : Nat) < 1000; decide) fun H hh => ?_
  walk_at "vh"
  refine c_marks_inT (prog := prog) (fun H' h' => SqT.of (h'.g 1 rfl)) (fun H' h' p hp => PV.ok_of h' 2 rfl hp) rok ln hh fun pl H hh => ?_
  walk_at "vh"
  refine y_sfd hh 1 rfl (by walk_at "hm") (by show (2 : Nat) < 1000; decide) fun H hh => ?_
  walk_at "vh"
  refine y_sfd hh 1 rfl (by walk_at "hm") (by show (3 : Nat) < 1000; decide) fun H hh => ?_
  walk_at "vh"
  refine y_sfd hh 1 rfl (by walk_at "hm") (by show (4 : Nat) < 1000; decide) fun H hh => ?_
  walk_at "vh"
  refine y_lst hh fun ln H hh => ?_
  walk_at "vh"
  refine y_sfd hh 2 rfl (by walk_at "hm") (by show (5 : Nat) < 1000; decide) fun H hh => ?_
  walk_at "vh"
  refine y_sfd hh 2 rfl (by walk_at "hm") (by show (6 : Nat) < 1000; decide) fun H hh => ?_
  refine k ⟨x, dx, pl, ln, pa, h, prog, 0, 0, [], none⟩ rfl rfl rfl H ?_
  have h3 := Hs.pick (L := [[(ln, HO.lst [])], [(pl, .dK (kvM (mks (prog.map (·.d)))))], [(x, .ins (RC K) dx [("program", .ref pa), ("hall", .ref h), ("places", .ref pl), ("spot", .int 0), ("rows_done", .int 0), ("lines", .ref ln), ("broken", .non)])], [(pa, .tup (prog.map PV.v))], vcs prog]) (R := R) hh [2, 1, 0, 3, 4]
  refine h3.eq ?_
  simp [RS.c, RS.L, RS.fs, oS, vcs]
end PI

set_option Elab.async false
set_option linter.all false
set_option maxRecDepth 100000
set_option maxHeartbeats 2000000
namespace PI
open PySem PySem.Spec PyProof.Rows L2 SX0 R_k82
variable {K : PySem.W.Frag} {H : Hp} {Q : VK} {E : XK} {L R A : List Chunk} {σ : L2.St} {De : Ends}
/-! ### an old mover's making: nothing of it is looked at again -/
theorem c_mover_init {x dx : Addr} {l : Int} (hh : Hs H ([(x, .ins (He.ga K "OldMover") dx [])] :: L)) (hl : 7 ≤ l ∧ l ≤ 400) (h : ∀ H', Hs H' L → Q .non H') : sp_OldMover___init__ K [.ref x, .int l] H Q E := by
  refine i_OldMover___init__ ?_
  unfold t_OldMover___init__
  walk_at "vh"
  refine c_look_at_limits (fun _ => ?_) fun z => absurd ⟨.inl rfl, hl.1, hl.2⟩ z
  walk_at "vh"
  refine i_Halves___init__ ?_
  unfold t_Halves___init__
  walk_at "vh"
  refine y_sfd hh 0 rfl (by walk_at "hm") (by show (0 : Nat) < 1000; decide) fun H hh => ?_
  replace hh : Hs H ([(x, .ins (He.ga K "OldMover") dx [("limit", .int l)])] :: L) := hh
  walk_at "vh"
  refine x_mulL (by decide) ?_
  walk_at "vh"
  refine y_mks hh fun m dm H hh => ?_
  refine i_Memory___init__ ?_
  unfold t_Memory___init__
  walk_at "vh"
  refine y_lst hh fun p H hh => ?_
  walk_at "vh"
  refine y_rep hh (hh.g 0 rfl) (by omega) (by omega) (by simp; omega) fun w H hh => ?_
  walk_at "vh"
  refine y_sfd hh 2 rfl (by walk_at "hm") (by show (0 : Nat) < 1000; decide) fun H hh => ?_
  refine ⟨rfl, ?_⟩
  walk_at "vh"
  refine y_sfd hh 4 rfl (by walk_at "hm") (by show (1 : Nat) < 1000; decide) fun H hh => ?_
  replace hh : Hs H ([(x, .ins (He.ga K "OldMover") dx [("limit", .int l), ("words", .ref m)])] :: L) := hh.tail.tail.tail.tail
  walk_at "vh"
  refine y_lst hh fun p2 H hh => ?_
  walk_at "vh"
  refine y_rep hh (hh.g 0 rfl) (by decide) (by decide) (by decide) fun w2 H hh => ?_
  walk_at "vh"
  refine y_sfd hh 2 rfl (by walk_at "hm") (by show (2 : Nat) < 1000; decide) fun H hh => ?_
  replace hh : Hs H ([(x, .ins (He.ga K "OldMover") dx [("limit", .int l), ("words", .ref m), ("hold", .ref w2)])] :: L) := hh.tail.tail
  walk_at "vh"
  refine y_mks hh fun m2 dm2 H hh => ?_
  refine i_NameTable___init__ ?_
  unfold t_NameTable___init__
  walk_at "vh"
  refine y_lst hh fun p3 H hh => ?_
  walk_at "vh"
  refine y_rep hh (hh.g 0 rfl) (by decide) (by decide) (by decide) fun w3 H hh => ?_
  walk_at "vh"
  refine y_sfd hh 2 rfl (by walk_at "hm") (by show (0 : Nat) < 1000; decide) fun H hh => ?_
  refine ⟨rfl, ?_⟩
  walk_at "vh"
  refine y_sfd hh 4 rfl (by walk_at "hm") (by show (3 : Nat) < 1000; decide) fun H hh => ?_
  replace hh : Hs H ([(x, .ins (He.ga K "OldMover") dx [("limit", .int l), ("words", .ref m), ("hold", .ref w2), ("weak", .ref m2)])] :: L) := hh.tail.tail.tail.tail
  walk_at "vh"
  refine y_mks hh fun m3 dm3 H hh => ?_
  refine i_WordTable___init__ ?_
  unfold t_WordTable___init__
  walk_at "vh"
  refine y_dnewK hh fun p4 H hh => ?_
  walk_at "vh"
  refine y_sfd hh 1 rfl (by walk_at "hm") (by show (0 : Nat) < 1000; decide) fun H hh => ?_
  walk_at "vh"
  refine y_lst hh fun p5 H hh => ?_
  walk_at "vh"
  refine y_sfd hh 2 rfl (by walk_at "hm") (by show (1 : Nat) < 1000; decide) fun H hh => ?_
  refine ⟨rfl, ?_⟩
  walk_at "vh"
  refine y_sfd hh 4 rfl (by walk_at "hm") (by show (4 : Nat) < 1000; decide) fun H hh => ?_
  replace hh : Hs H ([(x, .ins (He.ga K "OldMover") dx [("limit", .int l), ("words", .ref m), ("hold", .ref w2), ("weak", .ref m2), ("last", .ref m3)])] :: L) := hh.tail.tail.tail.tail
  walk_at "vh"
  refine y_dnewK hh fun p6 H hh => ?_
  walk_at "vh"
  refine y_sfd hh 1 rfl (by walk_at "hm") (by show (5 : Nat) < 1000; decide) fun H hh => ?_
  replace hh : Hs H ([(x, .ins (He.ga K "OldMover") dx [("limit", .int l), ("words", .ref m), ("hold", .ref w2), ("weak", .ref m2), ("last", .ref m3), ("stands", .ref p6)])] :: L) := hh.tail
  walk_at "vh"
  refine y_sfd hh 0 rfl (by walk_at "hm") (by show (6 : Nat) < 1000; decide) fun H hh => ?_
  replace hh : Hs H ([(x, .ins (He.ga K "OldMover") dx [("limit", .int l), ("words", .ref m), ("hold", .ref w2), ("weak", .ref m2), ("last", .ref m3), ("stands", .ref p6), ("made_many", .int 0)])] :: L) := hh
  walk_at "vh"
  refine y_sfd hh 0 rfl (by walk_at "hm") (by show (7 : Nat) < 1000; decide) fun H hh => ?_
  replace hh : Hs H ([(x, .ins (He.ga K "OldMover") dx [("limit", .int l), ("words", .ref m), ("hold", .ref w2), ("weak", .ref m2), ("last", .ref m3), ("stands", .ref p6), ("made_many", .int 0), ("held_words", .int 0)])] :: L) := hh
  walk_at "vh"
  refine y_sfd hh 0 rfl (by walk_at "hm") (by show (8 : Nat) < 1000; decide) fun H hh => ?_
  replace hh : Hs H ([(x, .ins (He.ga K "OldMover") dx [("limit", .int l), ("words", .ref m), ("hold", .ref w2), ("weak", .ref m2), ("last", .ref m3), ("stands", .ref p6), ("made_many", .int 0), ("held_words", .int 0), ("now", .int 0)])] :: L) := hh
  walk_at "vh"
  refine y_sfd hh 0 rfl (by walk_at "hm") (by show (9 : Nat) < 1000; decide) fun H hh => ?_
  replace hh : Hs H ([(x, .ins (He.ga K "OldMover") dx [("limit", .int l), ("words", .ref m), ("hold", .ref w2), ("weak", .ref m2), ("last", .ref m3), ("stands", .ref p6), ("made_many", .int 0), ("held_words", .int 0), ("now", .int 0), ("up", .int 0)])] :: L) := hh
  walk_at "vh"
  refine y_sfd hh 0 rfl (by walk_at "hm") (by show (10 : Nat) < 1000; decide) fun H hh => ?_
  replace hh : Hs H ([(x, .ins (He.ga K "OldMover") dx [("limit", .int l), ("words", .ref m), ("hold", .ref w2), ("weak", .ref m2), ("last", .ref m3), ("stands", .ref p6), ("made_many", .int 0), ("held_words", .int 0), ("now", .int 0), ("up", .int 0), ("down", .int l)])] :: L) := hh
  walk_at "vh"
  refine y_sfd hh 0 rfl (by walk_at "hm") (by show (11 : Nat) < 1000; decide) fun H hh => ?_
  replace hh : Hs H ([(x, .ins (He.ga K "OldMover") dx [("limit", .int l), ("words", .ref m), ("hold", .ref w2), ("weak", .ref m2), ("last", .ref m3), ("stands", .ref p6), ("made_many", .int 0), ("held_words", .int 0), ("now", .int 0), ("up", .int 0), ("down", .int l), ("going", .bl false)])] :: L) := hh
  walk_at "vh"
  refine y_lst hh fun p7 H hh => ?_
  walk_at "vh"
  refine y_sfd hh 1 rfl (by walk_at "hm") (by show (12 : Nat) < 1000; decide) fun H hh => ?_
  replace hh : Hs H ([(x, .ins (He.ga K "OldMover") dx [("limit", .int l), ("words", .ref m), ("hold", .ref w2), ("weak", .ref m2), ("last", .ref m3), ("stands", .ref p6), ("made_many", .int 0), ("held_words", .int 0), ("now", .int 0), ("up", .int 0), ("down", .int l), ("going", .bl false), ("found", .ref p7)])] :: L) := hh.tail
  walk_at "vh"
  refine y_sfd hh 0 rfl (by walk_at "hm") (by show (13 : Nat) < 1000; decide) fun H hh => ?_
  replace hh : Hs H ([(x, .ins (He.ga K "OldMover") dx [("limit", .int l), ("words", .ref m), ("hold", .ref w2), ("weak", .ref m2), ("last", .ref m3), ("stands", .ref p6), ("made_many", .int 0), ("held_words", .int 0), ("now", .int 0), ("up", .int 0), ("down", .int l), ("going", .bl false), ("found", .ref p7), ("place_next", .int 0)])] :: L) := hh
  walk_at "vh"
  refine y_sfd hh 0 rfl (by walk_at "hm") (by show (14 : Nat) < 1000; decide) fun H hh => ?_
  replace hh : Hs H ([(x, .ins (He.ga K "OldMover") dx [("limit", .int l), ("words", .ref m), ("hold", .ref w2), ("weak", .ref m2), ("last", .ref m3), ("stands", .ref p6), ("made_many", .int 0), ("held_words", .int 0), ("now", .int 0), ("up", .int 0), ("down", .int l), ("going", .bl false), ("found", .ref p7), ("place_next", .int 0), ("field_next", .int 0)])] :: L) := hh
  walk_at "vh"
  refine y_sfd hh 0 rfl (by walk_at "hm") (by show (15 : Nat) < 1000; decide) fun H hh => ?_
  replace hh : Hs H ([(x, .ins (He.ga K "OldMover") dx [("limit", .int l), ("words", .ref m), ("hold", .ref w2), ("weak", .ref m2), ("last", .ref m3), ("stands", .ref p6), ("made_many", .int 0), ("held_words", .int 0), ("now", .int 0), ("up", .int 0), ("down", .int l), ("going", .bl false), ("found", .ref p7), ("place_next", .int 0), ("field_next", .int 0), ("looks", .int 0)])] :: L) := hh
  walk_at "vh"
  refine y_sfd hh 0 rfl (by walk_at "hm") (by show (16 : Nat) < 1000; decide) fun H hh => ?_
  replace hh : Hs H ([(x, .ins (He.ga K "OldMover") dx [("limit", .int l), ("words", .ref m), ("hold", .ref w2), ("weak", .ref m2), ("last", .ref m3), ("stands", .ref p6), ("made_many", .int 0), ("held_words", .int 0), ("now", .int 0), ("up", .int 0), ("down", .int l), ("going", .bl false), ("found", .ref p7), ("place_next", .int 0), ("field_next", .int 0), ("looks", .int 0), ("lays", .int 0)])] :: L) := hh
  walk_at "vh"
  refine x_mulL (by decide) ?_
  walk_at "vh"
  refine y_tup hh fun p8 H hh => ?_
  walk_at "vh"
  refine y_lst hh fun p9 H hh => ?_
  walk_at "vh"
  refine y_sfd hh 2 rfl (by walk_at "hm") (by show (17 : Nat) < 1000; decide) fun H hh => ?_
  replace hh : Hs H ([(x, .ins (He.ga K "OldMover") dx [("limit", .int l), ("words", .ref m), ("hold", .ref w2), ("weak", .ref m2), ("last", .ref m3), ("stands", .ref p6), ("made_many", .int 0), ("held_words", .int 0), ("now", .int 0), ("up", .int 0), ("down", .int l), ("going", .bl false), ("found", .ref p7), ("place_next", .int 0), ("field_next", .int 0), ("looks", .int 0), ("lays", .int 0), ("rows", .ref p9)])] :: L) := hh.tail.tail
  exact h H hh.tail
end PI

set_option Elab.async false
set_option linter.all false
set_option maxRecDepth 100000
set_option maxHeartbeats 4000000
namespace PI
open PySem PySem.Spec PyProof.Rows L2 SX0 R_k82
variable {K : PySem.W.Frag} {H : Hp} {Q : VK} {E : XK} {L R A : List Chunk} {σ : L2.St} {De : Ends}
/-! ### a Paced that has done nothing -/
abbrev PC (K : PySem.W.Frag) : Addr := He.ga K "Paced"
abbrev fsP (pa m : Addr) (p : Int) (r dp : Addr) : List (Str × V) := [("own_program", .ref pa), ("run_hall", .ref m), ("pace_by", .int p), ("run_on", .ref r), ("held_top", .int 0), ("rounds_ended", .int 0), ("dear_pair", .ref dp)]
def Fresh (K : PySem.W.Frag) (a : Addr) (L : List Chunk) (H : Hp) : Prop := ∃ (dx dp pa m : Addr) (p : Int) (s : RS), Hs H ([(a, .ins (PC K) dx (fsP pa m p s.self dp))] :: [(dp, .tup [.int 0, .int 0])] :: (s.L K ++ L)) ∧ s.lines = [] ∧ s.broken = none
theorem c_paced_init {x dx pa m : Addr} {prog : List PT_} {rows : List PRow} {p : Int} (hh : Hs H ([(x, .ins (PC K) dx [])] :: [(pa, .tup (prog.map PV.v))] :: vcs prog :: L)) (ep : prog.map (·.d) = rows.map PRow.enc) (rok : ∀ p ∈ prog, RowOk p.d) (ln : prog.length ≤ 100000)
    (h1 : okP p → ∀ H', Fresh K x L H' → Q .non H') (h2 : ¬ okP p → E (Ex K "BadCount") none H) : sp_Paced___init__ K [.ref x, .ref pa, .ref m, .int p] H Q E := by
  refine i_Paced___init__ ?_
  unfold t_Paced___init__
  walk_at "vh"
  refine c_look_at_pace (fun ok => ?_) h2
  walk_at "vh"
  refine y_sfd hh 0 rfl (by walk_at "hm") (by show (0 : Nat) < 1000; decide) fun H hh => ?_
  walk_at "vh"
  refine y_sfd hh 0 rfl (by walk_at "hm") (by show (1 : Nat) < 1000; decide) fun H hh => ?_
  walk_at "vh"
  refine y_sfd hh 0 rfl (by walk_at "hm") (by show (2 : Nat) < 1000; decide) fun H hh => ?_
  walk_at "vh"
  refine y_mks hh fun y dy H hh => ?_
  have h3 := Hs.pick (L := [[(y, HO.ins (RC K) dy [])], [(dy, .own y)], [(x, .ins (PC K) dx [("own_program", .ref pa), ("run_hall", .ref m), ("pace_by", .int p)])], [(pa, .tup (prog.map PV.v))], vcs prog]) (R := L) hh [0, 3, 4, 2]
  refine c_run_init0 (prog := prog) (rows := rows) h3 ep rok ln fun s e1 e2 e3 H hh => ?_
  refine ⟨rfl, ?_⟩
  walk_at "vh"
  refine y_sfd hh 1 rfl (by walk_at "hm") (by show (3 : Nat) < 1000; decide) fun H hh => ?_
  walk_at "vh"
  refine y_sfd hh 1 rfl (by walk_at "hm") (by show (4 : Nat) < 1000; decide) fun H hh => ?_
  walk_at "vh"
  refine y_sfd hh 1 rfl (by walk_at "hm") (by show (5 : Nat) < 1000; decide) fun H hh => ?_
  walk_at "vh"
  refine y_tup hh fun dp H hh => ?_
  walk_at "vh"
  refine y_sfd hh 2 rfl (by walk_at "hm") (by show (6 : Nat) < 1000; decide) fun H hh => ?_
  have h4 := Hs.pick (L := [[(dp, HO.tup [.int 0, .int 0])], s.c K, [(x, .ins (PC K) dx [("own_program", .ref pa), ("run_hall", .ref m), ("pace_by", .int p), ("run_on", .ref y), ("held_top", .int 0), ("rounds_ended", .int 0), ("dear_pair", .ref dp)])]]) (R := L) hh [2, 0, 1]
  refine h1 ok H ⟨dx, dp, pa, m, p, s, ?_, e2, e3⟩
  rw [e1]
  refine Hs.sub h4 ?_
  simp [RS.c]
theorem eqvL0 : PyData.eqv (.list []) (.list []) = true := PySem.SeqAt.eqv_refl _ (by simp [PyData.canLay0, PyData.canLayAll0])
theorem eqvL2 (a b : Int) : PyData.eqv (.list [.int a, .int b]) (.list [.int a, .int b]) = true := PySem.SeqAt.eqv_refl _ (by simp [PyData.canLay0, PyData.canLayAll0])
theorem eqvT2 (a b : Int) : PyData.eqv (.tuple [.int a, .int b]) (.tuple [.int a, .int b]) = true := PySem.SeqAt.eqv_refl _ (by simp [PyData.canLay0, PyData.canLayAll0])
theorem eqvI (a : Int) : PyData.eqv (.int a) (.int a) = true := PySem.SeqAt.eqv_refl _ (by simp [PyData.canLay0, PyData.canLayAll0])
theorem eqvS : PyData.eqv (.str "refused") (.str "refused") = true := by decide +kernel
theorem shS : SeqAt.shaped (.str "refused") = true := by decide +kernel
theorem k_neL0 {p q : Addr} (h1 : H p = some (.lst [])) (h2 : H q = some (.lst [])) (h : Q (.bl false) H) : rNeU K (.ref p) (.ref q) H Q :=
  .inl ⟨_, _, .lst (SqL.of h1) .nil, .lst (SqL.of h2) .nil, rfl, rfl, by rw [eqvL0]; exact h⟩
theorem k_eqL2 {p q : Addr} {a b : Int} (h1 : H p = some (.lst [.int a, .int b])) (h2 : H q = some (.lst [.int a, .int b])) (h : Q (.bl true) H) : rEqU K (.ref p) (.ref q) H Q :=
  .inl ⟨_, _, .lst (SqL.of h1) (.cons (.int a) (.cons (.int b) .nil)), .lst (SqL.of h2) (.cons (.int a) (.cons (.int b) .nil)), rfl, rfl, by rw [eqvL2]; exact h⟩
theorem k_neT2 {p q : Addr} {a b : Int} (h1 : H p = some (.tup [.int a, .int b])) (h2 : H q = some (.tup [.int a, .int b])) (h : Q (.bl false) H) : rNeU K (.ref p) (.ref q) H Q :=
  .inl ⟨_, _, .tup (SqT.of h1) (.cons (.int a) (.cons (.int b) .nil)), .tup (SqT.of h2) (.cons (.int a) (.cons (.int b) .nil)), rfl, rfl, by rw [eqvT2]; exact h⟩
theorem k_neI {a : Int} (h : Q (.bl false) H) : rNeU K (.int a) (.int a) H Q := .inl ⟨_, _, .int a, .int a, rfl, rfl, by rw [eqvI]; exact h⟩
theorem k_neS (h : Q (.bl false) H) : rNeU K (.str "refused") (.str "refused") H Q := .inl ⟨_, _, .str _, .str _, shS, shS, by rw [eqvS]; exact h⟩
theorem k_eqS (h : Q (.bl true) H) : rEqU K (.str "refused") (.str "refused") H Q := .inl ⟨_, _, .str _, .str _, shS, shS, by rw [eqvS]; exact h⟩
theorem c_fresh {a : Addr} (hF : Fresh K a L H) (h : ∀ H', Hs H' L → Q (.bl true) H') : sp__law_fresh K [.ref a] H Q E := by
  obtain ⟨dx, dp, pa, m, p, s, hh, e1, e2⟩ := hF
  have hh : Hs H ([(a, .ins (PC K) dx (fsP pa m p s.self dp))] :: [(dp, .tup [.int 0, .int 0])] :: [(s.self, .ins (RC K) s.dx s.fs)] :: [(s.pl, .dK (kvM (mks (s.prog.map (·.d)))))] :: [(s.ln, .lst (s.lines.map PV.v))] :: [(s.pr, .tup (s.prog.map PV.v))] :: vcs s.prog :: vcs s.lines :: L) := hh
  rw [e1] at hh
  refine i__law_fresh ?_
  unfold t__law_fresh
  walk_at "vh"
  refine i_Paced_told ?_
  unfold t_Paced_told
  walk_at "vh"
  refine i_Running_told ?_
  unfold t_Running_told
  walk_at "vh"
  refine y_listL hh (SqL.of (hh.g 4 rfl)) fun q H hh => ?_
  walk_at "vh"
  refine y_lst hh fun q2 H hh => ?_
  refine k_neL0 (hh.g 1 rfl) (hh.g 0 rfl) ?_
  walk_at "vh"
  refine i_Paced_fault ?_
  unfold t_Paced_fault
  walk_at "vh"
  refine i_Running_fault ?_
  unfold t_Running_fault
  walk_at "vh"
  rw [e2]
  refine x_ndecF rfl ?_
  walk_at "vh"
  refine i_Paced_dearest ?_
  unfold t_Paced_dearest
  walk_at "vh"
  refine y_tup hh fun q3 H hh => ?_
  refine k_neT2 (hh.g 4 rfl) (hh.g 0 rfl) ?_
  walk_at "vh"
  refine i_Paced_most_held ?_
  unfold t_Paced_most_held
  walk_at "vh"
  refine i_Paced_rounds ?_
  unfold t_Paced_rounds
  walk_at "vh"
  refine y_lst hh fun q4 H hh => ?_
  walk_at "vh"
  refine y_lst hh fun q5 H hh => ?_
  exact k_eqL2 (hh.g 1 rfl) (hh.g 0 rfl) (h _ (hh.sub (flat_sub (by repeat (first | exact List.Sublist.refl _ | apply List.Sublist.cons)))))
end PI

set_option Elab.async false
set_option linter.all false
set_option maxRecDepth 100000
set_option maxHeartbeats 4000000
namespace PI
open PySem PySem.Spec PyProof.Rows L2 SX0 R_k82
variable {K : PySem.W.Frag} {H : Hp} {Q : VK} {E : XK} {L R A : List Chunk} {σ : L2.St} {De : Ends}
/-! ### the program of two rows -/
def P82 : List PRow := [.make 0 2, .say 0]
theorem p82_mem {r : List V} (h : r ∈ P82.map PRow.enc) : r = (PRow.make 0 2).enc ∨ r = (PRow.say 0).enc := by simpa [P82] using h
theorem p82_mk (i : Nat) (r : List V) (m : Str) (hi : (P82.map PRow.enc)[i]? = some r) (e : markRow r = some m) : False := by
  rcases p82_mem (List.mem_of_getElem? hi) with z | z <;> (rw [z] at e; cases e)
theorem rowOk_enc (r : PRow) : RowOk r.enc := by
  refine ⟨enc_word r, fun h => ?_⟩
  rw [wd_eq] at h
  cases r with
  | mark m => exact ⟨m, rfl⟩
  | _ => exact absurd h (by dsimp only [PRow.wd]; decide +kernel)
theorem p82_ok : ProgOk (P82.map PRow.enc) where
  ln := by decide
  ok := fun r hr => by rcases p82_mem hr with z | z <;> (rw [z]; exact rowOk_enc _)
  mp := fun i r m hi e => (p82_mk i r m hi e).elim
  gt := fun r hr v e => by rcases p82_mem hr with z | z <;> (rw [z] at e; cases e)
theorem p82_mo : MarksOk P82 := fun row hr m e => by
  simp only [P82, List.mem_cons, List.mem_nil_iff, or_false] at hr
  rcases hr with z | z <;> (subst z; cases e)
theorem p82_sp : Txt.split "make 0 2\nsay 0" "\n" = (["make 0 2", "say 0"] : List Str) := by decide +kernel
theorem p82_rv : (["make 0 2", "say 0"] : List Str).map rowV = (P82.map PRow.enc).map some := by decide +kernel
theorem isW_3 : IsW ((List.replicate 8 Val.non).set 0 (.thg 0)) [[.non, .non]] 3 := by
  refine ⟨[0], by simp, fun u => ⟨fun hu => ?_, fun hr => ?_⟩, rfl⟩
  · rw [List.mem_singleton.mp hu]
    exact .start (by decide) trivial
  · induction hr with
    | start a b => revert a; show _ ∈ [(0 : Int)] → _; exact id
    | step _ b _ ih =>
      rw [List.mem_singleton] at ih
      subst ih
      cases (show _ ∈ ([] : List Int) from b)
theorem p82_most {steps : Int} (h : 1 ≤ steps) : (mrGo P82 steps steps.toNat MR.new).m = 3 ∧ (mrGo P82 steps steps.toNat MR.new).k = 1 := by
  obtain ⟨f, hf⟩ : ∃ f, steps.toNat = f + 1 := ⟨steps.toNat - 1, by omega⟩
  rw [hf, show MR.new = ⟨MR.new.d, MR.new.r, 0, 0⟩ from rfl]
  have s := sim_new
  have s2 := s.turn
  have on : LM.new.at_ < P82.length := by decide
  have rm : pwords MR.new.d.begin_.end_.kept + (2 + 1) ≤ 400 := by
    have q := s2.f
    have e : MR.new.d.begin_.end_.kept = [] := by
      refine List.eq_nil_iff_forall_not_mem.mpr fun e he => ?_
      have := (s2.fl e he).2
      simp [LM.new] at this
    rw [e]; decide
  obtain ⟨d3, e3, hd⟩ := (deed_make s2 (h := 0) (n := 2) (by decide) (by decide) (by decide) (by decide)).1 rm
  obtain ⟨es, s3⟩ := sim_next (x3 := ⟨1, (List.replicate 8 Val.non).set 0 (.thg 0), [[.non, .non]], [3]⟩) s on (row := .make 0 2) rfl (d3 := d3) (r3 := (rd1 MR.new.r).goTo ((rd1 MR.new.r).spot + 1)) (by simp only [rowDone, PRow.mark?, e3]) (hd.e1.trans s2.room) (hd.e2.trans s2.lim) hd.hs hd.cn hd.fl rfl rfl rfl rfl
  rw [mr_next s on (by show (0 : Int) < steps; omega) es s3 rfl isW_3, if_pos (by decide), if_pos (by decide)]
  cases f with
  | zero => exact ⟨rfl, rfl⟩
  | succ f =>
    have t2 := s3.turn
    have on3 : (⟨1, (List.replicate 8 Val.non).set 0 (.thg 0), [[.non, .non]], [3]⟩ : LM).at_ < P82.length := by decide
    generalize hr : (rd1 MR.new.r).goTo ((rd1 MR.new.r).spot + 1) = r1 at s3 t2 es
    have es0 : ∃ xs, d3.begin_.end_.said 0 = some xs := by unfold ID.said; rw [if_pos (okH_of (by decide) (by decide))]; exact ⟨_, rfl⟩
    obtain ⟨xs, es0⟩ := es0
    obtain ⟨et, s4⟩ := sim_next (x3 := ⟨2, (List.replicate 8 Val.non).set 0 (.thg 0), [[.non, .non]], [3, 3]⟩) s3 on3 (row := .say 0) rfl (d3 := d3.begin_.end_) (r3 := { rd1 r1 with lines := (rd1 r1).lines ++ [xs], spot := (rd1 r1).spot + 1 }) (by simp only [rowDone, es0]) t2.room t2.lim t2.hs t2.cn t2.fl (by show r1.spot + 1 = 2; rw [s3.sp]; rfl) s3.br rfl rfl
    rw [mr_next s3 on3 (by show (1 : Int) < steps; omega) et s4 rfl isW_3, if_neg (by decide), if_neg (by decide), go_none]
    · exact ⟨rfl, rfl⟩
    · rintro ⟨q1, _⟩
      exact q1 (if_neg fun z => by have := z.2; rw [s4.sp] at this; exact absurd this (by decide))
end PI

set_option Elab.async false
set_option linter.all false
set_option maxRecDepth 100000
set_option maxHeartbeats 4000000
namespace PI
open PySem PySem.Spec PyProof.Rows L2 SX0 R_k82
variable {K : PySem.W.Frag} {H : Hp} {Q : VK} {E : XK} {L R A : List Chunk} {σ : L2.St} {De : Ends}
/-! ### what a try tells -/
theorem kitAny2 (pf : PF K) : PySem.W.kitAny K (.ref (He.ga K "BadCount")) [.ref (He.ga K "BadText"), .ref (He.ga K "BadHand")] = some false := by
  simp only [PySem.W.kitAny, pf.kit_BadCount_BadText, pf.kit_BadCount_BadHand]
def OK (way m p r : Int) : Prop := (way = 0 → 0 ≤ m ∧ m ≤ 400 ∧ okP p) ∧ (way = 1 → 1 ≤ r ∧ r ≤ 2000) ∧ (way = 2 → okP p)
theorem c_most_refused {pa : Addr} {steps : Int} (h : ¬ (1 ≤ steps ∧ steps ≤ 2000)) (k : E (Ex K "BadCount") none H) : sp_most_reached K [.ref pa, .int steps] H Q E := by
  refine i_most_reached ?_
  unfold t_most_reached
  walk_at "vh"
  refine x_ite (fun a => ?_) fun a => ?_
  · walk_at "vh"; exact k
  · walk_at "vh"
    refine x_ite (fun b => ?_) fun b => by omega
    walk_at "vh"; exact k
theorem c_law_word (pf : PF K) {way m p r : Int} (hw : way = 0 ∨ way = 1 ∨ way = 2) (hh : Hs H L)
    (h0 : way = 0 → OK way m p r → ∀ H', Hs H' L → Q (.int (m + 2 * (m / p + 16))) H')
    (h1 : way = 1 → OK way m p r → ∀ q H', Hs H' ([(q, .tup [.int 3, .int 1])] :: L) → Q (.ref q) H')
    (h2 : way = 2 → OK way m p r → ∀ q H', Fresh K q L H' → Q (.ref q) H')
    (hx : ¬ OK way m p r → ∀ H', Hs H' L → Q (.str "refused") H') : sp__law_word K [.int way, .int m, .int p, .int r] H Q E := by
  refine i__law_word ?_
  unfold t__law_word
  walk_at "vh"
  refine c_read_program hh p82_sp (by decide +kernel) p82_rv p82_ok fun pa prog H ep hh => ?_
  have rok : ∀ p ∈ prog, RowOk p.d := fun p hp => by
    have : p.d ∈ P82.map PRow.enc := by rw [← ep]; exact List.mem_map.mpr ⟨p, hp, rfl⟩
    obtain ⟨r, _, e⟩ := List.mem_map.mp this
    rw [← e]; exact rowOk_enc r
  have pl : prog.length = 2 := by have := congrArg List.length ep; simpa [P82] using this
  have hL : ∀ H', Hs H' ([(pa, .tup (prog.map PV.v))] :: vcs prog :: L) → Hs H' L := fun H' h' => h'.tail.tail
  walk_at "vh"
  refine x_tryT ?_
  walk_at "vh"
  refine i_ite (fun e0 => ?_) fun n0 => ?_
  · walk_at "vh"
    refine c_room_needed (fun m0 m1 okp => ?_) fun z => ?_
    · walk_at "vh"
      refine x_decT rfl ?_
      walk_at "vh"
      exact h0 e0 ⟨fun _ => ⟨m0, m1, okp⟩, fun z => by omega, fun z => by omega⟩ H (hL _ hh)
    · have nok : ¬ OK way m p r := fun q => z (q.1 e0)
      refine ⟨true, pf.exm_BadCount_HeapError, fun _ xa hxa => ?_, fun z => by cases z⟩
      replace hh : Hs _ ([(xa, xob xa (Ex K "BadCount") none)] :: L) := Hs.new (hL _ hh) hxa
      generalize upd _ xa (xob xa (Ex K "BadCount") none) = H at hh
      walk_at "vh"
      refine x_decF (fun z => by cases z) ?_
      walk_at "vh"
      refine ⟨_, _, _, _, true, rfl, .own _, .exc pf.excC_BadCount (.bare (hh.g 0 rfl)), pf.kit_BadCount_BadCount, ?_⟩
      walk_at "vh"
      refine x_iteF ?_
      walk_at "vh"
      refine ⟨_, _, _, _, true, rfl, .ty _, .exc pf.excC_BadCount (.bare (hh.g 0 rfl)), pf.kit_BadCount_ValueError, ?_⟩
      walk_at "vh"
      refine x_iteF ?_
      walk_at "vh"
      refine y_tup hh fun tq H hh => ?_
      refine ⟨_, tq, _, _, _, false, rfl, hh.g 0 rfl, .cons (.own _) (.cons (.own _) .nil), .exc pf.excC_BadCount (.bare (hh.g 1 rfl)), kitAny2 pf, ?_⟩
      walk_at "vh"
      refine x_xmC ?_
      walk_at "vh"
      refine y_xmC (n := "BadCount") (hh.g 1 rfl) ⟨_, by repeat (first | exact List.mem_cons_self | apply List.mem_cons_of_mem)⟩ ?_
      walk_at "vh"
      refine x_ndecF rfl ?_
      walk_at "vh"
      exact hx nok H hh.tail.tail
  · walk_at "vh"
    refine i_ite (fun e1 => ?_) fun n1 => ?_
    · walk_at "vh"
      by_cases ok : 1 ≤ r ∧ r ≤ 2000
      · refine c_most_reached pf hh ep rok (by omega) p82_mo ok.1 ok.2 fun q H hh => ?_
        have mm := p82_most ok.1
        rw [mm.1, mm.2] at hh
        walk_at "vh"
        refine x_decT rfl ?_
        walk_at "vh"
        exact h1 e1 ⟨fun z => by omega, fun _ => ok, fun z => by omega⟩ q H (hh.erase 1 |>.erase 1)
      · have nok : ¬ OK way m p r := fun q => ok (q.2.1 e1)
        refine c_most_refused ok ?_
        refine ⟨true, pf.exm_BadCount_HeapError, fun _ xa hxa => ?_, fun z => by cases z⟩
        replace hh : Hs _ ([(xa, xob xa (Ex K "BadCount") none)] :: L) := Hs.new (hL _ hh) hxa
        generalize upd _ xa (xob xa (Ex K "BadCount") none) = H at hh
        walk_at "vh"
        refine x_decF (fun z => by cases z) ?_
        walk_at "vh"
        refine ⟨_, _, _, _, true, rfl, .own _, .exc pf.excC_BadCount (.bare (hh.g 0 rfl)), pf.kit_BadCount_BadCount, ?_⟩
        walk_at "vh"
        refine x_iteF ?_
        walk_at "vh"
        refine ⟨_, _, _, _, true, rfl, .ty _, .exc pf.excC_BadCount (.bare (hh.g 0 rfl)), pf.kit_BadCount_ValueError, ?_⟩
        walk_at "vh"
        refine x_iteF ?_
        walk_at "vh"
        refine y_tup hh fun tq H hh => ?_
        refine ⟨_, tq, _, _, _, false, rfl, hh.g 0 rfl, .cons (.own _) (.cons (.own _) .nil), .exc pf.excC_BadCount (.bare (hh.g 1 rfl)), kitAny2 pf, ?_⟩
        walk_at "vh"
        refine x_xmC ?_
        walk_at "vh"
        refine y_xmC (n := "BadCount") (hh.g 1 rfl) ⟨_, by repeat (first | exact List.mem_cons_self | apply List.mem_cons_of_mem)⟩ ?_
        walk_at "vh"
        refine x_ndecF rfl ?_
        walk_at "vh"
        exact hx nok H hh.tail.tail
    · have e2 : way = 2 := by omega
      walk_at "vh"
      refine y_mks hh fun x dx H hh => ?_
      refine c_mover_init (hh.erase 1) ⟨by decide, by decide⟩ fun H hh => ⟨rfl, ?_⟩
      walk_at "vh"
      refine y_mks hh fun y dy H hh => ?_
      refine c_paced_init (hh.erase 1) ep rok (by omega) (fun okp H hF => ⟨rfl, ?_⟩) fun nokp => ?_
      · walk_at "vh"
        refine x_decT rfl ?_
        walk_at "vh"
        exact h2 e2 ⟨fun z => by omega, fun z => by omega, fun _ => okp⟩ y H hF
      · have nok : ¬ OK way m p r := fun q => nokp (q.2.2 e2)
        refine ⟨true, pf.exm_BadCount_HeapError, fun _ xa hxa => ?_, fun z => by cases z⟩
        replace hh : Hs _ ([(xa, xob xa (Ex K "BadCount") none)] :: L) := Hs.new (hh.tail.tail.tail.tail) hxa
        generalize upd _ xa (xob xa (Ex K "BadCount") none) = H at hh
        walk_at "vh"
        refine x_decF (fun z => by cases z) ?_
        walk_at "vh"
        refine ⟨_, _, _, _, true, rfl, .own _, .exc pf.excC_BadCount (.bare (hh.g 0 rfl)), pf.kit_BadCount_BadCount, ?_⟩
        walk_at "vh"
        refine x_iteF ?_
        walk_at "vh"
        refine ⟨_, _, _, _, true, rfl, .ty _, .exc pf.excC_BadCount (.bare (hh.g 0 rfl)), pf.kit_BadCount_ValueError, ?_⟩
        walk_at "vh"
        refine x_iteF ?_
        walk_at "vh"
        refine y_tup hh fun tq H hh => ?_
        refine ⟨_, tq, _, _, _, false, rfl, hh.g 0 rfl, .cons (.own _) (.cons (.own _) .nil), .exc pf.excC_BadCount (.bare (hh.g 1 rfl)), kitAny2 pf, ?_⟩
        walk_at "vh"
        refine x_xmC ?_
        walk_at "vh"
        refine y_xmC (n := "BadCount") (hh.g 1 rfl) ⟨_, by repeat (first | exact List.mem_cons_self | apply List.mem_cons_of_mem)⟩ ?_
        walk_at "vh"
        refine x_ndecF rfl ?_
        walk_at "vh"
        exact hx nok H hh.tail.tail
end PI

set_option Elab.async false
set_option linter.all false
set_option maxRecDepth 100000
set_option maxHeartbeats 4000000
namespace PI
open PySem PySem.Spec PyProof.Rows L2 SX0 R_k82
variable {K : PySem.W.Frag} {H : Hp} {Q : VK} {E : XK} {L R A : List Chunk} {σ : L2.St} {De : Ends}
theorem k_isB {i : Int} (h : Q (.bl false) H) : rIsiF K [.int i, .ty "bool"] H Q := ⟨_, _, _, _, false, rfl, .ty _, .base (.base (.int i)), rfl, h⟩
theorem k_isBs {x : Str} (h : Q (.bl false) H) : rIsiF K [.str x, .ty "bool"] H Q := ⟨_, _, _, _, false, rfl, .ty _, .base (.base (.str x)), rfl, h⟩
/-- the last look: Paced -/
def t3 (K : PySem.W.Frag) (E : XK) : TS := (tSeq (tAsg (tCallS (sp__law_word K) (WE (WD E)) (tCons (tC (.int 2)) (tCons (tVar 1) (tCons (tVar 2) (tCons (tVar 3) tNil))))) (gName 5))
 (tSeq (tIfS (tNot (tTest (tChain oLe oLe (tC (.int 1)) (tVar 2) (tC (.int 100))))) (tRet (tOp (rEqU K) (tVar 5) (tC (.str "refused")))) tNext)
 (tRet (tAndV (tCB (rIsiF K) (tCons (tVar 5) (tCons (tC (.ref (He.ga K "Paced"))) tNil))) (tCallS (sp__law_fresh K) (WE (WD E)) (tCons (tVar 5) tNil))))))
theorem c_t3 (pf : PF K) {a c d : Option V} {m p r : Int} (hh : Hs H L) (hq : ∀ H', Hs H' L → Q (.bl true) H') : t3 K E { nx := fun _ H' => Q .non H', rt := Q } [a, some (.int m), some (.int p), some (.int r), c, d] H := by
  unfold t3
  walk_at "vh"
  by_cases ok : okP p
  · refine c_law_word pf (.inr (.inr rfl)) hh (fun z => by cases z) (fun z => by cases z) (fun _ _ q H hF => ?_) fun z => absurd ⟨(fun q => by cases q), (fun q => by cases q), (fun _ => ok)⟩ z
    walk_at "vh"
    refine x_ite (fun _ => ?_) fun z => absurd ok.1 z
    walk_at "vh"
    rw [decide_eq_true ok.2]
    walk_at "vh"
    refine x_iteF ?_
    walk_at "vh"
    obtain ⟨dx, dp, pa, mm, pp, s, h1, e1, e2⟩ := id hF
    refine ⟨_, _, _, _, true, rfl, .own _, pf.insC_Paced.ty (h1.g 0 rfl), pf.kit_Paced_Paced, ?_⟩
    walk_at "vh"
    exact c_fresh hF hq
  · refine c_law_word pf (.inr (.inr rfl)) hh (fun z => by cases z) (fun z => by cases z) (fun _ z => absurd (z.2.2 rfl) ok) fun _ H hh => ?_
    walk_at "vh"
    refine x_ite (fun z1 => ?_) fun _ => ?_
    · walk_at "vh"
      rw [decide_eq_false fun z => ok ⟨z1, z⟩]
      walk_at "vh"
      refine x_iteT ?_
      walk_at "vh"
      exact k_eqS (hq _ hh)
    · walk_at "vh"
      refine x_iteT ?_
      walk_at "vh"
      exact k_eqS (hq _ hh)
def t2 (K : PySem.W.Frag) (E : XK) : TS := (tSeq (tAsg (tCallS (sp__law_word K) (WE (WD E)) (tCons (tC (.int 1)) (tCons (tVar 1) (tCons (tVar 2) (tCons (tVar 3) tNil))))) (gName 5))
 (tSeq (tIfS (tTest (tOp (rNeU K) (tVar 5) (tOp (rIxL K) (tLst (tCons (tTup (tCons (tC (.int 3)) (tCons (tC (.int 1)) tNil))) (tCons (tC (.str "refused")) tNil))) (tCB cInt1 (tCons (tNotV (tChain oLe oLe (tC (.int 1)) (tVar 3) (tC (.int 2000)))) tNil))))) (tRet (tC (.bl false))) tNext) (t3 K E)))
theorem c_t2 (pf : PF K) {a c d : Option V} {m p r : Int} (hh : Hs H L) (hq : ∀ H', Hs H' L → Q (.bl true) H') : t2 K E { nx := fun _ H' => Q .non H', rt := Q } [a, some (.int m), some (.int p), some (.int r), c, d] H := by
  unfold t2
  walk_at "vh"
  by_cases ok : 1 ≤ r ∧ r ≤ 2000
  · refine c_law_word pf (.inr (.inl rfl)) hh (fun z => by cases z) (fun _ _ q H hh => ?_) (fun z => by cases z) fun z => absurd ⟨(fun q => by cases q), (fun _ => ok), (fun q => by cases q)⟩ z
    walk_at "vh"
    refine y_tup hh fun u H hh => ?_
    walk_at "vh"
    refine y_lst hh fun l H hh => ?_
    walk_at "vh"
    refine x_ite (fun _ => ?_) fun z => absurd ok.1 z
    walk_at "vh"
    rw [decide_eq_true ok.2]
    walk_at "vh"
    refine x_ixL (SqL.of (hh.g 0 rfl)) (show atI [V.ref u, V.str "refused"] 0 = some (.ref u) from rfl) ?_
    refine k_neT2 (hh.g 2 rfl) (hh.g 1 rfl) ?_
    walk_at "vh"
    exact c_t3 pf hh.tail.tail.tail hq
  · refine c_law_word pf (.inr (.inl rfl)) hh (fun z => by cases z) (fun _ z => absurd (z.2.1 rfl) ok) (fun z => by cases z) fun _ H hh => ?_
    walk_at "vh"
    refine y_tup hh fun u H hh => ?_
    walk_at "vh"
    refine y_lst hh fun l H hh => ?_
    have fin : rIxL K (.ref l) (.int 1) H fun y H2 => rNeU K (.str "refused") y H2 fun x H3 => ∃ k, x = V.bl k ∧ if k = true then tRet (tC (.bl false)) { nx := t3 K E { nx := fun _ H' => Q .non H', rt := Q }, rt := Q } [a, some (.int m), some (.int p), some (.int r), c, some (.str "refused")] H3 else tNext { nx := t3 K E { nx := fun _ H' => Q .non H', rt := Q }, rt := Q } [a, some (.int m), some (.int p), some (.int r), c, some (.str "refused")] H3 := by
      refine x_ixL (SqL.of (hh.g 0 rfl)) (show atI [V.ref u, V.str "refused"] 1 = some (.str "refused") from rfl) ?_
      refine k_neS ?_
      walk_at "vh"
      exact c_t3 pf hh.tail.tail hq
    walk_at "vh"
    refine x_ite (fun z1 => ?_) fun _ => ?_
    · walk_at "vh"
      rw [decide_eq_false fun z => ok ⟨z1, z⟩]
      walk_at "vh"
      exact fin
    · walk_at "vh"
      exact fin
def t1 (K : PySem.W.Frag) (E : XK) : TS := (tSeq (tAsg (tCallS (sp__law_word K) (WE (WD E)) (tCons (tC (.int 0)) (tCons (tVar 1) (tCons (tVar 2) (tCons (tVar 3) tNil))))) (gName 5))
 (tSeq (tIfS (tOr (tTest (tOp (rNeU K) (tVar 5) (tVar 4))) (tB (tCB (rIsiF K) (tCons (tVar 5) (tCons (tC (.ty "bool")) tNil))))) (tRet (tC (.bl false))) tNext) (t2 K E)))
theorem c_t1a (pf : PF K) {a d : Option V} {m p r : Int} (hh : Hs H L) (ok : 0 ≤ m ∧ m ≤ 400 ∧ okP p) (hq : ∀ H', Hs H' L → Q (.bl true) H') : t1 K E { nx := fun _ H' => Q .non H', rt := Q } [a, some (.int m), some (.int p), some (.int r), some (.int (m + 2 * (m / p + 16))), d] H := by
  unfold t1
  walk_at "vh"
  refine c_law_word pf (.inl rfl) hh (fun _ _ H hh => ?_) (fun z => by cases z) (fun z => by cases z) fun z => absurd ⟨(fun _ => ok), (fun q => by cases q), (fun q => by cases q)⟩ z
  walk_at "vh"
  refine k_neI ?_
  walk_at "vh"
  refine k_isB ?_
  walk_at "vh"
  exact c_t2 pf hh hq
theorem c_t1b (pf : PF K) {a d : Option V} {m p r : Int} (hh : Hs H L) (ok : ¬ (0 ≤ m ∧ m ≤ 400 ∧ okP p)) (hq : ∀ H', Hs H' L → Q (.bl true) H') : t1 K E { nx := fun _ H' => Q .non H', rt := Q } [a, some (.int m), some (.int p), some (.int r), some (.str "refused"), d] H := by
  unfold t1
  walk_at "vh"
  refine c_law_word pf (.inl rfl) hh (fun _ z => absurd (z.1 rfl) ok) (fun z => by cases z) (fun z => by cases z) fun _ H hh => ?_
  walk_at "vh"
  refine k_neS ?_
  walk_at "vh"
  refine k_isBs ?_
  walk_at "vh"
  exact c_t2 pf hh hq
theorem c_law_right (pf : PF K) {c : Int} (hh : Hs H L) (hq : ∀ H', Hs H' L → Q (.bl true) H') : sp__law_right K [.int c] H Q E := by
  refine i__law_right ?_
  unfold t__law_right
  walk_at "vh"
  refine c_law_number hh (by decide) (by decide) fun m H hh => ?_
  walk_at "vh"
  refine x_fdv (cdiv ⟨by decide, by decide⟩) ?_
  walk_at "vh"
  refine c_law_number hh (by decide) (by decide) fun p H hh => ?_
  walk_at "vh"
  refine x_fdv (cdiv ⟨by decide, by decide⟩) ?_
  walk_at "vh"
  refine c_law_number hh (by decide) (by decide) fun r H hh => ?_
  walk_at "vh"
  have go1 : ¬ (0 ≤ m ∧ m ≤ 400 ∧ okP p) → t1 K E { nx := fun _ H' => Q .non H', rt := Q } [some (.int c), some (.int m), some (.int p), some (.int r), some (.str "refused"), none] H := fun z => c_t1b pf hh z hq
  refine x_ite (fun m0 => ?_) fun m0 => ?_
  · walk_at "vh"
    refine x_ite (fun m1 => ?_) fun m1 => ?_
    · walk_at "vh"
      refine x_ite (fun p0 => ?_) fun p0 => ?_
      · walk_at "vh"
        refine x_ite (fun p1 => ?_) fun p1 => ?_
        · walk_at "vh"
          refine x_fdv (cdiv ⟨by omega, by omega⟩) ?_
          walk_at "vh"
          refine x_mulL (by decide) ?_
          refine x_rI0 ?_
          exact c_t1a pf hh ⟨m0, m1, p0, p1⟩ hq
        · repeat (first | with_reducible refine x_bl ?_ | with_reducible refine x_iteF ?_)
          refine x_next ?_
          exact go1 fun z => p1 z.2.2.2
      · repeat (first | with_reducible refine x_bl ?_ | with_reducible refine x_iteF ?_)
        refine x_next ?_
        exact go1 fun z => p0 z.2.2.1
    · repeat (first | with_reducible refine x_bl ?_ | with_reducible refine x_iteF ?_)
      refine x_next ?_
      exact go1 fun z => m1 z.2.1
  · repeat (first | with_reducible refine x_bl ?_ | with_reducible refine x_iteF ?_)
    refine x_next ?_
    exact go1 fun z => m0 z.1
end PI

set_option Elab.async false
set_option linter.all false
set_option maxRecDepth 100000
set_option maxHeartbeats 4000000
namespace PI
open PySem PySem.Spec PyProof.Rows L2 SX0 R_k82
variable {K : PySem.W.Frag} {H : Hp} {Q : VK} {E : XK} {L R A : List Chunk} {σ : L2.St} {De : Ends}
theorem x_lstRg1 {ta : TE} (h : ta σ H fun x H1 => ∃ n, x = .int n ∧ (RgOk 0 n ∧ gNew (.lst (rgV 0 n)) H1 Q)) : tLstRg (tRg1 ta) σ H Q := h
theorem scr_chunk {a : Addr} {ns : List Int} (h : SqX K H a (ns.map V.int)) : ∃ c : Chunk, Hs H [c] ∧ ∀ H' L', Hs H' (L' ++ [c]) → SqX K H' a (ns.map V.int) := by
  rcases h with (h | ⟨o, h⟩) | h
  · refine ⟨[(a, .lst (ns.map V.int))], ⟨by simp [nt, isT], fun e he => ?_⟩, fun H' L' h' => SqX.of (h'.at_ (a, HO.lst (ns.map V.int)) (by simp))⟩
    have : e = (a, HO.lst (ns.map V.int)) := by simpa using he
    subst this; exact h
  · refine ⟨[(a, .frz o (.lst (ns.map V.int)))], ⟨by simp [nt, isT], fun e he => ?_⟩, fun H' L' h' => .inl (.inr ⟨o, h'.at_ (a, HO.frz o (.lst (ns.map V.int))) (by simp)⟩)⟩
    have : e = (a, HO.frz o (.lst (ns.map V.int))) := by simpa using he
    subst this; exact h
  · exact ⟨[], ⟨by simp [nt], fun e he => by simp at he⟩, fun H' L' _ => .inr h⟩
theorem c_law (pf : PF K) {a : Addr} {ns : List Int} (hs : SqX K H a (ns.map V.int)) (hl : ns.length ≤ 63) (hq : ∀ H', Q (.bl true) H') : sp_law K [.ref a] H Q E := by
  obtain ⟨c0, hh, sc⟩ := scr_chunk hs
  refine i_law ?_
  unfold t_law
  walk_at "vh"
  refine x_lstRg1 ?_
  refine x_c ⟨13, rfl, by unfold RgOk; decide, ?_⟩
  refine y_new hh fun p H hh => ?_
  walk_at "vh"
  have e13 : rgV 0 13 = ([0, 1, 2, 3, 4, 5, 6, 7, 8, 9, 10, 11, 12] : List Int).map V.int := by rfl
  rw [e13] at hh
  refine y_cat hh (SqX.of (hh.g 0 rfl)) (sc H [_] hh) (by simp; omega) fun q H hh => ?_
  rw [← List.map_append] at hh
  generalize ([0, 1, 2, 3, 4, 5, 6, 7, 8, 9, 10, 11, 12] : List Int) ++ ns = cs at hh
  replace hh := hh.erase 1
  refine x_gList (SqL.of (hh.g 0 rfl)) ?_
  refine L_list (xs := cs.map V.int) (fun i σ H' => (∃ b, σ = [some (.ref a), b]) ∧ Hs H' ([(q, .lst (cs.map V.int))] :: [c0])) ⟨⟨_, rfl⟩, hh⟩ (fun i σ H' _ z => SqL.of (z.2.g 0 rfl)) ?_ ?_
  · rintro i x σ H ix ⟨⟨b, rfl⟩, hh⟩
    obtain ⟨c, _, rfl⟩ := get_map ix
    show tIfS _ _ _ _ _ _
    walk_at "vh"
    refine c_law_right pf hh fun H hh => ?_
    walk_at "vh"
    refine x_iteF ?_
    walk_at "vh"
    exact ⟨⟨_, rfl⟩, hh⟩
  · rintro σ H ⟨⟨b, rfl⟩, hh⟩
    walk_at "vh"
    exact hq H
end PI

set_option maxRecDepth 100000
theorem PySem.Challenge.cw_stillheap_k82_pace_refused_holds : PySem.Challenge.rw_stillheap_k82_pace_refused.Holds := by
  exact D_k82.holds_of fun K pf H a ns h1 h2 h3 h4 => PI.c_law pf h4 h1 fun _ => rfl

