import PyProof.Rows.All
import HandS.CallRecv
import HandS.ClsMeth
import HandS.Conv
import HandS.Defaults
import HandS.EndBits
import HandS.Ends
import HandS.Exc
import HandS.ExcField
import HandS.ExcOwn
import HandS.ForMost
import HandS.Head0
import HandS.Head1
import HandS.Head2
import HandS.HeadEnd
import HandS.HeadHook2
import HandS.IsInst
import HandS.More
import HandS.Property
import HandS.Star
import HandS.StrSplit
import HandS.Strs
import HandS.Style
import HandS.Text
import HandS.TryMany
import HandS.TupAny
import HandS.Wide
import HandS.WordsExc
import HandS.WordsList
import KE.GoesEnum
import KE.GoesMore
import KE.KExcInit
import KE.KExcIs
import KE.KExcSuper
import KE.KSuper
import KE.KTryMore
import KE.SortData
import OpenK.AllK
import PyProof.CallFns
import PyProof.ReprRoads
import PyProof.Rows.ReprShort
import PySem.Challenge.RW_treetrain_k37_renamed_railways
import Wide.All
import Wide.FinOn
set_option Elab.async false
set_option linter.all false
set_option maxRecDepth 100000
set_option maxHeartbeats 4000000
namespace TT
open PySem PySem.Spec PyProof.Rows L2
structure Rm (k : Nat) (A : Around) : Prop where
  r : Room k A
  g : A.guards = some []
theorem Rm.mono {j k : Nat} {A : Around} (h : Rm k A) (l : j ≤ k) : Rm j A := ⟨h.r.mono l, h.g⟩
theorem Rm.deeper {k : Nat} {A : Around} (h : Rm (k + 1) A) (e : Env) : Rm k (A.deeper e) := ⟨h.r.deeper e, h.g⟩
theorem Rm.in1 {k : Nat} {A : Around} (h : Rm (k + 1) A) : Rm k A.in1 := ⟨h.r.in1, h.g⟩
theorem make_guards {A : Around} {C : Addr} {us : List Value} {kw : List (Str × Value)} :
    (A.under (.builtin "type.__call__" ⟨.ref C :: us, kw⟩)).guards = A.guards := by
  have e : (Code.builtin "type.__call__" ⟨.ref C :: us, kw⟩).isGuard = false := by
    show guardIds.contains "type.__call__" = false
    decide +kernel
  simp [Around.under, Code.guards, e, pushGuards]
theorem Rm.make {k : Nat} {A : Around} (h : Rm (k + 1) A) (C : Addr) (us : List Value) (kw : List (Str × Value)) :
    Rm k (A.under (.builtin "type.__call__" ⟨.ref C :: us, kw⟩)) := ⟨h.r.make C us kw, by rw [make_guards]; exact h.g⟩
/-- by positional values -/
def FnP (P : Program) (w : World) (K : PySem.W.Frag) (mg : Str → Option Value) (base : Heap) (k : Nat) (f : Addr) (sp : Sp) : Prop :=
  ∀ (A : Around) (outer : List Env) (s : Shared) (H : Hp) (us : List Value) (vs : List V) (Q : VK) (E : XK),
    Rm k A → Env0 P w K mg base A outer s H → Vals vs us → sp vs H Q E →
      codeAny (model P w) A (.call (.ref f) ⟨us, []⟩) (CR (L2.CX P w) outer P w H s Q E) s
/-- by what the parameters are bound to -/
def FnA (P : Program) (w : World) (K : PySem.W.Frag) (mg : Str → Option Value) (base : Heap) (k : Nat) (f : Addr) (fd : FuncData) (ps : List Str) (sp : Sp) : Prop :=
  ∀ (A : Around) (outer : List Env) (s : Shared) (H : Hp) (args : Args) (us : List Value) (vs : List V) (Q : VK) (E : XK),
    Rm k A → Env0 P w K mg base A outer s H → BindsTo s fd args (ps.zip us) → Vals vs us → vs.length = ps.length → sp vs H Q E →
      codeAny (model P w) A (.call (.ref f) args) (CR (L2.CX P w) outer P w H s Q E) s
section
variable {P : Program} {w : World} {K : PySem.W.Frag} {mg : Str → Option Value} {base : Heap} {j k : Nat} {f : Addr} {fd : FuncData} {ps : List Str} {sp sp' : Sp}
theorem FnP.mono (F : FnP P w K mg base j f sp) (h : j ≤ k) : FnP P w K mg base k f sp :=
  fun A o s H us vs Q E hr => F A o s H us vs Q E (hr.mono h)
theorem FnP.imp (F : FnP P w K mg base k f sp) (h : ∀ vs H Q E, sp' vs H Q E → sp vs H Q E) : FnP P w K mg base k f sp' :=
  fun A o s H us vs Q E hr e r q => F A o s H us vs Q E hr e r (h _ _ _ _ q)
theorem FnA.mono (F : FnA P w K mg base j f fd ps sp) (h : j ≤ k) : FnA P w K mg base k f fd ps sp :=
  fun A o s H as us vs Q E hr => F A o s H as us vs Q E (hr.mono h)
theorem FnA.pos {ds : List Value} {dvs : List V} (F : FnA P w K mg base k f fd ps sp) (hb : Binds K fd ps ds) (hd : Vals dvs ds) :
    FnP P w K mg base k f (fun vs H Q E => (vs ++ dvs).length = ps.length ∧ sp (vs ++ dvs) H Q E) := by
  intro A outer s H us vs Q E hr e0 r hs
  have r2 : Vals (vs ++ dvs) (us ++ ds) := r.append hd
  have hl : (us ++ ds).length = ps.length := by rw [← r2.length]; exact hs.1
  exact F A outer s H ⟨us, []⟩ (us ++ ds) (vs ++ dvs) Q E hr e0 (hb s us (e0.mod.kin.keeps fun b o e => (e0.bs b o e).1) hl) r2 hs.1 hs.2
/-- all written -/
theorem FnA.pos0 (F : FnA P w K mg base k f fd ps sp) (hb : Binds K fd ps []) (len : ∀ vs H Q E, sp vs H Q E → vs.length = ps.length) :
    FnP P w K mg base k f sp :=
  (F.pos hb .nil).imp fun vs H Q E h => by rw [List.append_nil]; exact ⟨len _ _ _ _ h, h⟩
end
section
variable {P : Program} {w : World} {K : PySem.W.Frag} {mg : Str → Option Value} {base : Heap} {k : Nat} {f : Addr} {fd : FuncData} {name qual : Str} {params : Arguments} {body : List Stmt} {scope : Scope}
  {N ps : List Str} {sp : Sp} {dvs : List V} {kws : List (Str × V)}
theorem fnA_of (F : FunD K name qual params body scope dvs kws f fd) (S : FnScope N ps scope)
    (hbody : ∀ (cdv : Value) (A : Around) (outer : List Env) (s : Shared) (H : Hp) (vs : List V) (Q : VK) (E : XK), Rm k (A.deeper (envOfC qual scope s.heap.objs.size f cdv)) → sp vs H Q E →
      ∃ t, PSs (cxOf (L2.CX P w) P w K mg base N qual scope f cdv A outer s H E) body t ∧ t { nx := fun _ H' => Q .non H', rt := Q } (start N vs) H) :
    FnA P w K mg base (k + 1) f fd ps sp := by
  obtain ⟨oc, od, dV, kV, doc, pm, an, cdv, ct, osl, rfl, lk, hcd, _, _⟩ := F.ex
  intro A outer s H args us vs Q E hr e0 hb hv hl hsp
  refine StX.run_bnd lk hcd S hr.r e0 (G := fun xs H2 => xs = vs ∧ H2 = H) (E := E) (fun A' Ex Q' h => ?_) (fun s2 H2 xs hg _ => ?_)
  · exact hb _ _ _ _ (h s H vs us e0 Un.refl rfl (fun _ _ z => z) hv hl ⟨rfl, rfl⟩)
  · obtain ⟨rfl, rfl⟩ := hg
    exact hbody cdv A outer s2 H2 xs Q E (hr.deeper _) hsp
/-- def f(a, .., *v) -/
theorem fnP_star {pv : Str} (F : FunD K name qual params body scope dvs kws f fd) (S : FnScope N (ps ++ [pv]) scope)
    (hb : ∀ (dV kV doc pm cdv ct : Value) (an : Option Addr) (us rest : List Value), us.length = ps.length →
      bindArgs (PySem.W.fnOf name qual params body scope dV kV doc pm an cdv ct) ⟨us ++ rest, []⟩ = (newTuple rest >>= fun t => pure (ps.zip us ++ [(pv, t)])))
    (hbody : ∀ (cdv : Value) (A : Around) (outer : List Env) (s : Shared) (H : Hp) (vs : List V) (Q : VK) (E : XK), Rm k (A.deeper (envOfC qual scope s.heap.objs.size f cdv)) → sp vs H Q E →
      ∃ t, PSs (cxOf (L2.CX P w) P w K mg base N qual scope f cdv A outer s H E) body t ∧ t { nx := fun _ H' => Q .non H', rt := Q } (start N vs) H) :
    FnP P w K mg base (k + 1) f (fun vs H Q E => ∃ ws rest, vs = ws ++ rest ∧ ws.length = ps.length ∧ rest.length ≤ sizeLine ∧
      ∀ p, H p = Option.none → sp (ws ++ [V.ref p]) (upd H p (.tup rest)) Q E) := by
  obtain ⟨oc, od, dV, kV, doc, pm, an, cdv, ct, osl, rfl, lk, hcd, _, _⟩ := F.ex
  intro A outer s H us vs Q E hr e0 r hsp
  obtain ⟨ws, rest, rfl, hl, hz, hq⟩ := hsp
  obtain ⟨u1, u2, rfl, r1, r2⟩ := StX.vals_split r
  have hn : H s.heap.objs.size = Option.none := e0.hok.fresh (Nat.le_refl _)
  have hl1 : u1.length = ps.length := by rw [← r1.length]; exact hl
  have hl2 : u2.length ≤ sizeLine := by rw [← r2.length]; exact hz
  refine StX.run_bnd lk hcd S hr.r e0 (E := E) (G := fun xs H2 => ∃ p, H p = Option.none ∧ xs = ws ++ [V.ref p] ∧ H2 = upd H p (.tup rest)) (fun A' Ex Q' h => ?_) (fun s2 H2 xs hg _ => ?_)
  · rw [hb dV kV doc pm cdv ct an u1 u2 hl1]
    refine wpAny_bind (wpAny_newTuple (wpAny_pure ?_) hl2)
    let ob : Obj := { cls := .type "tuple", data := .seq u2.toArray }
    have new : ObjOk P w (upd H s.heap.objs.size (.tup rest)) (s.heap.push ob) s.heap.objs.size (.tup rest) :=
      ⟨hz, u2, r2, ⟨_, Heap.get?_push_size _ rfl, rfl, _, rfl⟩⟩
    have un := StX.un_laid (fs := frs outer) (s := s) (o := ob) (u := .tup rest) hn
    have z := h _ _ (ws ++ [V.ref s.heap.objs.size]) (u1 ++ [Value.ref s.heap.objs.size]) (StX.env0_laid e0 new) un rfl
      (fun e s' => StX.cxUp outer s H _ _ E e s' un (fun b o q => Heap.get?_push_of_some _ q) rfl) (r1.append (.cons rfl .nil))
      (by simp [hl]) ⟨_, hn, rfl, rfl⟩
    rw [List.zip_append hl1.symm] at z
    exact z
  · obtain ⟨p, hp, rfl, rfl⟩ := hg
    exact hbody cdv A outer s2 _ _ Q E (hr.deeper _) (hq p hp)
end
section
variable {X : Cx} {k : Nat} {f C : Addr} {sp : Sp} {E : XK} {x m : Str} {p pos apos : Pos} {e o : Expr} {es : List Expr} {ta te : TE} {t : TA}
theorem run_code {pins : List (Addr × Obj)} {σ : L2.St} {H : Hp} {s : Shared} {Q : VK} {us : List Value} {vs : List V} (F : FnP X.prog X.w X.K X.mg X.base k f sp) (hr : Rm k X.A)
    (hx : Passes (L2.CX X.prog X.w) X E) (I : Inv X pins σ H s) (r : Vals vs us) (h : sp vs H Q E) :
    codeAny (model X.prog X.w) X.A (.call (.ref f) ⟨us, []⟩) (fun r s' => match r with
      | .ok (.ret v) => EP X pins σ Q v s'
      | .ok _ => False
      | .error e => X.xe e s') s := by
  refine codeAny_mono (F X.A X.stack s H us vs Q E hr I.env0 r h) fun r s' hq => ?_
  match r, hq with
  | .error er, hq => exact hx pins σ H s er s' I hq
  | .ok (.ret u), hq => exact I.after hq
  | .ok .next, hq => exact False.elim hq
  | .ok .brk, hq => exact False.elim hq
  | .ok .cont, hq => exact False.elim hq
theorem run_p {pins : List (Addr × Obj)} {σ : L2.St} {H : Hp} {s : Shared} {Q : VK} {us : List Value} {vs : List V} (F : FnP X.prog X.w X.K X.mg X.base k f sp) (hr : Rm k X.A)
    (hx : Passes (L2.CX X.prog X.w) X E) (I : Inv X pins σ H s) (r : Vals vs us) (h : sp vs H Q E) : wpAny (model X.prog X.w) X.A (call (.ref f) us) (EP X pins σ Q) X.xe s := by
  refine wpAny_call (codeAny_mono (run_code F hr hx I r h) fun r s' hq => ?_)
  match r, hq with
  | .error er, hq => exact hq
  | .ok (.ret u), hq => exact hq
  | .ok .next, hq => exact False.elim hq
  | .ok .brk, hq => exact False.elim hq
  | .ok .cont, hq => exact False.elim hq
/-- what a call asks -/
def tCl (sp : Sp) (E : XK) (t : TA) : TE := fun σ H Q => t σ H fun vs H1 => sp vs H1 Q E
/-- a def of the module, called by its name -/
structure Cl (P : Program) (w : World) (K : PySem.W.Frag) (mg : Str → Option Value) (base : Heap) (k : Nat) (x : Str) (sp : Sp) : Prop where
  f : FnP P w K mg base k (He.ga K x) sp
  m : mg x = some (.ref (He.ga K x))
  kp : PySem.W.keepIn K (.ref (He.ga K x)) = true
theorem pc_call (c : Cl X.prog X.w X.K X.mg X.base k x sp) (hr : Rm k X.A) (hg : Gl X x) (hx : Passes (L2.CX X.prog X.w) X E) (ha : PA X (e :: es) t)
    (hdb : (x == ("__debug__" : Str)) = false := by decide) (he : starEach (e :: es) X.env = (false, eval e X.env) :: starEach es X.env := by rfl)
    (hpl : (backTo pos (starEach es X.env)).any (·.1) = false := by rfl) : PE X (.Call (.Name x p) (e :: es) [] pos) (tCl sp E t) := by
  refine ⟨fun pins s σ H Q I h => ?_⟩
  refine wpAny_Call_Name_kw (ld_glob I hg c.m ?_ hdb)
  refine PySem.W.callWith_K (h₀ := X.base) I.ok.mod.kin c.kp (thn (ha.run pos pins s σ H _ I h) ?_) he hpl
  rintro us s1 ⟨vs, H1, I1, r, q⟩
  exact ⟨I1.kIn, run_p c.f hr hx I1 r q⟩
theorem pc_call0 (c : Cl X.prog X.w X.K X.mg X.base k x sp) (hr : Rm k X.A) (hg : Gl X x) (hx : Passes (L2.CX X.prog X.w) X E)
    (hdb : (x == ("__debug__" : Str)) = false := by decide) : PE X (.Call (.Name x p) [] [] pos) (tCl sp E tNil) := by
  refine ⟨fun pins s σ H Q I h => ?_⟩
  refine wpAny_Call_Name_kw (ld_glob I hg c.m ?_ hdb)
  exact PySem.W.callWith_K0 I.kIn c.kp (run_p (us := []) c.f hr hx I .nil h)
/-- a method of the class at C, found at g -/
structure Mt (P : Program) (w : World) (K : PySem.W.Frag) (mg : Str → Option Value) (base : Heap) (k : Nat) (C : Addr) (m : Str) (g : Addr) (sp : Sp) : Prop where
  f : FnP P w K mg base k g sp
  c : Cls K C
  m : Meth K C m g
def tMt (C : Addr) (m : Str) (sp : Sp) (E : XK) (ta : TE) (t : TA) : TE := fun σ H Q => ta σ H fun x H1 => ∃ a dx fs,
  x = .ref a ∧ H1 a = some (.ins C dx fs) ∧ fs.lookup m = none ∧ t σ H1 fun vs H2 => sp (.ref a :: vs) H2 Q E
theorem pc_meth {g : Addr} {pl : Sem Bool} (he : PE X o ta) (c : Mt X.prog X.w X.K X.mg X.base k C m g sp) (hr : Rm k X.A) (hx : Passes (L2.CX X.prog X.w) X E) (ha : PA X (e :: es) t)
    (hst : starEach (e :: es) X.env = (false, eval e X.env) :: starEach es X.env := by rfl) (hpl : (backTo pos (starEach es X.env)).any (·.1) = false := by rfl)
    (ht : eval (.Call (.Attribute o m apos) (e :: es) [] pos) X.env = (eval o X.env >>= fun ov => standAt apos.atName >>= fun _ => holding [ov] (getMethod ov m pl) >>= fun r =>
      callWith pos r.1 r.2 (backTo pos (starEach (e :: es) X.env)) (backToKw pos (keywordEach [] X.env))) := by rfl) :
    PE X (.Call (.Attribute o m apos) (e :: es) [] pos) (tMt C m sp E ta t) := by
  refine ⟨fun pins s σ H Q I h => ?_⟩
  refine PySem.W.methodCall_KW (pl := pl) (thn (he.run pins s σ H _ I h) ?_) ht
  rintro u s1 ⟨x, H1, I1, rx, a, dx, fs, rfl, ea, l, q⟩
  obtain rfl : u = Value.ref a := rx
  refine getmeth_ok I1 ea c.c c.m l ?_
  refine PySem.W.callWith_K (first := [.ref a]) (h₀ := X.base) I.ok.mod.kin c.m.kp (thn (ha.run pos pins s1 σ H1 _ I1 q) ?_) hst hpl
  rintro us s2 ⟨vs, H2, I2, r, q2⟩
  exact ⟨I2.kIn, run_p (us := .ref a :: us) (vs := .ref a :: vs) c.f hr hx I2 (.cons rfl r) q2⟩
theorem pc_meth0 {g : Addr} {pl : Sem Bool} (he : PE X o ta) (c : Mt X.prog X.w X.K X.mg X.base k C m g sp) (hr : Rm k X.A) (hx : Passes (L2.CX X.prog X.w) X E)
    (ht : eval (.Call (.Attribute o m apos) [] [] pos) X.env = (eval o X.env >>= fun ov => standAt apos.atName >>= fun _ => holding [ov] (getMethod ov m pl) >>= fun r =>
      callWith pos r.1 r.2 (backTo pos (starEach [] X.env)) (backToKw pos (keywordEach [] X.env))) := by rfl) :
    PE X (.Call (.Attribute o m apos) [] [] pos) (tMt C m sp E ta tNil) := by
  refine ⟨fun pins s σ H Q I h => ?_⟩
  refine PySem.W.methodCall_KW (pl := pl) (thn (he.run pins s σ H _ I h) ?_) ht
  rintro u s1 ⟨x, H1, I1, rx, a, dx, fs, rfl, ea, l, q⟩
  obtain rfl : u = Value.ref a := rx
  refine getmeth_ok I1 ea c.c c.m l ?_
  exact PySem.W.callWith_K0 (first := [.ref a]) I1.kIn c.m.kp (run_p (us := [.ref a]) (vs := [.ref a]) c.f hr hx I1 (.cons rfl .nil) q)
end
end TT
namespace TT
open PySem PySem.Spec PyProof.Rows L2
section
variable {X : Cx} {k : Nat} {f C : Addr} {sp : Sp} {E : XK} {x m : Str} {p pos apos q_ : Pos} {e o : Expr} {es : List Expr} {ta te tn : TE} {t : TA}
theorem run_mk {pins : List (Addr × Obj)} {σ : L2.St} {H : Hp} {s : Shared} {Q : VK} {us : List Value} {vs : List V} (M : Mk X.K C f) (F : FnP X.prog X.w X.K X.mg X.base k f sp) (hr : Rm (k + 1) X.A)
    (hx : Passes (L2.CX X.prog X.w) X E) (I : Inv X pins σ H s) (r : Vals vs us)
    (h : ∀ y dy, H y = Option.none → H dy = Option.none → dy ≠ y → sp (V.ref y :: vs) (upd (upd H dy (.own y)) y (.ins C dy [])) (fun v H2 => v = .non ∧ Q (.ref y) H2) E) :
    wpAny (model X.prog X.w) X.A (call (.ref C) us) (EP X pins σ Q) X.xe s := by
  have hq := h (s.heap.objs.size + 1) s.heap.objs.size (I.hok.fresh (Nat.le_succ _)) (I.hok.fresh (Nat.le_refl _)) (Nat.ne_of_lt (Nat.lt_succ_self _))
  have I2 := Inv.made (C := C) I
  have r2 : Vals (V.ref (s.heap.objs.size + 1) :: vs) (Value.ref (s.heap.objs.size + 1) :: us) := .cons rfl r
  refine wpAny_call (make_map (f := f) I.kIn M.makes M.init (beq_iff_eq.mp M.fn)
    (codeAny_mono (F _ X.stack _ _ (Value.ref (s.heap.objs.size + 1) :: us) _ _ E (hr.make C us []) (I2.env0.make C us []) r2 hq) fun r s' hq' => ?_))
  match r, hq' with
  | .error er, hq' => exact hx pins σ _ _ er s' I2 hq'
  | .ok (.ret u), hq' =>
    obtain ⟨v, H', I3, rv, ev, q3⟩ := I2.after hq'
    subst ev
    exact ⟨rv, ⟨V.ref (s.heap.objs.size + 1), H', I3, rfl, q3⟩⟩
  | .ok .next, hq' => exact False.elim hq'
  | .ok .brk, hq' => exact False.elim hq'
  | .ok .cont, hq' => exact False.elim hq'
/-- what the making of an instance asks, behind the arguments -/
def MkQ (C : Addr) (sp : Sp) (E : XK) (vs : List V) (H : Hp) (Q : VK) : Prop := ∀ y dy, H y = Option.none → H dy = Option.none → dy ≠ y →
  sp (V.ref y :: vs) (upd (upd H dy (.own y)) y (.ins C dy [])) (fun v H2 => v = .non ∧ Q (.ref y) H2) E
structure MkC (P : Program) (w : World) (K : PySem.W.Frag) (mg : Str → Option Value) (base : Heap) (k : Nat) (C : Addr) (g : Addr) (sp : Sp) : Prop where
  f : FnP P w K mg base k g sp
  m : Mk K C g
def tMkC (C : Addr) (sp : Sp) (E : XK) (tn : TE) (t : TA) : TE := fun σ H Q => tn σ H fun y H0 => y = .ref C ∧ t σ H0 fun vs H1 => MkQ C sp E vs H1 Q
/-- C(e, ..), C a name (a global or a local) -/
theorem pc_make {g : Addr} (hn : PE X (.Name x p) tn) (c : MkC X.prog X.w X.K X.mg X.base k C g sp) (hr : Rm (k + 1) X.A) (hx : Passes (L2.CX X.prog X.w) X E) (ha : PA X (e :: es) t)
    (he : starEach (e :: es) X.env = (false, eval e X.env) :: starEach es X.env := by rfl) (hpl : (backTo pos (starEach es X.env)).any (·.1) = false := by rfl) :
    PE X (.Call (.Name x p) (e :: es) [] pos) (tMkC C sp E tn t) := by
  refine ⟨fun pins s σ H Q I h => ?_⟩
  refine wpAny_Call_Name_kw (thn (hn.run pins s σ H _ I h) ?_)
  rintro u s0 ⟨y, H0, I0, ry, rfl, h⟩
  obtain rfl : u = Value.ref C := ry
  refine PySem.W.callWith_K (h₀ := X.base) I.ok.mod.kin c.m.kp (thn (ha.run pos pins s0 σ H0 _ I0 h) ?_) he hpl
  rintro us s1 ⟨vs, H1, I1, r, q⟩
  exact ⟨I1.kIn, run_mk c.m c.f hr hx I1 r q⟩
theorem pc_make0 {g : Addr} (hn : PE X (.Name x p) tn) (c : MkC X.prog X.w X.K X.mg X.base k C g sp) (hr : Rm (k + 1) X.A) (hx : Passes (L2.CX X.prog X.w) X E) :
    PE X (.Call (.Name x p) [] [] pos) (tMkC C sp E tn tNil) := by
  refine ⟨fun pins s σ H Q I h => ?_⟩
  refine wpAny_Call_Name_kw (thn (hn.run pins s σ H _ I h) ?_)
  rintro u s0 ⟨y, H0, I0, ry, rfl, h⟩
  obtain rfl : u = Value.ref C := ry
  exact PySem.W.callWith_K0 I0.kIn c.m.kp (run_mk (us := []) c.m c.f hr hx I0 .nil h)
def tStar1 (K : PySem.W.Frag) (te : TE) (R : List V → Hp → Prop) : L2.St → Hp → Prop := fun σ H => te σ H fun z H1 => ∃ a xs, z = V.ref a ∧ (SqT K H1 a xs ∨ SqL K H1 a xs) ∧ R xs H1
/-- C( *e) -/
theorem pc_makeS {g : Addr} (hn : PE X (.Name x p) tn) (c : MkC X.prog X.w X.K X.mg X.base k C g sp) (hr : Rm (k + 1) X.A) (hx : Passes (L2.CX X.prog X.w) X E) (he : PE X e te)
    (hst : starEach [.Starred e q_] X.env = [(true, eval e X.env)] := by rfl) :
    PE X (.Call (.Name x p) [.Starred e q_] [] pos) (fun σ H Q => tn σ H fun y H0 => y = .ref C ∧ tStar1 X.K te (fun vs H1 => MkQ C sp E vs H1 Q) σ H0) := by
  refine ⟨fun pins s σ H Q I h => ?_⟩
  refine wpAny_Call_Name_kw (thn (hn.run pins s σ H _ I h) ?_)
  rintro u s0 ⟨y, H0, I0, ry, rfl, h⟩
  obtain rfl : u = Value.ref C := ry
  refine PySem.W.callWith_S (h₀ := X.base) I.ok.mod.kin c.m.kp (thn (he.run pins s0 σ H0 _ I0 h) ?_) hst
  rintro v s1 ⟨y, H1, I1, ry, a, xs, rfl, hxs, q⟩
  obtain rfl : v = Value.ref a := ry
  exact StX.star_any I1 hxs fun us s2 I2 rv => ⟨I2.kIn, run_mk c.m c.f hr hx I2 rv q⟩
/-- f( *e) -/
theorem pc_callS (c : Cl X.prog X.w X.K X.mg X.base k x sp) (hr : Rm k X.A) (hg : Gl X x) (hx : Passes (L2.CX X.prog X.w) X E) (he : PE X e te)
    (hd : (x == ("__debug__" : Str)) = false := by decide) (hst : starEach [.Starred e q_] X.env = [(true, eval e X.env)] := by rfl) :
    PE X (.Call (.Name x p) [.Starred e q_] [] pos) (fun σ H Q => tStar1 X.K te (fun vs H1 => sp vs H1 Q E) σ H) := by
  refine ⟨fun pins s σ H Q I h => ?_⟩
  refine wpAny_Call_Name_kw (ld_glob I hg c.m ?_ hd)
  refine PySem.W.callWith_S (h₀ := X.base) I.ok.mod.kin c.kp (thn (he.run pins s σ H _ I h) ?_) hst
  rintro v s1 ⟨y, H1, I1, ry, a, xs, rfl, hxs, q⟩
  obtain rfl : v = Value.ref a := ry
  exact StX.star_any I1 hxs fun us s2 I2 rv => ⟨I2.kIn, run_p c.f hr hx I2 rv q⟩
def tPr (C : Addr) (sp : Sp) (E : XK) (ta : TE) : TE := fun σ H Q => ta σ H fun x H1 => ∃ a dx fs, x = .ref a ∧ H1 a = some (.ins C dx fs) ∧ sp [.ref a] H1 Q E
structure Pr (P : Program) (w : World) (K : PySem.W.Frag) (mg : Str → Option Value) (base : Heap) (k : Nat) (C : Addr) (fld : Str) (pp g : Addr) (sp : Sp) : Prop where
  f : FnP P w K mg base k g sp
  c : Cls K C
  p : PropOf K C fld pp g
theorem pc_prop {fn : Str} {pa g : Addr} (he : PE X e ta) (c : Pr X.prog X.w X.K X.mg X.base k C fn pa g sp) (hr : Rm (k + 1) X.A) (hx : Passes (L2.CX X.prog X.w) X.nox E)
    (hab : attributeBase e fn X.env (eval e X.env) = eval e X.env := by rfl) : PE X (.Attribute e fn pos) (tPr C sp E ta) := by
  refine ⟨fun pins s σ H Q I h => ?_⟩
  refine attr_of hab (thn (he.run pins s σ H _ I h) ?_)
  rintro u s1 ⟨x, H1, I1, rx, a, dx, fs, rfl, ea, q⟩
  obtain rfl : u = Value.ref a := rx
  obtain ⟨mA, O, _, _, _, _⟩ := ins_get I1.hok ea
  obtain ⟨od, J, _⟩ := O.look
  obtain ⟨rest, hrec⟩ := c.p.rec_
  have I2 := I1.tok (s1.toks + 1)
  have hc : (PySem.W.clsIn X.K C).isSome = true := by
    obtain ⟨cd, hc, _⟩ := PySem.W.any_some c.c.hd
    rw [hc]; rfl
  refine PySem.W.get_bind I1.kIn J (PySem.W.plainGet_of (c.c.get fn)).1 (PySem.W.findObj_data hc c.p.at_ c.p.get c.p.tak) (PySem.W.plainGet_of (c.c.get fn)).2
    (wpAny_call (PySem.W.prop_get (s := { s1 with toks := s1.toks + 1 }) I1.kIn hrec ?_))
  refine codeAny_mono (c.f X.A.in1 X.stack { s1 with toks := s1.toks + 1 } H1 [.ref a] [.ref a] Q E hr.in1 I2.env0.in1 (.cons rfl .nil) q) fun r s' hq => ?_
  match r, hq with
  | .error er, hq => exact False.elim (hx pins σ H1 { s1 with toks := s1.toks + 1 } er s' (I2.wish _) hq)
  | .ok (.ret u), hq =>
    obtain ⟨v, H', I3, rv, q3⟩ := I2.after hq
    show wpAny _ _ (handedOut u) _ _ _
    rw [PySem.W.handedOut_of (handed_of rv)]
    exact wpAny_pure ⟨v, H', I3, rv, q3⟩
  | .ok .next, hq => exact False.elim hq
  | .ok .brk, hq => exact False.elim hq
  | .ok .cont, hq => exact False.elim hq
structure CM (P : Program) (w : World) (K : PySem.W.Frag) (mg : Str → Option Value) (base : Heap) (k : Nat) (C : Addr) (mc : Value) (m : Str) (p g : Addr) (sp : Sp) : Prop where
  f : FnP P w K mg base k g sp
  r : ClX.CRead K C mc
  m : ClX.CMet K C mc m p g
def tCM (C : Addr) (sp : Sp) (E : XK) (ta : TE) (t : TA) : TE := fun σ H Q => ta σ H fun x H1 => x = .ref C ∧ t σ H1 fun vs H2 => sp (.ref C :: vs) H2 Q E
theorem pc_cm {mc : Value} {pa g : Addr} {pl : Sem Bool} (he : PE X o ta) (c : CM X.prog X.w X.K X.mg X.base k C mc m pa g sp) (hr : Rm k X.A) (hx : Passes (L2.CX X.prog X.w) X E) (ha : PA X (e :: es) t)
    (hst : starEach (e :: es) X.env = (false, eval e X.env) :: starEach es X.env := by rfl) (hpl : (backTo pos (starEach es X.env)).any (·.1) = false := by rfl)
    (ht : eval (.Call (.Attribute o m apos) (e :: es) [] pos) X.env = (eval o X.env >>= fun ov => standAt apos.atName >>= fun _ => holding [ov] (getMethod ov m pl) >>= fun r =>
      callWith pos r.1 r.2 (backTo pos (starEach (e :: es) X.env)) (backToKw pos (keywordEach [] X.env))) := by rfl) :
    PE X (.Call (.Attribute o m apos) (e :: es) [] pos) (tCM C sp E ta t) := by
  refine ⟨fun pins s σ H Q I h => ?_⟩
  refine PySem.W.methodCall_KW (pl := pl) (thn (he.run pins s σ H _ I h) ?_) ht
  rintro u s1 ⟨x, H1, I1, rx, rfl, q⟩
  obtain rfl : u = Value.ref C := rx
  refine ClX.getmethcm_ok I1 c.r c.m fun s2 I2 => ?_
  refine ClX.callwith_cm I2 (ClX.base_none I1 (Nat.le_refl _)) c.m.fi (thn (ha.run pos _ s2 σ H1 _ I2 q) ?_) hst hpl
  rintro us s3 ⟨vs, H2, I3, rv, q2⟩
  refine ⟨⟨ClX.pin_at I3, I3.kIn⟩, ?_⟩
  have z : wpAny (model X.prog X.w) X.A (call (.ref s1.heap.objs.size) us) (EP X ((s1.heap.objs.size, PySem.W.methodObj (.ref g) (.ref C)) :: pins) σ Q) X.xe s3 :=
    wpAny_call (PySem.W.method_call (ClX.pin_at I3) (run_code (us := .ref C :: us) (vs := .ref C :: vs) c.f hr hx I3 (.cons rfl rv) q2))
  exact thn z fun _ _ y => ClX.unpinE y
/-- C.m is a staticmethod: its record at p, its def at g -/
structure SMet (K : PySem.W.Frag) (C : Addr) (mc : Value) (m : Str) (p g : Addr) : Prop where
  at_ : PySem.W.findCls K (.ref C) mc m = some (.get (.builtin "staticmethod.__get__") (.ref p) .none (.ref C))
  rc : ∃ rest, PySem.W.recIn K p "staticmethod" = some (.ref g :: rest)
  kp : PySem.W.keepIn K (.ref g) = true
structure SM (P : Program) (w : World) (K : PySem.W.Frag) (mg : Str → Option Value) (base : Heap) (k : Nat) (C : Addr) (mc : Value) (m : Str) (p g : Addr) (sp : Sp) : Prop where
  f : FnP P w K mg base k g sp
  r : ClX.CRead K C mc
  m : SMet K C mc m p g
def tSM (C : Addr) (sp : Sp) (E : XK) (ta : TE) (t : TA) : TE := fun σ H Q => ta σ H fun x H1 => x = .ref C ∧ t σ H1 fun vs H2 => sp vs H2 Q E
theorem pc_sm {mc : Value} {pa g : Addr} {pl : Sem Bool} (he : PE X o ta) (c : SM X.prog X.w X.K X.mg X.base k C mc m pa g sp) (hr : Rm k X.A) (hx : Passes (L2.CX X.prog X.w) X E) (ha : PA X (e :: es) t)
    (hst : starEach (e :: es) X.env = (false, eval e X.env) :: starEach es X.env := by rfl) (hpl : (backTo pos (starEach es X.env)).any (·.1) = false := by rfl)
    (ht : eval (.Call (.Attribute o m apos) (e :: es) [] pos) X.env = (eval o X.env >>= fun ov => standAt apos.atName >>= fun _ => holding [ov] (getMethod ov m pl) >>= fun r =>
      callWith pos r.1 r.2 (backTo pos (starEach (e :: es) X.env)) (backToKw pos (keywordEach [] X.env))) := by rfl) :
    PE X (.Call (.Attribute o m apos) (e :: es) [] pos) (tSM C sp E ta t) := by
  refine ⟨fun pins s σ H Q I h => ?_⟩
  refine PySem.W.methodCall_KW (pl := pl) (thn (he.run pins s σ H _ I h) ?_) ht
  rintro u s1 ⟨x, H1, I1, rx, rfl, q⟩
  obtain rfl : u = Value.ref C := rx
  obtain ⟨rest, hrec⟩ := c.m.rc
  refine PySem.W.method_cls I1.kIn c.r.ga ?_
  refine PySem.W.cls_bind I1.kIn c.r.rd c.m.at_ (wpAny_call (PySem.W.sm_get (s := { s1 with toks := s1.toks + 1 }) I1.kIn hrec (PySem.W.handed_on (by rfl) ?_)))
  have I2 := I1.tok (s1.toks + 1)
  refine PySem.W.callWith_K (first := []) (h₀ := X.base) I.ok.mod.kin c.m.kp (thn (ha.run pos pins _ σ H1 _ I2 q) ?_) hst hpl
  rintro us s2 ⟨vs, H2, I3, r, q2⟩
  exact ⟨I3.kIn, run_p (us := us) (vs := vs) c.f hr hx I3 r q2⟩
end
end TT
namespace TT
open PySem PySem.Spec PyProof.Rows L2
/-- what the written part says of the class at C: its __init__ at fI, its code at cda, its cell at cc -/
structure XcF (P : Program) (K : PySem.W.Frag) (B newId initId : String) (bmB : List Value) (C : Addr) (name qual : Str) (params : Arguments) (body : List Stmt) (scope : Scope) : Prop where
  cls : PySem.W.excInitIn K C bmB newId = true
  over : PySem.W.excOver K C bmB = true
  init : ∃ fI cda cc oc od kV doc pm an ct osl, PySem.W.findIn K (.ref C) "__init__" = some (some (.ref fI)) ∧ PySem.W.isFn K (.ref fI) = true ∧
    K.lookup fI = some ⟨oc, od, .func (PySem.W.ksFn name qual params body scope Value.none kV doc pm an (.ref cda) ct cc), osl⟩ ∧
    PySem.W.codeIn K (.ref cda) qual = true ∧
    (∃ ccl cdd vs ccs file tf, K.lookup cda = some ⟨ccl, cdd, .fields vs, ccs⟩ ∧ vs[2]? = some (.str file tf) ∧ ((P.main.file : Str) == file) = true) ∧
    ∃ cl cld csl, K.lookup cc = some ⟨cl, cld, .cell (some (.ref C)), csl⟩
  hasD : ∃ cd, PySem.W.clsIn K C = some cd ∧ cd.hasDict = true
  mro : PySem.W.mroIn K C (.ref C) = some true
  sup : PySem.W.nsIn K mainGlobals "super" = some none
  opq : PySem.W.nsIn K cStatics "thirdparty.any" = some none
  fnd : PySem.W.ks_superIn K C C "__init__" = some (some (.builtin initId))
  sub : PySem.W.subIn K (.ref C) (.type B) = some true
  sa : PySem.W.findIn K (.ref C) "__setattr__" = some (some (.builtin "object.__setattr__"))
  top : (P.main.scope.names.lookup ("super" : Str)).isSome = false
/-- the built-in class below -/
structure XcB (B newId initId : String) (bmB : List Value) : Prop where
  fb : ExcBaseFacts B newId initId bmB
  kf : PySem.W.KxsFacts B initId
  sf : StoreFacts B bmB "object.__setattr__" "object"
theorem xcb_value : XcB "ValueError" "ValueError.__new__" "ValueError.__init__" [.type "ValueError", .type "Exception", .type "BaseException", .type "object"] :=
  ⟨F.excBase_ValueError, PySem.W.kxs_ValueError, F.store_ValueError⟩
theorem xcb_runtime : XcB "RuntimeError" "RuntimeError.__new__" "RuntimeError.__init__" [.type "RuntimeError", .type "Exception", .type "BaseException", .type "object"] :=
  ⟨F.excBase_RuntimeError, PySem.W.kxs_RuntimeError, F.store_RuntimeError⟩
theorem xcb_lookup : XcB "LookupError" "LookupError.__new__" "LookupError.__init__" [.type "LookupError", .type "Exception", .type "BaseException", .type "object"] :=
  ⟨F.excBase_LookupError, PySem.W.kxs_LookupError, F.store_LookupError⟩
abbrev xobj (C t : Addr) (d : Option Addr) : Obj := { cls := .ref C, dict := d, data := .fields #[.ref t, .none, .none, .none, .bool false, .none] }
/-- how super().__init__('..') is run: its positions are plain -/
def SupCall (p0 p1 p2 p3 p4 p5 : Pos) (msg : Str) (j : Nat) (env : Env) : Prop :=
  swapsWith (.Call (.Attribute (.Call (.Name "super" p0) [] [] p1) "__init__" p2) [.Constant (.str msg) j p3] [] p4) none p5.line env = pure false ∧
  ∃ pl : Sem Bool, eval (.Call (.Attribute (.Call (.Name "super" p0) [] [] p1) "__init__" p2) [.Constant (.str msg) j p3] [] p4) env =
    (attributeBase (.Call (.Name "super" p0) [] [] p1) "__init__" env (eval (.Call (.Name "super" p0) [] [] p1) env) >>= fun ov =>
      standAt p2.atName >>= fun _ => holding [ov] (getMethod ov "__init__" pl) >>= fun r =>
        callWith p4 r.1 r.2 (backTo p4 (starEach [.Constant (.str msg) j p3] env)) [])
section
variable {P : Program} {w : World} {A : Around} {E : Value → Shared → Prop} {g : Array GenState} {dr : Drawn} {os : OsState} {K : PySem.W.Frag} {B newId initId : String} {bmB : List Value} {C : Addr}
  {name qual : Str} {params : Arguments} {body : List Stmt} {scope : Scope}
/-- a field is stored: the first one -/
theorem x_set0 (U : XcB B newId initId bmB) (T : XcF P K B newId initId bmB C name qual params body scope) {h : Heap} {t : Nat} {x tt : Addr} {f : Str} {v : Value} {Q : Unit → Shared → Prop}
    (X : K.In h) (hx : h.get? x = some (xobj C tt none)) (ha : PySem.W.findIn K (.ref C) f = some none)
    (hq : ∀ h' t' dx, (∀ b o, b ≠ x → h.get? b = some o → h'.get? b = some o) → h.objs.size ≤ dx → dx ≠ x → h'.get? x = some (xobj C tt (some dx)) →
      h'.Ns1 dx (fun y => if y = f then some v else none) → Q () ⟨h', g, dr, t', os⟩) :
    wpAny (model P w) A (setAttr (.ref x) f v) Q E ⟨h, g, dr, t, os⟩ := by
  have I : PySem.W.InstAt h x (xobj C tt none) C none := ⟨hx, rfl, rfl, trivial⟩
  obtain ⟨cd, hcd, hh⟩ := T.hasD
  have hcls : PySem.W.Looks (model P w) h (classData C) cd := PySem.W.looks_clsIn X hcd
  have hxs : x ≠ h.objs.size := Nat.ne_of_lt (Heap.lt_size hx)
  refine PySem.W.set_plain (s := ⟨h, g, dr, t, os⟩) X I T.sa ?_
  refine PySem.W.osa_openX (s := ⟨h, g, dr, t + 1, os⟩) (r := none) U.sf X I T.over (by unfold PySem.W.takerIn; rw [ha]; rfl) fun b => ?_
  show wpAny _ _ (Builtin.ObjectAttr.storeInOwnDict _ _ _ _ _ _) _ _ _
  obtain ⟨nm, bs, mro, ns, qn, hd, sn, sb, ab, col, del⟩ := cd
  dsimp only at hh
  subst hh
  unfold Builtin.ObjectAttr.storeInOwnDict Builtin.ObjectAttr.ownDictForStores
  repeat (first
    | with_reducible refine PySem.PX.store_in_new ?_ ?_
    | with_reducible refine wpAny_loadPart_at hx ?_
    | with_reducible refine hcls.at ?_
    | wp_step)
  · exact ⟨_, #[], _, (Heap.get?_update_ne _ _ _ _ hxs.symm).trans (Heap.get?_push_at rfl rfl), rfl, fun e he => absurd he (by simp), fun _ => rfl⟩
  · intro h' tk' hn' hs
    have hx1 : (h.push { cls := .type "dict", data := .dict #[] }).get? x = some (xobj C tt none) := Heap.get?_push_of_some _ hx
    refine hq h' tk' h.objs.size (fun b o hb ho => ?_) (Nat.le_refl _) hxs.symm ?_ hn'
    · exact (hs.2 b (Nat.ne_of_lt (Heap.lt_size ho))).trans ((Heap.get?_update_ne _ _ _ _ hb).trans (Heap.get?_push_of_some _ ho))
    · exact (hs.2 x hxs).trans (Heap.get?_update_self _ hx1 rfl)
/-- .. a further one -/
theorem x_set1 (U : XcB B newId initId bmB) (T : XcF P K B newId initId bmB C name qual params body scope) {h : Heap} {t : Nat} {x tt dx : Addr} {f f0 : Str} {v v0 : Value} {Q : Unit → Shared → Prop}
    (X : K.In h) (hx : h.get? x = some (xobj C tt (some dx))) (hn : h.Ns1 dx (fun y => if y = f0 then some v0 else none)) (ha : PySem.W.findIn K (.ref C) f = some none)
    (hq : ∀ h' t', (∀ b o, b ≠ dx → h.get? b = some o → h'.get? b = some o) →
      h'.Ns1 dx (fun y => if y = f then some v else if y = f0 then some v0 else none) → Q () ⟨h', g, dr, t', os⟩) :
    wpAny (model P w) A (setAttr (.ref x) f v) Q E ⟨h, g, dr, t, os⟩ := by
  have hw : Within (fun y => if y = f0 then some v0 else none) [f0] := Within.cons f0 v0 Within.nil
  have hz : [f0].length ≤ 1000 := by simp
  obtain ⟨oD, esD, epD, hoD, hdD, _⟩ := hn.count hw
  have I : PySem.W.InstAt h x (xobj C tt (some dx)) C (some oD) := ⟨hx, rfl, rfl, hoD⟩
  obtain ⟨cd, hcd, hh⟩ := T.hasD
  have hcls : PySem.W.Looks (model P w) h (classData C) cd := PySem.W.looks_clsIn X hcd
  refine PySem.W.set_plain (s := ⟨h, g, dr, t, os⟩) X I T.sa ?_
  refine PySem.W.osa_openX (s := ⟨h, g, dr, t + 1, os⟩) (r := none) U.sf X I T.over (by unfold PySem.W.takerIn; rw [ha]; rfl) fun b => ?_
  show wpAny _ _ (Builtin.ObjectAttr.storeInOwnDict _ _ _ _ _ _) _ _ _
  obtain ⟨nm, bs, mro, ns, qn, hd, sn, sb, ab, col, del⟩ := cd
  dsimp only at hh
  subst hh
  unfold Builtin.ObjectAttr.storeInOwnDict Builtin.ObjectAttr.ownDictForStores
  repeat (first
    | with_reducible refine PySem.PX.store_in_old hn hw hz ?_
    | with_reducible refine wpAny_loadPart_at hx ?_
    | with_reducible refine hcls.at ?_
    | wp_step)
  intro h' tk' hn' hs
  exact hq h' tk' (fun b o hb ho => (hs.2 b hb).trans ho) hn'
/-- super().__init__('..'), as __init__'s first statement -/
theorem x_super (U : XcB B newId initId bmB) (T : XcF P K B newId initId bmB C name qual params body scope) {h : Heap} {t : Nat} {x tt L fI cda cc : Addr} {oc : Value} {od : Option Addr} {kV doc pm ct : Value} {an : Option Addr} {osl : Array (Option Value)}
    {m : Str → Option Value} {mg mb : Str → Option Value} {ar : Arg} {p0 p1 p2 p3 p4 p5 : Pos} {msg : Str} {j : Nat} {Q : Flow → Shared → Prop}
    (X : K.In h) (hg : h.Ns mainGlobals mg) (hmg : mg "super" = none) (hb : h.Ns builtinsNs mb) (hmb : mb "super" = bootBuiltins "super") (hL : h.Ns L m)
    (lk : K.lookup fI = some ⟨oc, od, .func (PySem.W.ksFn name qual params body scope Value.none kV doc pm an (.ref cda) ct cc), osl⟩)
    (hco : ∃ ccl cdd vs ccs file tf, K.lookup cda = some ⟨ccl, cdd, .fields vs, ccs⟩ ∧ vs[2]? = some (.str file tf) ∧ ((P.main.file : Str) == file) = true)
    (hcc : ∃ cl cld csl, K.lookup cc = some ⟨cl, cld, .cell (some (.ref C)), csl⟩)
    (hp : (params.posonlyargs ++ params.args).head? = some ar) (hm : m ar.arg = some (.ref x)) (hx : h.get? x = some (xobj C tt none))
    (hks : scope.names.lookup ("super" : Str) = some .globalImplicit) (hkc : scope.names.lookup ("__class__" : Str) = some .free) (hka : scope.names.lookup ar.arg = some .local) (hk : scope.kind = .function)
    (he : SupCall p0 p1 p2 p3 p4 p5 msg j (PySem.W.ksEnv qual scope L fI (.ref cda) cc))
    (hq : ∀ h' t' tt', (∀ b o, b ≠ x → h.get? b = some o → h'.get? b = some o) → h'.get? x = some (xobj C tt' none) → Q .next ⟨h', g, dr, t', os⟩) :
    PySem.wpAt (model P w) A (.func body (PySem.W.ksEnv qual scope L fI (.ref cda) cc))
      (exec (.Expr (.Call (.Attribute (.Call (.Name "super" p0) [] [] p1) "__init__" p2) [.Constant (.str msg) j p3] [] p4) p5) (PySem.W.ksEnv qual scope L fI (.ref cda) cc)) Q E ⟨h, g, dr, t, os⟩ := by
  obtain ⟨ccl, cdd, vs, ccs, file, tf, lk2, hvs, hfile⟩ := hco
  obtain ⟨cl, cld, csl, lk3⟩ := hcc
  obtain ⟨cd, hcd, hh⟩ := T.hasD
  obtain ⟨oD, hD1, hD2⟩ : ∃ oD, h.get? C = some oD ∧ oD.data = .cls cd := by
    unfold PySem.W.clsIn at hcd
    split at hcd
    · rename_i c d cd' sl ho
      cases hcd
      exact ⟨_, X _ _ ho, rfl⟩
    · cases hcd
  have hi : interactive (PySem.W.ksEnv qual scope L fI (.ref cda) cc) = false := by simp [interactive, hk]
  obtain ⟨hsw, pl, he⟩ := he
  refine ks_wpAt_Expr_any ?_ hi hsw
  refine ks_wpAt_MethodCall (pl := pl) ?_ he
  refine ks_wpAt_super_base (env := PySem.W.ksEnv qual scope L fI (.ref cda) cc) hks hkc (by decide) rfl (X _ _ lk) rfl hp rfl (X _ _ lk2) rfl hvs hfile T.top ?_
  refine PySem.W.ks_loadName_global hk hks (Calls.loadGlobal_builtin (env := PySem.W.ksEnv qual scope L fI (.ref cda) cc) hg hmg hb (hmb.trans (by decide +kernel : bootBuiltins "super" = some (.type "super"))) ⟨rfl, ?_⟩)
  refine wpAny_loadName_free hk hkc rfl ⟨_, X _ _ lk3, rfl⟩ ?_
  refine wpAny_loadName_local hk hka hL hm ?_
  refine ks_wpAny_isType_cls hD1 hD2 ⟨rfl, ?_⟩
  refine ks_wpAny_call_super hD1 hD2 hx rfl (fun c e => nomatch e) (PySem.W.looks_mroIn X T.mro) (fun h1 e1 k1 => ?_)
  have X1 : K.In h1 := X.keeps k1
  have hx1 := k1 _ _ hx
  have I1 : PySem.W.InstAt h1 x (xobj C tt none) C none := ⟨hx1, rfl, rfl, trivial⟩
  have hfnd : PySem.W.alongIn K "__init__" ((cd.mro.dropWhile (· != .ref C)).drop 1) = some (some (.builtin initId)) := by
    have z := T.fnd
    unfold PySem.W.ks_superIn at z
    rw [hcd] at z
    exact z
  refine PySem.W.kxs_getMethod U.kf e1 (PySem.W.looks_opaque X1 T.opq) (l₀ := cd.mro) (fun A Q E s k q => wpAny_bind ((PySem.W.looks_clsIn X1 hcd) A _ E s k (wpAny_pure q))) rfl X1 hfnd (I1.type.andThen (PySem.W.looks_subIn X1 T.sub)) (PySem.W.ks_ne X1 I1 hcd) (by decide) ?_
  have k2 : ∀ b o, h1.get? b = some o → (h1.push (PySem.W.kxs_mw initId x)).get? b = some o := fun b o e => Heap.get?_push_of_some _ e
  have hu : (h1.push (PySem.W.kxs_mw initId x)).get? h1.objs.size = some (PySem.W.kxs_mw initId x) := Heap.get?_push_at rfl rfl
  refine PySem.W.kxs_callWith (i := initId) (x := x) (by rfl) ?_
  refine Calls.evalArgs_plain ?_
  show wpAny _ _ (spliced ((false, eval (.Constant (.str msg) j p3) (PySem.W.ksEnv qual scope L fI (.ref cda) cc)) :: backTo p4 (starEach [] (PySem.W.ksEnv qual scope L fI (.ref cda) cc)))) _ _ _
  refine Calls.spliced_cons (Calls.Constant_str (pos := p3) (k := j) ?_)
  refine Calls.spliced_nil ⟨hu, ?_⟩
  have hx2 := k2 _ _ hx1
  obtain ⟨nm, N, qn, bs, bm, hdct, sn, sub, ab, col, dd, q0, q1, q2, q3, q5, hC, hT⟩ := PySem.W.excInit_of (X1.keeps k2) T.cls
  refine wpAny_call (codeAny_of_tree ?_)
  show wpAny _ A.in1 (callAny (.ref h1.objs.size) ⟨[.str msg _], []⟩) _ _ _
  simp only [callAny]
  refine wpAny_bind (wpAny_load hu ?_)
  have z1 : (Value.type "method-wrapper" == Value.type "method" || Value.type "method-wrapper" == Value.type "builtin_function_or_method" || Value.type "method-wrapper" == Value.type "method-wrapper") = true := by decide
  simp only [PySem.W.kxs_mw, z1, if_true]
  refine PySem.W.KFB.if_so (by decide) ?_
  refine wpAny_bind (PySem.W.check_bound_init U.fb.toExcCallFacts hC hx2 rfl ?_)
  refine wpAny_bind (wpAny_pure (wpAny_pure ?_))
  refine ⟨plainId_quiet U.fb.init.plain _, codeAny_builtin U.fb.initEntry ?_⟩
  refine PySem.W.exc_init_tree (cls := .ref C) (t0 := tt) (dv := none) (c2 := .none) (c3 := .none) (b4 := .bool false) hx2 (by show 1 ≤ sizeLine; decide) ?_
  intro h3 k3 e3 _
  exact hq h3 _ _ (fun b o hb ho => k3 b o hb (k2 _ _ (k1 _ _ ho))) e3
/-- what __init__'s text is: super().__init__('..'), then self.f = f (one field; or two) -/
structure XcT (params : Arguments) (body : List Stmt) (scope : Scope) (sf : Str) (ps : List Str) (fs : List (Str × Str)) : Prop where
  bod : ∃ p0 p1 p2 p3 p4 p5 msg j rest, body = .Expr (.Call (.Attribute (.Call (.Name "super" p0) [] [] p1) "__init__" p2) [.Constant (.str msg) j p3] [] p4) p5 :: rest ∧
    (∀ qual L fI cda cc, SupCall p0 p1 p2 p3 p4 p5 msg j (PySem.W.ksEnv qual scope L fI cda cc)) ∧
    (match fs with
      | [(f, x)] => ∃ p6 p7 p8 p9, rest = [.Assign [.Attribute (.Name sf p6) f p7] (.Name x p8) p9]
      | [(f, x), (f', x')] => ∃ p6 p7 p8 p9 q6 q7 q8 q9, rest = [.Assign [.Attribute (.Name sf p6) f p7] (.Name x p8) p9, .Assign [.Attribute (.Name sf q6) f' q7] (.Name x' q8) q9]
      | _ => False)
  head : ∃ ar, (params.posonlyargs ++ params.args).head? = some ar ∧ ar.arg = sf
  sup : scope.names.lookup ("super" : Str) = some .globalImplicit
  cls : scope.names.lookup ("__class__" : Str) = some .free
  loc : ∀ x ∈ sf :: ps, scope.names.lookup x = some .local
  kind : scope.kind = .function
  co : scope.isCoroutine = false
  gen : scope.isGenerator = false
  nocell : ∀ x ∈ scope.names, x.2 ≠ .cell
  nd : (sf :: ps).Nodup
  bind : ∀ (name qual : Str) (kV doc pm cdv ct : Value) (an : Option Addr) (cc : Addr) (us : List Value), us.length = (sf :: ps).length →
    bindArgs (PySem.W.ksFn name qual params body scope Value.none kV doc pm an cdv ct cc) ⟨us, []⟩ = pure ((sf :: ps).zip us)
  in_ : ∀ p ∈ fs, p.2 ∈ ps
  nob : ∀ x ∈ sf :: ps, (x == ("__debug__" : Str)) = false
theorem lookup_rev : ∀ {l : List (Str × Value)} {y : Str} {v : Value}, (l.map (·.1)).Nodup → l.lookup y = some v → l.reverse.lookup y = some v
  | [], _, _, _, z => by cases z
  | (a, b) :: l, y, v, nd, z => by
    rw [List.reverse_cons, List.lookup_append]
    rw [List.map_cons, List.nodup_cons] at nd
    by_cases hy : y = a
    · subst hy
      have hbv : b = v := by simpa [List.lookup] using z
      have none_ : l.reverse.lookup y = none := by
        cases hr : l.reverse.lookup y with
        | none => rfl
        | some w' =>
          exfalso
          obtain ⟨l1, l2, e3, _⟩ := List.lookup_eq_some_iff.mp hr
          exact nd.1 (List.mem_map.mpr ⟨(y, w'), by rw [← List.mem_reverse, e3]; simp, rfl⟩)
      rw [none_]
      simp [List.lookup, hbv]
    · have hy' : (y == a) = false := by simpa using hy
      have z' : l.lookup y = some v := by simpa [List.lookup, hy'] using z
      rw [lookup_rev nd.2 z']
      rfl
/-- the written part ahead, kept -/
structure XW (P : Program) (K : PySem.W.Frag) (h0 : Heap) : Prop where
  kin : K.In h0
  glob : ∃ mg, h0.Ns mainGlobals mg ∧ mg "super" = none
  blt : ∃ mb, h0.Ns builtinsNs mb ∧ mb "super" = bootBuiltins "super"
  lim : h0.NoLimit
theorem x_init (U : XcB B newId initId bmB) (T : XcF P K B newId initId bmB C name qual params body scope) {self : Str} {ps : List Str} {f x : Str} (D : XcT params body scope self ps [(f, x)])
    {h0 h : Heap} {t : Nat} {e tt fI cda cc : Addr} {oc : Value} {od : Option Addr} {kV doc pm ct : Value} {an : Option Addr} {osl : Array (Option Value)} {us : List Value} {u : Value} {R : Result → Shared → Prop}
    (W : XW P K h0) (k0 : ∀ b o, h0.get? b = some o → h.get? b = some o) (ne0 : h0.get? e = none)
    (lk : K.lookup fI = some ⟨oc, od, .func (PySem.W.ksFn name qual params body scope Value.none kV doc pm an (.ref cda) ct cc), osl⟩) (hcode : PySem.W.codeIn K (.ref cda) qual = true)
    (hco : ∃ ccl cdd vs ccs file tf, K.lookup cda = some ⟨ccl, cdd, .fields vs, ccs⟩ ∧ vs[2]? = some (.str file tf) ∧ ((P.main.file : Str) == file) = true)
    (hcc : ∃ cl cld csl, K.lookup cc = some ⟨cl, cld, .cell (some (.ref C)), csl⟩) (hd : A.depth < recursionLimit)
    (hx : h.get? e = some (xobj C tt none)) (hl : us.length = ps.length) (hu : (ps.zip us).lookup x = some u) (ha : PySem.W.findIn K (.ref C) f = some none)
    (hq : ∀ h' t' tt' dx, (∀ b o, b ≠ e → h.get? b = some o → h'.get? b = some o) → h.objs.size ≤ dx → dx ≠ e → h'.get? e = some (xobj C tt' (some dx)) →
      h'.Ns1 dx (fun y => if y = f then some u else none) → R (.ok (.ret .none)) ⟨h', g, dr, t', os⟩) :
    codeAny (model P w) A (.call (.ref fI) ⟨.ref e :: us, []⟩) R ⟨h, g, dr, t, os⟩ := by
  obtain ⟨p0, p1, p2, p3, p4, p5, msg, j, rest, hbody, hsc, p6, p7, p8, p9, hrest⟩ := D.bod
  obtain ⟨ar, har, hself⟩ := D.head
  obtain ⟨mg, hg, hmg⟩ := W.glob
  obtain ⟨mb, hb, hmb⟩ := W.blt
  have hbind : BindsTo (⟨h, g, dr, t, os⟩ : Shared) (PySem.W.ksFn name qual params body scope Value.none kV doc pm an (.ref cda) ct cc) ⟨.ref e :: us, []⟩ ((self :: ps).zip (.ref e :: us)) :=
    .of_eq (D.bind name qual kV doc pm (.ref cda) ct an cc (.ref e :: us) (by simp [hl]))
  refine ks_codeAny_call_defAt (s := ⟨h, g, dr, t, os⟩) (fd := PySem.W.ksFn name qual params body scope Value.none kV doc pm an (.ref cda) ct cc) (body := body) hd (k0 _ _ (W.kin _ _ lk)) rfl (W.lim.keeps k0) (PySem.W.codeRec_of (W.kin.keeps k0) hcode) rfl hbind D.nocell
    (fun y hy => D.loc y.1 (List.of_mem_zip hy).1) (fun h1 hns k1 => ?_) D.co D.gen D.kind
  have ndz : (((self :: ps).zip (Value.ref e :: us)).map (·.1)).Nodup := by
    rw [List.map_fst_zip (by simp [hl])]
    exact D.nd
  have m_self : ((self :: ps).zip (Value.ref e :: us)).reverse.lookup self = some (.ref e) := lookup_rev ndz (by simp [List.lookup])
  have hxp : x ∈ ps := D.in_ (f, x) (by simp)
  have nx : (x == self) = false := by
    have := D.nd
    rw [List.nodup_cons] at this
    have nx : x ≠ self := fun z => this.1 (z ▸ hxp)
    simpa using nx
  have m_x : ((self :: ps).zip (Value.ref e :: us)).reverse.lookup x = some u := lookup_rev ndz (by simpa [List.lookup, nx] using hu)
  have k01 : ∀ b o, h0.get? b = some o → h1.get? b = some o := fun b o z => k1 b o (k0 b o z)
  have e1 := k1 _ _ hx
  have eL : h.objs.size ≠ e := Ne.symm (Nat.ne_of_lt (Heap.lt_size hx))
  have ne_of0 : ∀ {b : Addr} {o : Obj}, h0.get? b = some o → b ≠ e := fun {b o} z y => by rw [y, ne0] at z; cases z
  subst hbody hrest
  refine ks_wpAt_execs_cons (ks_wpAt_mono (x_super (Q := fun fl s' => fl = .next ∧ ∃ h' t' tt', s' = ⟨h', g, dr, t', os⟩ ∧ (∀ b o, b ≠ e → h1.get? b = some o → h'.get? b = some o) ∧ h'.get? e = some (xobj C tt' none)) U T
    (W.kin.keeps k01) (hg.keeps k01) hmg (hb.keeps k01) hmb hns lk hco hcc har (by rw [hself]; exact m_self) e1 D.sup D.cls (by rw [hself]; exact D.loc self (by simp)) D.kind
    (hsc qual _ fI (.ref cda) cc) (fun h' t' tt' kk ee => ⟨rfl, h', t', tt', rfl, kk, ee⟩)) (fun fl s2 hfl => ?_) fun _ _ z => z)
  obtain ⟨rfl, h2, t2, tt2, rfl, k2, e2⟩ := hfl
  have k02 : ∀ b o, h0.get? b = some o → h2.get? b = some o := fun b o z => k2 b o (ne_of0 z) (k01 b o z)
  obtain ⟨oL, es, ep, hoL, hLr⟩ := hns
  have hns2 : h2.Ns h.objs.size (fun x => ((self :: ps).zip (Value.ref e :: us)).reverse.lookup x) := ⟨oL, es, ep, k2 _ _ eL hoL, hLr⟩
  have hkf : (PySem.W.ksEnv qual scope h.objs.size fI (.ref cda) cc).scope.kind = .function := D.kind
  refine PySem.wpAt_of_wpAny (wpAny_execs_cons ?_)
  refine plainObj_wpAny_Assign_Attribute ?_ (by rfl)
  refine wpAny_Name (wpAny_loadName_local hkf (D.loc x (List.mem_cons_of_mem _ hxp)) hns2 m_x ?_) (D.nob x (List.mem_cons_of_mem _ hxp))
  refine wpAny_Name (wpAny_loadName_local hkf (D.loc self (List.mem_cons_self ..)) hns2 m_self ?_) (D.nob self (List.mem_cons_self ..))
  refine x_set0 U T (W.kin.keeps k02) e2 ha fun h3 t3 dx k3 nd de e3 n3 => ?_
  refine wpAny_execs_nil ?_
  have hsz : h.objs.size ≤ dx := Nat.le_trans (Nat.le_of_lt (Heap.lt_size (k2 _ _ eL hoL))) nd
  exact hq h3 t3 tt2 dx (fun b o hbe z => k3 b o hbe (k2 b o hbe (k1 b o z))) hsz de e3 n3
theorem x_init2 (U : XcB B newId initId bmB) (T : XcF P K B newId initId bmB C name qual params body scope) {self : Str} {ps : List Str} {f x f' x' : Str} (D : XcT params body scope self ps [(f, x), (f', x')])
    {h0 h : Heap} {t : Nat} {e tt fI cda cc : Addr} {oc : Value} {od : Option Addr} {kV doc pm ct : Value} {an : Option Addr} {osl : Array (Option Value)} {us : List Value} {u u' : Value} {R : Result → Shared → Prop}
    (W : XW P K h0) (k0 : ∀ b o, h0.get? b = some o → h.get? b = some o) (ne0 : h0.get? e = none)
    (lk : K.lookup fI = some ⟨oc, od, .func (PySem.W.ksFn name qual params body scope Value.none kV doc pm an (.ref cda) ct cc), osl⟩) (hcode : PySem.W.codeIn K (.ref cda) qual = true)
    (hco : ∃ ccl cdd vs ccs file tf, K.lookup cda = some ⟨ccl, cdd, .fields vs, ccs⟩ ∧ vs[2]? = some (.str file tf) ∧ ((P.main.file : Str) == file) = true)
    (hcc : ∃ cl cld csl, K.lookup cc = some ⟨cl, cld, .cell (some (.ref C)), csl⟩) (hd : A.depth < recursionLimit)
    (hx : h.get? e = some (xobj C tt none)) (hl : us.length = ps.length) (hu : (ps.zip us).lookup x = some u) (ha : PySem.W.findIn K (.ref C) f = some none) (hu' : (ps.zip us).lookup x' = some u') (ha' : PySem.W.findIn K (.ref C) f' = some none)
    (hq : ∀ h' t' tt' dx, (∀ b o, b ≠ e → h.get? b = some o → h'.get? b = some o) → h.objs.size ≤ dx → dx ≠ e → h'.get? e = some (xobj C tt' (some dx)) →
      h'.Ns1 dx (fun y => if y = f' then some u' else if y = f then some u else none) → R (.ok (.ret .none)) ⟨h', g, dr, t', os⟩) :
    codeAny (model P w) A (.call (.ref fI) ⟨.ref e :: us, []⟩) R ⟨h, g, dr, t, os⟩ := by
  obtain ⟨p0, p1, p2, p3, p4, p5, msg, j, rest, hbody, hsc, p6, p7, p8, p9, q6, q7, q8, q9, hrest⟩ := D.bod
  obtain ⟨ar, har, hself⟩ := D.head
  obtain ⟨mg, hg, hmg⟩ := W.glob
  obtain ⟨mb, hb, hmb⟩ := W.blt
  have hbind : BindsTo (⟨h, g, dr, t, os⟩ : Shared) (PySem.W.ksFn name qual params body scope Value.none kV doc pm an (.ref cda) ct cc) ⟨.ref e :: us, []⟩ ((self :: ps).zip (.ref e :: us)) :=
    .of_eq (D.bind name qual kV doc pm (.ref cda) ct an cc (.ref e :: us) (by simp [hl]))
  refine ks_codeAny_call_defAt (s := ⟨h, g, dr, t, os⟩) (fd := PySem.W.ksFn name qual params body scope Value.none kV doc pm an (.ref cda) ct cc) (body := body) hd (k0 _ _ (W.kin _ _ lk)) rfl (W.lim.keeps k0) (PySem.W.codeRec_of (W.kin.keeps k0) hcode) rfl hbind D.nocell
    (fun y hy => D.loc y.1 (List.of_mem_zip hy).1) (fun h1 hns k1 => ?_) D.co D.gen D.kind
  have ndz : (((self :: ps).zip (Value.ref e :: us)).map (·.1)).Nodup := by
    rw [List.map_fst_zip (by simp [hl])]
    exact D.nd
  have m_self : ((self :: ps).zip (Value.ref e :: us)).reverse.lookup self = some (.ref e) := lookup_rev ndz (by simp [List.lookup])
  have hxp : x ∈ ps := D.in_ (f, x) (by simp)
  have nx : (x == self) = false := by
    have := D.nd
    rw [List.nodup_cons] at this
    have nx : x ≠ self := fun z => this.1 (z ▸ hxp)
    simpa using nx
  have m_x : ((self :: ps).zip (Value.ref e :: us)).reverse.lookup x = some u := lookup_rev ndz (by simpa [List.lookup, nx] using hu)
  have hxp' : x' ∈ ps := D.in_ (f', x') (by simp)
  have nx' : (x' == self) = false := by
    have := D.nd
    rw [List.nodup_cons] at this
    have nx : x' ≠ self := fun z => this.1 (z ▸ hxp')
    simpa using nx
  have m_x' : ((self :: ps).zip (Value.ref e :: us)).reverse.lookup x' = some u' := lookup_rev ndz (by simpa [List.lookup, nx'] using hu')
  have k01 : ∀ b o, h0.get? b = some o → h1.get? b = some o := fun b o z => k1 b o (k0 b o z)
  have e1 := k1 _ _ hx
  have eL : h.objs.size ≠ e := Ne.symm (Nat.ne_of_lt (Heap.lt_size hx))
  have ne_of0 : ∀ {b : Addr} {o : Obj}, h0.get? b = some o → b ≠ e := fun {b o} z y => by rw [y, ne0] at z; cases z
  subst hbody hrest
  refine ks_wpAt_execs_cons (ks_wpAt_mono (x_super (Q := fun fl s' => fl = .next ∧ ∃ h' t' tt', s' = ⟨h', g, dr, t', os⟩ ∧ (∀ b o, b ≠ e → h1.get? b = some o → h'.get? b = some o) ∧ h'.get? e = some (xobj C tt' none)) U T
    (W.kin.keeps k01) (hg.keeps k01) hmg (hb.keeps k01) hmb hns lk hco hcc har (by rw [hself]; exact m_self) e1 D.sup D.cls (by rw [hself]; exact D.loc self (by simp)) D.kind
    (hsc qual _ fI (.ref cda) cc) (fun h' t' tt' kk ee => ⟨rfl, h', t', tt', rfl, kk, ee⟩)) (fun fl s2 hfl => ?_) fun _ _ z => z)
  obtain ⟨rfl, h2, t2, tt2, rfl, k2, e2⟩ := hfl
  have k02 : ∀ b o, h0.get? b = some o → h2.get? b = some o := fun b o z => k2 b o (ne_of0 z) (k01 b o z)
  obtain ⟨oL, es, ep, hoL, hLr⟩ := hns
  have hns2 : h2.Ns h.objs.size (fun x => ((self :: ps).zip (Value.ref e :: us)).reverse.lookup x) := ⟨oL, es, ep, k2 _ _ eL hoL, hLr⟩
  have hkf : (PySem.W.ksEnv qual scope h.objs.size fI (.ref cda) cc).scope.kind = .function := D.kind
  refine PySem.wpAt_of_wpAny (wpAny_execs_cons ?_)
  refine plainObj_wpAny_Assign_Attribute ?_ (by rfl)
  refine wpAny_Name (wpAny_loadName_local hkf (D.loc x (List.mem_cons_of_mem _ hxp)) hns2 m_x ?_) (D.nob x (List.mem_cons_of_mem _ hxp))
  refine wpAny_Name (wpAny_loadName_local hkf (D.loc self (List.mem_cons_self ..)) hns2 m_self ?_) (D.nob self (List.mem_cons_self ..))
  refine x_set0 U T (W.kin.keeps k02) e2 ha fun h3 t3 dx k3 nd de e3 n3 => ?_
  have k03 : ∀ b o, h0.get? b = some o → h3.get? b = some o := fun b o z => k3 b o (ne_of0 z) (k02 b o z)
  have hns3 : h3.Ns h.objs.size (fun x => ((self :: ps).zip (Value.ref e :: us)).reverse.lookup x) := ⟨oL, es, ep, k3 _ _ eL (k2 _ _ eL hoL), hLr⟩
  have hsz : h.objs.size ≤ dx := Nat.le_trans (Nat.le_of_lt (Heap.lt_size (k2 _ _ eL hoL))) nd
  have hnd : ∀ {b : Addr} {o : Obj}, h2.get? b = some o → b ≠ dx := fun {b o} z => Nat.ne_of_lt (Nat.lt_of_lt_of_le (Heap.lt_size z) nd)
  refine wpAny_execs_cons ?_
  refine plainObj_wpAny_Assign_Attribute ?_ (by rfl)
  refine wpAny_Name (wpAny_loadName_local hkf (D.loc x' (List.mem_cons_of_mem _ hxp')) hns3 m_x' ?_) (D.nob x' (List.mem_cons_of_mem _ hxp'))
  refine wpAny_Name (wpAny_loadName_local hkf (D.loc self (List.mem_cons_self ..)) hns3 m_self ?_) (D.nob self (List.mem_cons_self ..))
  refine x_set1 U T (W.kin.keeps k03) e3 n3 ha' fun h4 t4 k4 n4 => ?_
  refine wpAny_execs_nil ?_
  exact hq h4 t4 tt2 dx (fun b o hbe z => k4 b o (hnd (k2 b o hbe (k1 b o z))) (k3 b o hbe (k2 b o hbe (k1 b o z)))) hsz de (k4 _ _ de.symm e3) n4
end
theorem Inv.xw {X : Cx} {pins : List (Addr × Obj)} {σ : L2.St} {H : Hp} {s : Shared} (I : Inv X pins σ H s) (hs : PySem.W.nsIn X.K mainGlobals "super" = some none) : XW X.prog X.K s.heap := by
  obtain ⟨mb, h1, h2⟩ := I.mod.blt
  have hg := I.mod.glob
  exact ⟨I.kIn, ⟨X.mg, hg.keeps I.bk, PySem.W.mg_none_of I.mod.kin hg hs⟩, ⟨mb, h1.keeps I.bk, h2 _ (by decide)⟩, I.nolimit⟩
section
variable {X : Cx} {B newId initId : String} {bmB : List Value} {C : Addr} {name qual : Str} {params : Arguments} {body : List Stmt} {scope : Scope} {x sf : Str} {ps : List Str} {e : Expr} {es : List Expr} {ta : TA} {p pos : Pos}
theorem x_end {pins : List (Addr × Obj)} {σ : L2.St} {H : Hp} {Q : XK} {hp h' : Heap} {g : Array GenState} {d : Drawn} {t t' : Nat} {os : OsState} {ea tt dx : Addr} {fs : List (Str × V)} {mA : Str → Option Value} (r : Raises X (.ref C)) (I : Inv X pins σ H ⟨hp, g, d, t, os⟩)
    (ha : hp.objs.size ≤ ea) (hd : hp.objs.size ≤ dx) (ne : dx ≠ ea) (k : ∀ b o, hp.get? b = some o → h'.get? b = some o) (he : h'.get? ea = some (xobj C tt (some dx))) (hn : h'.Ns1 dx mA) (rel : ∀ f, RelO (fs.lookup f) (mA f))
    (q : H dx = none → Q (.ref C) (some dx) (upd H dx (.xd fs))) : MkP X pins σ Q (.ref ea) ⟨h', g, d, t', os⟩ := by
  obtain ⟨G, g1, g2⟩ := restrict h' fun b => decide (b ≠ ea)
  have gk : ∀ b, b ≠ ea → G.get? b = h'.get? b := fun b hb => g1 b (decide_eq_true hb)
  have ge : G.get? ea = none := g2 ea (by simp)
  have kG : ∀ b o, hp.get? b = some o → G.get? b = some o := fun b o z => by
    rw [gk b (Nat.ne_of_lt (Nat.lt_of_lt_of_le (Heap.lt_size z) ha))]
    exact k b o z
  have hnG : G.Ns1 dx mA := by
    obtain ⟨o, es, ep, ho, hr⟩ := hn
    exact ⟨o, es, ep, by rw [gk _ ne]; exact ho, hr⟩
  have J := I.laid (t' := t') (a := dx) (o := .xd fs) (h' := G) kG hd ⟨mA, hnG, rel⟩
  refine ⟨ea, _, _, ⟨G, g, d, t', os⟩, _, .ref C, some dx, rfl, J, fun b o z => ?_, ge, he, ⟨rfl, rfl⟩, rfl, rfl, ?_, rfl, I.bare, r, q (I.hok.fresh hd)⟩
  · by_cases hb : b = ea
    · rw [hb, ge] at z; cases z
    · rw [gk b hb] at z; exact z
  · rw [upd_ne (Ne.symm ne)]
    exact I.hok.fresh ha
theorem under_depth {A : Around} {k : Nat} (h : Rm (k + 1) A) (us : List Value) : (A.under (.builtin "type.__call__" ⟨.ref C :: us, []⟩)).depth < recursionLimit := (h.make C us []).r.depth
theorem pmk_x1 {f y : Str} {k : Nat} (U : XcB B newId initId bmB) (T : XcF X.prog X.K B newId initId bmB C name qual params body scope) (D : XcT params body scope sf ps [(f, y)]) (r : Raises X (.ref C)) (hk : PySem.W.keepIn X.K (.ref C) = true) (hn : PySem.W.findIn X.K (.ref C) f = some none)
    (hr : Rm (k + 1) X.A) (hg : Gl X x) (hm : X.mg x = some (.ref C)) (ha : PA X (e :: es) ta)
    (hdb : (x == ("__debug__" : Str)) = false := by decide) (he : starEach (e :: es) X.env = (false, eval e X.env) :: starEach es X.env := by rfl) (hpl : (backTo pos (starEach es X.env)).any (·.1) = false := by rfl) :
    PMk X (.Call (.Name x p) (e :: es) [] pos) (fun σ H Q => ta σ H fun vs H1 => vs.length = ps.length ∧ vs.length ≤ 1000 ∧ ∃ v, (ps.zip vs).lookup y = some v ∧ ∀ dx, H1 dx = none → Q (.ref C) (some dx) (upd H1 dx (.xd [(f, v)]))) := by
  intro pins s σ H Q I h
  refine wpAny_Call_Name_kw (ld_glob I hg hm ?_ hdb)
  refine PySem.W.callWith_K (h₀ := X.base) I.ok.mod.kin hk (thn (ha.run pos pins s σ H _ I h) ?_) he hpl
  rintro us s1 ⟨vs, H1, I1, r1, hl, hz, v, hv, q⟩
  refine ⟨I1.kIn, ?_⟩
  show wpAny _ _ (call (.ref C) us) _ _ _
  obtain ⟨hp, g, dr, tk, os⟩ := s1
  have W0 := Inv.xw I1 T.sup
  obtain ⟨fI, cda, cc, oc, od, kV, doc, pm, an, ct, osl, hi, hf, lk, hcode, hco, hcc⟩ := T.init
  obtain ⟨nm, N, qn, bs, bm, hdct, sn, sub, ab, col, dd, k0, k1, k2, k3, k5, hC, hT⟩ := PySem.W.excInit_of I1.kIn T.cls
  have hus : us.length ≤ sizeLine := by rw [← r1.length, sizeLine_eq]; omega
  have hlu : us.length = ps.length := by rw [← r1.length]; exact hl
  obtain ⟨u, hu, ru⟩ : ∃ u, (ps.zip us).lookup y = some u ∧ RelV v u := by
    have key : ∀ (ps : List Str) (vs : List V) (us : List Value), Vals vs us → (ps.zip vs).lookup y = some v → ∃ u, (ps.zip us).lookup y = some u ∧ RelV v u := by
      intro ps
      induction ps with
      | nil => intro vs us _ z; simp at z
      | cons p ps ih =>
        intro vs us r z
        cases r with
        | nil => simp at z
        | cons ra rt =>
          rw [List.zip_cons_cons] at z ⊢
          by_cases hy : y == p
          · simp only [List.lookup, hy, Option.some.injEq] at z ⊢
            subst z
            exact ⟨_, rfl, ra⟩
          · simp only [List.lookup, hy] at z ⊢
            exact ih _ _ rt z
    exact key ps vs us r1 hv
  obtain ⟨oI, hoI, hcI⟩ : ∃ oI, hp.get? fI = some oI ∧ oI.cls = .type "function" := by
    obtain ⟨o, ho, hc⟩ := Option.map_eq_some_iff.mp (show (X.K.lookup fI).map (·.cls) = some (.type "function") from beq_iff_eq.mp hf)
    exact ⟨o, I1.kIn _ _ ho, hc⟩
  have kk : ∀ b o, hp.get? b = some o → ((hp.push (PySem.W.kdv_tup us)).push (PySem.PX.excO C hp.objs.size)).get? b = some o := fun b o z => Heap.get?_push_of_some _ (Heap.get?_push_of_some _ z)
  have hget : ((hp.push (PySem.W.kdv_tup us)).push (PySem.PX.excO C hp.objs.size)).get? (hp.objs.size + 1) = some (PySem.PX.excO C hp.objs.size) := by heap_get
  have hnone : hp.get? (hp.objs.size + 1) = none := Heap.get?_none_of_le (Nat.le_succ _)
  refine wpAny_call (PySem.PX.call_own U.fb hT hC (PySem.W.looks_findIn I1.kIn hi) (fun self => PySem.W.exc_bind hoI hcI self) hus ?_)
  refine x_init U T D W0 kk hnone lk hcode hco hcc (under_depth hr us) hget hlu hu hn fun h' t' tt' dx k4 hsz ne he' hn' => ?_
  refine ⟨rfl, ?_⟩
  have hsz2 : hp.objs.size ≤ dx := by
    rw [Heap.size_push, Heap.size_push] at hsz
    omega
  refine x_end r I1 (Nat.le_succ _) hsz2 ne (fun b o z => k4 b o (fun z2 => by rw [z2, hnone] at z; cases z) (kk b o z)) he' hn' (fun g' => ?_) (q dx)
  by_cases hgf : g' = f
  · subst hgf
    simp [List.lookup, RelO, ru]
  · have : (g' == f) = false := by simpa using hgf
    simp [List.lookup, this, hgf, RelO]
end
end TT
namespace TT
open PySem PySem.Spec PyProof.Rows L2
def exv (a : Addr) (cls : Value) (d : Option Addr) : HO := .ext fun h => ∃ oe vs, h.get? a = some oe ∧ oe.cls = cls ∧ oe.dict = d ∧ oe.data = .fields vs
theorem exv_ok {P : Program} {w : World} {H : Hp} {h : Heap} {a : Addr} {cls : Value} {d : Option Addr} {oe : Obj} {vs : Array Value} (he : h.get? a = some oe) (hz : Zc cls d oe) (hd : oe.data = .fields vs) : ObjOk P w H h a (exv a cls d) :=
  ⟨⟨oe, vs, he, hz.1, hz.2, hd⟩, ⟨oe, he⟩, fun h1 h2 z k => by
    obtain ⟨o, vs, e, r⟩ := z
    exact ⟨o, vs, k _ e, r⟩⟩
theorem exv_at {P : Program} {w : World} {H : Hp} {h : Heap} {a : Addr} {cls : Value} {d : Option Addr} (hok : HOk P w H h) (he : H a = some (exv a cls d)) : ∃ oe vs, h.get? a = some oe ∧ oe.cls = cls ∧ oe.dict = d ∧ oe.data = .fields vs := by
  have x : ObjOk P w H h a (.ext fun h => ∃ oe vs, h.get? a = some oe ∧ oe.cls = cls ∧ oe.dict = d ∧ oe.data = .fields vs) := hok a _ he
  exact x.1
section
variable {X : Cx} {pins : List (Addr × Obj)} {σ : L2.St} {H : Hp} {s : Shared} {a : Addr} {o : Obj} {u : HO}
/-- a pinned object that is younger than the entry is tracked from here on -/
theorem inv_track (I : Inv X ((a, o) :: pins) σ H s) (hn : X.s_0.heap.get? a = none) (hp : ∀ p ∈ X.pn ++ pins, p.1 ≠ a) (new : ObjOk X.prog X.w (upd H a u) s.heap a u) : Inv X pins σ (upd H a u) s := by
  obtain ⟨ea, na, nL, nF, nc⟩ := I.pin (a, o) (List.mem_append_right _ List.mem_cons_self)
  have ne : ∀ {b : Addr} {x : HO}, H b = some x → b ≠ a := fun {b x} e z => by
    rw [z] at e
    have : H a = none := na
    rw [this] at e
    cases e
  have B := I.base
  refine ⟨I.ok, I.os, I.bare, ⟨B.keep, B.slot, fun b ob e n hx => ?_, B.there, fun b xs e => ?_, fun b ob v e => ?_, fun b ps e => ?_⟩, I.loc, I.cell, ?_, fun x c e => ?_, fun p hp' => ?_, fun b ob e => ?_, I.len⟩
  · rw [upd_ne (fun z => by rw [z, hn] at e; cases e)]
    exact B.free b ob e n hx
  · have := B.tups b xs e
    rw [upd_ne (ne this)]; exact this
  · have := B.frzs b ob v e
    rw [upd_ne (ne this)]; exact this
  · obtain ⟨m, e2⟩ := B.tbls b ps e
    exact ⟨m, by rw [upd_ne (ne e2)]; exact e2⟩
  · rw [upd_ne (Ne.symm nL)]; exact I.free
  · have hca : c ≠ a := fun z => by
      obtain ⟨v, oc, hoc, hd⟩ := I.cell x c e
      rw [z] at hoc
      have : s.heap.get? a = some o := ea
      rw [this] at hoc
      cases hoc
      exact nc v hd
    rw [upd_ne hca]; exact I.freeC x c e
  · obtain ⟨p1, p2, p3, p4, p5⟩ := I.pin p (by
      rcases List.mem_append.mp hp' with z | z
      · exact List.mem_append_left _ z
      · exact List.mem_append_right _ (List.mem_cons_of_mem _ z))
    exact ⟨p1, by rw [upd_ne (hp p hp')]; exact p2, p3, p4, p5⟩
  · by_cases hb : b = a
    · subst hb
      rw [upd_same] at e
      cases e
      exact new
    · rw [upd_ne hb] at e
      exact (I.hok b ob e).stay (fun c v _ q => q) (fun c q => by rw [upd_ne (ne q)]; exact q) (fun c xs q => by rw [upd_ne (ne q)]; exact q)
end
theorem fly_grow {base h h' : Heap} {l : List Env} {e : Addr} {Z : Obj → Prop} (x : HandSPX.FlyingZ base l e Z h) (k : ∀ b o, h.get? b = some o → h'.get? b = some o) : HandSPX.FlyingZ base l e Z h' := by
  obtain ⟨a, b, c, oe, vs, T, oT, ts, he, hz, hd, h1, hnT, hTe, hT, hdT, h3⟩ := x
  exact ⟨fun p o q => k p o (a p o q), b, Heap.FunFrames.of_keeps (fun p o q _ => ⟨o, k p o q, rfl⟩) c, oe, vs, T, oT, ts, k _ _ he, hz, hd, h1, hnT, hTe, k _ _ hT, hdT, h3⟩
/-- what an except clause tests: a class, or a tuple of classes -/
def HTest (X : Cx) (tx : Expr) (mt : Value → Option Bool) : Prop := ∀ (a : Addr) (oe : Obj) (pn : List (Addr × Obj)) (σ : L2.St) (H : Hp) (s : Shared) (cls : Value) (b : Bool) (Q : Value → Shared → Prop) (E' : Value → Shared → Prop),
  Inv (X.suite a ((a, oe) :: pn)) [] σ H s → s.heap.get? a = some oe → oe.cls = cls → mt cls = some b →
    (∀ c h' t', (∀ p o, s.heap.get? p = some o → h'.get? p = some o) → PySem.W.Looks (model X.prog X.w) h' (excMatches (.ref a) c) b → Q c { s with heap := h', toks := t' }) →
    wpAny (model X.prog X.w) (X.A.mark (some (.ref a))) (eval tx X.env) Q E' s
theorem looks_type {M : Model} {h : Heap} {a : Addr} {oe : Obj} {cls : Value} (he : h.get? a = some oe) (hc : oe.cls = cls) : PySem.W.Looks M h (typeOf (.ref a)) cls :=
  fun A Q E s k q => wpAny_typeOf_ref (k _ _ he) (by rw [hc]; exact q)
theorem ld_names {X : Cx} {a : Addr} {oe : Obj} {pn : List (Addr × Obj)} {σ : L2.St} {H : Hp} {s : Shared} {x : Str} {c : Value} {np : Pos} {Q : Value → Shared → Prop} {E' : Value → Shared → Prop} (I : Inv (X.suite a ((a, oe) :: pn)) [] σ H s) (hc : Names X x c)
    (q : Q c s) : wpAny (model X.prog X.w) (X.A.mark (some (.ref a))) (eval (.Name x np) X.env) Q E' s := by
  obtain ⟨hg, hdbg, hm | ⟨hm, hv, hnn⟩⟩ := hc
  · exact ld_glob (X := X.suite a ((a, oe) :: pn)) I hg hm q hdbg
  · exact ld_blt (X := X.suite a ((a, oe) :: pn)) I hg hm hv q hnn hdbg
theorem htest1 {X : Cx} {x : Str} {c : Value} {np : Pos} (hc : Names X x c) : HTest X (.Name x np) (fun cls => PySem.W.exmOne X.K cls c) := by
  intro a oe pn σ H s cls b Q E' I he hcl hb q
  refine ld_names I hc (q c s.heap s.toks (fun _ _ z => z) ?_)
  exact PySem.W.exm_one I.kIn (looks_type he hcl) hb
theorem htest3 {X : Cx} {x1 x2 x3 : Str} {c1 c2 c3 : Value} {n1 n2 n3 tp : Pos} {k : Nat} (h1 : Names X x1 c1) (h2 : Names X x2 c2) (h3 : Names X x3 c3) :
    HTest X (.Tuple [.Name x1 n1, .Name x2 n2, .Name x3 n3] k tp) (fun cls => PySem.W.exmAny X.K cls [c1, c2, c3]) := by
  intro a oe pn σ H s cls b Q E' I he hcl hb q
  refine wpAny_Tuple_spliced ?_
  show wpAny _ _ (spliced ((false, eval (.Name x1 n1) X.env) :: (false, eval (.Name x2 n2) X.env) :: (false, eval (.Name x3 n3) X.env) :: [])) _ _ _
  refine Calls.spliced_cons (ld_names I h1 (Calls.spliced_cons (ld_names I h2 (Calls.spliced_cons (ld_names I h3 (Calls.spliced_nil ⟨by show 3 ≤ sizeLine; decide, ?_⟩))))))
  have kk : ∀ p o, s.heap.get? p = some o → (s.heap.push { cls := .type "tuple", data := .seq [c1, c2, c3].toArray }).get? p = some o := fun p o z => Heap.get?_push_of_some _ z
  exact q _ _ s.toks kk (PySem.W.exm_tup3 (I.kIn.keeps kk) (looks_type (kk _ _ he) hcl) (Heap.get?_push_size _ rfl) hb)
/-- what the clause 'except .. as n: c = n' wishes of an error of the body -/
def wKeep (mt : Value → Option Bool) (i j : Nat) (Wout : WX) (D : Ends) : WX := fun cls d σ H =>
  ∃ b, mt cls = some b ∧ (b = true → ∀ a, H a = none → D.nx (((σ.set i (some (.ref a))).set j (some (.ref a))).set i none) (upd H a (exv a cls d))) ∧ (b = false → Wout cls d σ H)
section
variable {X : Cx} {n cn : Str} {mt : Value → Option Bool} {i j : Nat} {body : List Stmt} {tx : Expr} {pc pn_ pa pos pos' : Pos} {tb : WX → TS} {Wout : WX}
theorem ps_try_keep (hs : X.stack = X.env :: X.outer) (hex : X.ex = []) (hf : X.env.frame = some X.env.locals) (hN : X.N.Nodup) (hi : X.N[i]? = some n) (hln : X.env.kindOf n = some .local) (hj : X.N[j]? = some cn) (hlj : X.env.kindOf cn = some .local) (tk : Takes X Wout)
    (ht : HTest X tx mt)
    (hb : ∀ (W : WX) (pn : List (Addr × Obj)) (xe : Value → Shared → Prop), Takes (X.tr pn xe) W → PassesOwn (model X.prog X.w) X.A X.env xe → PSs (X.tr pn xe) body (tb W))
    (hsu : ∀ (a : Addr) (oe : Obj) (pn : List (Addr × Obj)), PSs (X.suite a ((a, oe) :: pn)) [.Assign [.Name cn pc] (.Name n pn_) pa] (tAsg (tVar i) (gName j))) :
    PS X (.Try body [.ExceptHandler (some tx) (some n) [.Assign [.Name cn pc] (.Name n pn_) pa] pos'] [] [] pos) (fun D σ H => tb (wKeep mt i j Wout D) D σ H) := by
  refine ⟨fun pins s σ H D I h => ?_⟩
  have ok := I.ok
  have hfr : X.A.frames = some (X.env :: X.outer) := by rw [ok.frames, hs]
  refine wpAny_Try_except ?_
  refine wpAny_mono ((hb (wKeep mt i j Wout D) (X.pn ++ pins) (fun e s₁ => wpAny (model X.prog X.w) X.A (noteFrame e X.env) (fun _ s₂ => wpAny (model X.prog X.w) X.A (setFlight e none) (fun _ s₃ =>
    wpAny (model X.prog X.w) X.A (handleBy e X.env [.ExceptHandler (some tx) (some n) [.Assign [.Name cn pc] (.Name n pn_) pa] pos']) (SP X pins D) X.xe s₃) X.xe s₂) X.xe s₁) (fun u s' xx => ?_) PassesOwn.looking).run [] s σ H D (I.toTry _) h)
    (fun f s1 hsp => ?_) (fun e s1 he => he)
  · obtain ⟨a, B, sI, pins', σ', H', cls, d, rfl, J', nb, up, sky, na, os, ag, b, hb1, hyes, hno⟩ := xx
    have J : Inv X pins σ' H' sI := J'.ofTry ok
    have sky' : Sky B (X.env :: X.outer) a (Zc cls d) X.env.locals s'.heap := by rw [← hs]; exact sky
    show wpAny (model X.prog X.w) X.A (noteFrame (.ref a) X.env) _ _ _
    refine Sky.land Zc.steady hfr hf sky' fun h3 fl3 up3 => ?_
    have J3 : Inv X pins σ' H' { s' with heap := h3 } := J.landed nb fl3.1 (up.trans up3) os ag
    obtain ⟨oe3, vs3, he3, hz3, hd3⟩ := fl3.there
    have nfr : a ∉ frs (X.env :: X.outer) := fun hm => by
      obtain ⟨_, o', e', hnf⟩ := fl3.2.2.1.mem hm
      rw [he3] at e'; cases e'
      exact hnf _ hd3
    have nL : a ≠ X.env.locals := fun z => nfr (List.mem_filterMap.mpr ⟨X.env, List.mem_cons_self, by rw [hf, z]⟩)
    have nF : a ∉ X.fs := fun hm => by
      obtain ⟨e, he, q⟩ := List.mem_filterMap.mp hm
      exact nfr (List.mem_filterMap.mpr ⟨e, List.mem_cons_of_mem _ he, q⟩)
    have nI : sI.heap.get? a = none := by
      cases z : sI.heap.get? a with
      | none => rfl
      | some o =>
        have := nb a o z (by rw [hs]; exact nfr)
        rw [fl3.2.1] at this
        cases this
    have n0 : X.s_0.heap.get? a = none := by
      cases z : X.s_0.heap.get? a with
      | none => rfl
      | some o =>
        obtain ⟨o', e⟩ := J.base.there a o z (by rw [hex]; simp)
        rw [nI] at e
        cases e
    have npin : ∀ p ∈ X.pn ++ pins, p.1 ≠ a := fun p hp z => by
      have := (J.pin p hp).1
      rw [z, nI] at this
      cases this
    have S3 := J3.suite he3 hd3 na nL nF
    refine wpAny_handleBy_cons (codeAny_handlers_test ?_) (by intro q; cases q)
    refine ht a oe3 (X.pn ++ pins) σ' H' _ cls b _ _ S3 he3 hz3.1 hb1 fun c h3' t3' k3 LM => ?_
    have fl3' := fly_grow fl3 k3
    refine LM.here ?_
    cases b with
    | true =>
      refine codeAny_handlers_suite_as ?_
      refine HandSPX.lands_againZ (s := { s' with heap := h3', toks := t3' }) fl3' fun h4 fl4 up4 => ?_
      have up34 : h3.UpToSlots h4 := (Heap.UpToSlots.of_keeps k3).trans up4
      have J4 : Inv X pins σ' H' { s' with heap := h4, toks := t3' } := J.landed (s' := { s' with heap := h4, toks := t3' }) nb fl4.1 ((up.trans up3).trans up34) os ag
      obtain ⟨oe4, vs4, he4, hz4, hd4⟩ := fl4.there
      have S4 := J4.suite he4 hd4 na nL nF
      refine store_ok (X := X.suite a ((a, oe4) :: (X.pn ++ pins))) (v := .ref a) S4 hN hi (.inl hln) rfl (fun s5 S5 => ?_) (.inr hln)
      have iσ : i < σ'.length := by
        rw [J.len]
        exact (List.getElem?_eq_some_iff.mp hi).1
      refine wpAny_mono ((hsu a oe4 (X.pn ++ pins)).run [] s5 _ H' { nx := fun σ'' H'' => D.nx (σ''.set i none) (upd H'' a (exv a cls d)), rt := fun _ _ => False } S5 ⟨.ref a, List.getElem?_set_self iσ, hyes rfl a na⟩) (fun f s6 hsp => ?_) (fun _ _ z => False.elim z)
      cases f with
      | next =>
        obtain ⟨σ6, H6, S6, q6⟩ := hsp
        have P6 : Inv X ((a, oe4) :: pins) σ6 H6 s6 := ⟨ok, S6.os, S6.bare, S6.base, S6.loc, S6.cell, S6.free, S6.freeC, fun p hp => S6.pin p (by
          rw [List.append_nil]
          rcases List.mem_append.mp hp with z | z
          · exact List.mem_cons_of_mem _ (List.mem_append_left _ z)
          · rcases List.mem_cons.mp z with z | z
            · rw [z]; exact List.mem_cons_self
            · exact List.mem_cons_of_mem _ (List.mem_append_right _ z)), S6.hok, S6.len⟩
        refine gone_ok P6 hN hi hln fun s7 P7 => ?_
        have e7 := (P7.pin (a, oe4) (List.mem_append_right _ List.mem_cons_self)).1
        exact ⟨_, _, inv_track P7 n0 npin (exv_ok e7 hz4 hd4), q6⟩
      | brk => obtain ⟨_, _, _, z⟩ := hsp; exact False.elim z
      | cont => obtain ⟨_, _, _, z⟩ := hsp; exact False.elim z
      | ret u => obtain ⟨_, _, _, _, _, z⟩ := hsp; exact False.elim z
    | false =>
      show wpAny _ X.A (handleBy (.ref a) X.env []) _ _ _
      refine wpAny_handleBy_nil ?_
      obtain ⟨k1, k2, k4, oe, vs, T, oT, ts', he, hz, hd, h1, hr⟩ := id fl3'
      unfold PySem.passOn
      refine wpAny_bind (wpAny_field he hd h1 ?_)
      rw [if_neg (show ¬ ((Value.ref T == Value.none) = true) from by simp)]
      have fin : wpAny (model X.prog X.w) X.A (setFlight (.ref a) X.env.frame) (fun _ s4 => wpAny (model X.prog X.w) X.A (throw (.ref a) : Sem Flow) (SP X pins D) X.xe s4) X.xe { s' with heap := h3', toks := t3' } := by
        rw [hf]
        refine HandSPX.setFlight_upZ (s := { s' with heap := h3', toks := t3' }) fl3' fun h4 hh4 up4 => wpAny_throw (tk _ _ ?_)
        exact ⟨a, B, sI, pins, σ', H', cls, d, rfl, J, nb, (up.trans up3).trans ((Heap.UpToSlots.of_keeps k3).trans up4), .inr (.inr (by rw [hs]; exact hh4)), na, os, ag, hno rfl⟩
      first
        | exact wpAny_bind (wpAny_pure (wpAny_bind fin))
        | exact wpAny_bind fin
  · cases f with
    | next =>
      obtain ⟨σ', H', J', q⟩ := hsp
      exact wpAny_execs_nil ⟨σ', H', J'.ofTry ok, q⟩
    | brk =>
      obtain ⟨σ', H', J', q⟩ := hsp
      exact ⟨σ', H', J'.ofTry ok, q⟩
    | cont =>
      obtain ⟨σ', H', J', q⟩ := hsp
      exact ⟨σ', H', J'.ofTry ok, q⟩
    | ret u =>
      obtain ⟨v, σ', H', J', r, q⟩ := hsp
      exact ⟨v, σ', H', J'.ofTry ok, r, q⟩
end
end TT
namespace TT
open PySem PySem.Spec PyProof.Rows L2
/-- what an own error class must say for its instances to be looked at -/
structure XcL (K : PySem.W.Frag) (C : Addr) : Prop where
  cl : (PySem.W.clsIn K C).isSome = true
  ga : PySem.W.findIn K (.ref C) "__getattribute__" = some (some (.builtin "BaseException.__getattribute__"))
  gg : PySem.W.findIn K (.ref C) "__getattr__" = some none
  ex : PySem.W.subIn K (.ref C) (.type "BaseException") = some true
  ca : PySem.W.findIn K (.ref C) "__class__" = some (some (.builtin "object.__class__"))
  cg : PySem.W.specialIn K (.builtin "object.__class__") "__get__" = some (some (.builtin "getset_descriptor.__get__"))
  ct : PySem.W.takesIn K (.builtin "object.__class__") = some true
  ob : PySem.W.mroIn K C (.type "object") = some true
  hd : PySem.W.hasDictIn K C = true
inductive TyZ (K : PySem.W.Frag) (H : Hp) : V → Value → Prop where
  | base {x : V} {t : Value} (h : TyX K H x t) : TyZ K H x t
  | exc {a C d : Addr} {fs : List (Str × V)} (e : H a = some (exv a (.ref C) (some d))) (ed : H d = some (.xd fs)) (c : XcL K C) : TyZ K H (.ref a) (.ref C)
theorem exc_inst {X : Cx} {pins : List (Addr × Obj)} {σ : L2.St} {H : Hp} {s : Shared} {a C d : Addr} {fs : List (Str × V)} (I : Inv X pins σ H s) (e : H a = some (exv a (.ref C) (some d))) (ed : H d = some (.xd fs)) :
    ∃ oe od, PySem.W.InstAt s.heap a oe C (some od) ∧ s.heap.get? d = some od := by
  obtain ⟨oe, vs, h1, h2, h3, h4⟩ := exv_at I.hok e
  obtain ⟨mA, ⟨od, es, ep, ho, _⟩, hr⟩ := I.hok d _ ed
  exact ⟨oe, od, ⟨h1, h2, by unfold PySem.W.notCls; rw [h4] <;> rfl, by rw [h3]; exact ho⟩, ho⟩
theorem kit_ofZ {X : Cx} {pins : List (Addr × Obj)} {σ : L2.St} {H : Hp} {s : Shared} {x : V} {u t : Value} (I : Inv X pins σ H s) (rx : RelV x u) (ty : TyZ X.K H x t) :
    ∃ P : Heap → Prop, PySem.W.KitX X.K u t P ∧ P s.heap ∧ u ≠ .builtin "__main__.__loader__#\x6fpaque" := by
  cases ty with
  | base h => exact kit_of I rx h
  | @exc a C d fs e ed c =>
    cases (show u = Value.ref a from rx)
    obtain ⟨oe, od, J, _⟩ := exc_inst I e ed
    exact ⟨_, PySem.W.kitx_exc (ox := oe) (od := some od) c.cl c.ga c.gg c.ex c.ca c.cg c.ct c.ob, J, fun z => nomatch z⟩
def rIsZ (K : PySem.W.Frag) : List V → Hp → VK → Prop := fun xs H Q => ∃ (x c : V) (t u : Value) (b : Bool), xs = [x, c] ∧ ClsV c u ∧ TyZ K H x t ∧ PySem.W.kitOne K t u = some b ∧ Q (.bl b) H
def rIsZT (K : PySem.W.Frag) : List V → Hp → VK → Prop := fun xs H Q => ∃ (x : V) (tp : Addr) (cs : List V) (t : Value) (us : List Value) (b : Bool),
  xs = [x, .ref tp] ∧ H tp = some (.tup cs) ∧ Paired ClsV cs us ∧ TyZ K H x t ∧ PySem.W.kitAny K t us = some b ∧ Q (.bl b) H
theorem call_isZ {X : Cx} : CallR X (.builtin "isinstance") (rIsZ X.K) := by
  rintro pins s σ H xs us Q I r ⟨x, c, t, u, b, rfl, k, ty, e, q⟩
  obtain ⟨u1, u2, rfl, r1, r2⟩ := vals2 r
  cases k.eq r2
  obtain ⟨P, Z, p, hx⟩ := kit_ofZ I r1 ty
  exact PySem.W.kia_one Z I.kIn p e hx fun tk => ⟨.bl b, H, I.tok tk, rfl, q⟩
theorem call_isZT {X : Cx} : CallR X (.builtin "isinstance") (rIsZT X.K) := by
  rintro pins s σ H xs us Q I r ⟨x, tp, cs, t, ws, b, rfl, hT, k, ty, e, q⟩
  obtain ⟨u1, u2, rfl, r1, r2⟩ := vals2 r
  cases (show u2 = Value.ref tp from r2)
  obtain ⟨P, Z, p, hx⟩ := kit_ofZ I r1 ty
  obtain ⟨_, its, rv, ⟨oc, od, dt, sl⟩, h1, h2, n, h3⟩ := (show ObjOk X.prog X.w H s.heap tp (.tup cs) from I.hok tp _ hT)
  cases ClsV.all k rv
  simp only at h2 h3
  subst h2 h3
  exact PySem.W.kia_tup Z I.kIn p h1 e hx fun tk => ⟨.bl b, H, I.tok tk, rfl, q⟩
def tXfd (K : PySem.W.Frag) (f : Str) (te : TE) : TE := fun σ H Q => te σ H fun x H1 => ∃ a C d fs v, x = .ref a ∧ H1 a = some (exv a (.ref C) (some d)) ∧ H1 d = some (.xd fs) ∧ XcL K C ∧ PySem.W.findIn K (.ref C) f = some none ∧ fs.lookup f = some v ∧ Q v H1
theorem pe_xfd {X : Cx} {e : Expr} {te : TE} {pos : Pos} {f : Str} (he : PE X e te) (hb : attributeBase e f X.env (eval e X.env) = eval e X.env := by rfl) : PE X (.Attribute e f pos) (tXfd X.K f te) := by
  refine ⟨fun pins s σ H Q I h => ?_⟩
  refine attr_of hb (thn (he.run pins s σ H _ I h) ?_)
  rintro u s1 ⟨x, H1, I1, rx, a, C, d, fs, v, rfl, ea, ed, T, hno, l, q⟩
  obtain rfl : u = Value.ref a := rx
  obtain ⟨oe, od, J, ho⟩ := exc_inst I1 ea ed
  obtain ⟨mA, hns, hr⟩ := I1.hok d _ ed
  obtain ⟨od2, ho2, hl⟩ := lookIn_ns hns
  rw [ho] at ho2
  cases ho2
  obtain ⟨u, hu, ru⟩ := RelO.some_of (v := v) (o := mA f) (by rw [← l]; exact hr f)
  exact HandSPX.exc_get I1.kIn J T.ga T.gg T.ex (PySem.W.findObj_own T.hd hno rfl (by rw [hl, hu])) (handed_of ru) ⟨v, H1, I1.tok _, ru, q⟩
theorem dp_noDict {K : PySem.W.Frag} {H : Hp} : ∀ (d : PyData) (v : V), Dp K H v d → d.hasDict = false := by
  intro d
  have key : (∀ (d : PyData) (v : V), Dp K H v d → d.hasDict = false) := by
    intro d
    refine PyData.rec (motive_1 := fun d => ∀ v, Dp K H v d → d.hasDict = false) (motive_2 := fun ds => ∀ vs, DpAll K H vs ds → PyData.hasDictAll ds = false) (motive_3 := fun _ => True) (motive_4 := fun _ => True)
      ?_ ?_ ?_ ?_ ?_ ?_ ?_ ?_ ?_ ?_ ?_ ?_ d
    · intro v h; rfl
    · intro b v h; rfl
    · intro i v h; rfl
    · intro s v h; rfl
    · intro ds ih v h
      cases h with
      | lst h1 h2 => exact ih _ h2
    · intro ds ih v h
      cases h with
      | tup h1 h2 => exact ih _ h2
    · intro kvs _ v h
      cases h
    · intro vs h; rfl
    · intro d ds ih1 ih2 vs h
      cases h with
      | cons h1 h2 =>
        simp only [PyData.hasDictAll]
        rw [ih1 _ h1, ih2 _ h2]; rfl
    · trivial
    · intros; trivial
    · intros; trivial
  exact key d
def rRepr (K : PySem.W.Frag) : List V → Hp → VK → Prop := fun xs H Q => ∃ x d, xs = [x] ∧ Dp K H x d ∧ d.showable = true ∧ d.depth ≤ 64 ∧ d.shown.length ≤ sizeLine ∧ Q (.str d.shown) H
theorem call_repr {X : Cx} {k : Nat} (hr : Rm k X.A) : CallR X (.builtin "repr") (rRepr X.K) := by
  rintro pins s σ H xs us Q I r ⟨x, d, rfl, hd, hs, hdp, hz, q⟩
  obtain ⟨u, rfl, ru⟩ := vals1 r
  have hu := hr.r.un
  have fin : ∀ h' tk u', (∀ b o, s.heap.get? b = some o → h'.get? b = some o) → EP X pins σ Q (.str d.shown u') { s with heap := h', toks := tk } := fun h' tk u' k => ⟨.str d.shown, H, I.kept (t' := tk) k, ⟨_, rfl⟩, q⟩
  cases hd with
  | non =>
    cases (show u = Value.none from ru)
    exact PySem.P.repr_of_none (fin s.heap _ _ fun _ _ z => z)
  | bl b =>
    cases (show u = Value.bool b from ru)
    exact PySem.P.repr_of_bool (fin s.heap _ _ fun _ _ z => z)
  | int i =>
    obtain ⟨t, e⟩ := (show ∃ t, u = Value.int i t from ru)
    subst e
    exact PySem.P.repr_of_int (by simpa [PyData.showable] using hs) (fin s.heap _ _ fun _ _ z => z)
  | str y =>
    obtain ⟨t, e⟩ := (show ∃ t, u = Value.str y t from ru)
    subst e
    exact PySem.P.repr_of_str (fin s.heap _ _ fun _ _ z => z) hz
  | @lst a ys ds h1 h2 =>
    obtain ⟨as, rd⟩ := Dp.reads I _ _ _ (Dp.lst h1 h2) ru
    cases (show u = Value.ref a from ru)
    have nd := dp_noDict _ _ (Dp.lst h1 h2)
    exact repr_of_reads' rd hs (fun z => by rw [nd] at z; cases z) hr.g (by omega) (fun _ _ z => z) (fun h' u' tk kk => fin h' tk u' kk) hz
  | @tup a ys ds h1 h2 =>
    obtain ⟨as, rd⟩ := Dp.reads I _ _ _ (Dp.tup h1 h2) ru
    cases (show u = Value.ref a from ru)
    have nd := dp_noDict _ _ (Dp.tup h1 h2)
    exact repr_of_reads' rd hs (fun z => by rw [nd] at z; cases z) hr.g (by omega) (fun _ _ z => z) (fun h' u' tk kk => fin h' tk u' kk) hz
end TT
namespace TT
open PySem PySem.Spec PyProof.Rows L2
def leD (b c : V × PyData) : Bool := PySem.W.dataLe false (fun b : V × PyData => b.2) b c
def rSort (K : PySem.W.Frag) : List V → Hp → VK → Prop := fun xs H Q => ∃ (a : Addr) (bs : List (V × PyData)), xs = [V.ref a] ∧ (SqL K H a (bs.map (·.1)) ∨ SqT K H a (bs.map (·.1))) ∧ (∀ b ∈ bs, Dp K H b.1 b.2) ∧
  PySem.W.AllAlike (bs.map (·.2)) ∧ PySem.W.Sortable (bs.map (·.2)) ∧ (∀ b ∈ bs, b.2.depth ≤ 64) ∧ ∀ p, H p = none → Q (.ref p) (upd H p (.lst ((bs.mergeSort leD).map (·.1))))
theorem each_vals {h : Heap} : ∀ {bs : List (V × PyData)} {us : List Value}, Vals (bs.map (·.1)) us → PySem.W.EachIs (fun u b => RelV b.1 u) us bs
  | [], _, r => by cases r; exact .nil
  | b :: bs, _, r => by
    cases r with
    | cons r1 r2 => exact .cons r1 (each_vals (h := h) r2)
theorem each_back : ∀ {bs : List (V × PyData)} {us : List Value}, PySem.W.EachIs (fun u b => RelV b.1 u) us bs → Vals (bs.map (·.1)) us
  | _, _, .nil => .nil
  | _, _, .cons a b => .cons a (each_back b)
theorem each_reads {X : Cx} {pins : List (Addr × Obj)} {σ : L2.St} {H : Hp} {s : Shared} (I : Inv X pins σ H s) : ∀ {bs : List (V × PyData)} {us : List Value}, (∀ b ∈ bs, Dp X.K H b.1 b.2) → Vals (bs.map (·.1)) us →
    PySem.W.EachIs (fun u b => ∃ as, Reads s.heap u b.2 as) us bs
  | [], _, _, r => by cases r; exact .nil
  | b :: bs, _, h, r => by
    cases r with
    | cons r1 r2 => exact .cons (Dp.reads I _ _ _ (h b (List.mem_cons_self ..)) r1) (each_reads I (fun c hc => h c (List.mem_cons_of_mem _ hc)) r2)
theorem call_sorted {X : Cx} {k : Nat} (hr : Rm k X.A) : CallR X (.builtin "sorted") (rSort X.K) := by
  rintro pins s σ H xs us Q I r ⟨a, bs, rfl, hsq, hd, hal, hk, hdp, q⟩
  obtain ⟨u, rfl, ru⟩ := vals1 r
  obtain rfl : u = Value.ref a := ru
  have hun := hr.r.un
  obtain ⟨vs, T, o, n, hT, ho, hc, hdt, rv, hz⟩ : ∃ (vs : List Value) (T : String) (o : Obj) (n : Nat), (T = "list" ∨ T = "tuple") ∧ s.heap.get? a = some o ∧ o.cls = .type T ∧ o.data = .seq vs.toArray n ∧ Vals (bs.map (·.1)) vs ∧ (bs.map (·.1)).length ≤ sizeLine := by
    rcases hsq with h | h
    · obtain ⟨its, rv, pl, hz⟩ := I.list h
      obtain ⟨o, ho, hc, n, hd⟩ := pl.isList
      exact ⟨its, "list", o, n, .inl rfl, ho, hc, hd, rv, hz⟩
    · obtain ⟨its, rv, ⟨o, ho, hc, n, hd⟩, hz⟩ := I.tuple h
      exact ⟨its, "tuple", o, n, .inr rfl, ho, hc, hd, rv, hz⟩
  have hlv : vs.length ≤ sizeLine := by rw [← rv.length]; exact hz
  have hlb : vs.length = bs.length := by rw [← rv.length, List.length_map]
  have er := each_reads I hd rv
  refine call_function_entry_kw kind_sorted plain_sorted entry_sorted (args_sorted1 _) ?_
  unfold Builtin.«sorted»
  refine wpAny_bind (m := checkCount "sorted" 1 1 _) (wpAny_pure ?_)
  refine wpAny_bind (wpAny_collect_seq a hT ho hc hdt (fun h1 k1 => ?_) (by simpa using hlv))
  have el : vs.toArray.toList = vs := by simp
  rw [el]
  refine wpAny_bind (wpAny_newList ?_ hlv)
  have k2 : ∀ b o, h1.get? b = some o → (h1.push (seqObj "list" vs.toArray 0)).get? b = some o := fun b o z => Heap.get?_push_of_some _ z
  have hD : (h1.push (seqObj "list" vs.toArray 0)).get? h1.objs.size = some (seqObj "list" vs.toArray 0) := Heap.get?_push_size _ rfl
  have I1 : Inv X pins σ H { s with heap := h1 } := I.kept (t' := s.toks) k1
  show wpAny _ _ _ _ _ { s with heap := h1.push (seqObj "list" vs.toArray 0) }
  refine wpAny_bind (wpAny_holding (wpAny_call_entry_kw slot_list_sort ⟨_, hD, rfl⟩ entry_list_sort ?_ (args_list_sort _)))
  show wpAny (model X.prog X.w) X.A.in1.in1 (Builtin.«list.sort» ⟨[.ref h1.objs.size], []⟩) _ _ _
  have er' : PySem.W.EachIs (fun u (b : V × PyData) => ∃ as, Reads (PySem.W.sortingHeap (h1.push (seqObj "list" vs.toArray 0)) h1.objs.size vs) u b.2 as) vs bs :=
    er.mono fun _ _ ⟨as, r⟩ => ⟨as, PyProof.Rows.Reads.keeps (fun b o z => PySem.W.sortingHeap_old (Nat.ne_of_lt (Heap.lt_size (k1 b o z))) (k2 b o (k1 b o z))) r⟩
  refine PySem.W.list_sort_vals (s := { s with heap := h1.push (seqObj "list" vs.toArray 0) }) (κ := PySem.W.dataKind (PySem.W.sortingHeap (h1.push (seqObj "list" vs.toArray 0)) h1.objs.size vs) (bs.map (fun b : V × PyData => b.2))) hD
    (PySem.W.SortsAt.data (PySem.W.each_map (R := fun u d => ∃ as, Reads (PySem.W.sortingHeap (h1.push (seqObj "list" vs.toArray 0)) h1.objs.size vs) u d as) (fun b : V × PyData => b.2) er') hal hk ?_) hlv ?_
  · intro d hdm
    obtain ⟨b, hb, rfl⟩ := List.mem_map.mp hdm
    have := hdp b hb
    show X.A.units + 1 + 1 + b.2.depth < cLine
    omega
  · have eo := PySem.W.sortVals_data (R := fun u b => RelV b.1 u) false (each_vals (h := s.heap) rv) er' hal
    obtain ⟨c, hc'⟩ := sortedHeap_at (vs := vs) (out := (PySem.W.sortVals (PySem.W.dataKind (PySem.W.sortingHeap (h1.push (seqObj "list" vs.toArray 0)) h1.objs.size vs) (bs.map (·.2))) false vs vs).toArray) hD
    refine ⟨_, rfl, wpAny_pure ⟨_, rfl, ?_⟩⟩
    have kk : ∀ b o, h1.get? b = some o → (sortedHeap (h1.push (seqObj "list" vs.toArray 0)) h1.objs.size vs (PySem.W.sortVals (PySem.W.dataKind (PySem.W.sortingHeap (h1.push (seqObj "list" vs.toArray 0)) h1.objs.size vs) (bs.map (·.2))) false vs vs).toArray).get? b = some o := fun b o z =>
      (sortedHeap_old (Nat.ne_of_lt (Heap.lt_size z)) (Heap.lt_size (k2 b o z))).trans (k2 b o z)
    have lenS : ((bs.mergeSort (PySem.W.dataLe false (fun b : V × PyData => b.2))).map (·.1)).length ≤ sizeLine := by
      rw [List.length_map, List.length_mergeSort, ← hlb]
      exact hlv
    exact ⟨.ref h1.objs.size, _, I1.laid (t' := s.toks) (a := h1.objs.size) (o := .lst ((bs.mergeSort leD).map (·.1))) kk (Nat.le_refl _) ⟨lenS, _, c, each_back eo, hc'⟩, rfl, q _ (I1.hok.fresh (Nat.le_refl _))⟩
end TT
namespace TT
open PySem PySem.Spec PyProof.Rows L2
theorem meets_enumerate_newT (l : Addr) (items : Array Value) :
    Meets (Builtin.«enumerate.__new__» ⟨[.type "enumerate", .ref l], []⟩) (fun _ R s => s.heap.IsTuple l items ∧
      R (.ok (.ret (.ref (s.heap.push { cls := .type "tuple_iterator", data := .fields #[.ref l, .int 0 0] }).objs.size)))
        { s with heap := (s.heap.push { cls := .type "tuple_iterator", data := .fields #[.ref l, .int 0 0] }).push { cls := .type "enumerate", data := .fields #[.none, .bool false, .ref s.heap.objs.size, rawInt 0, .none, .none] } }) :=
  .of_wp fun prog w A R s h => by
    obtain ⟨hp, g, d, tk, os⟩ := s
    obtain ⟨hL, h⟩ := h
    have hsub := sub_enumerate
    have q1 : ∀ {A' : Around} {E : Value → Shared → Prop} {Q : Value → Shared → Prop}, Q (.ref hp.objs.size) ⟨hp.push { cls := .type "tuple_iterator", data := .fields #[.ref l, .int 0 0] }, g, d, tk, os⟩ → wpAny (model prog w) A' (pyIter (.ref l)) Q E ⟨hp, g, d, tk, os⟩ :=
      fun q => wpAny_pyIter_tuple (s := ⟨hp, g, d, tk, os⟩) hL q
    wp_walk using q1
    refine wpAny_stack_any fun st => wpAny_pure ?_
    split
    · rename_i c _ _ _ _ _
      cases (c == Value.type "enumerate")
      · wp_walk using q1
        exact ⟨_, rfl, h⟩
      · wp_walk using q1
        exact ⟨_, rfl, h⟩
    · wp_walk using q1
      exact ⟨_, rfl, h⟩
section
variable {prog : Program} {w : World} {A : Around} {E : Value → Shared → Prop} {s : Shared}
theorem call_enumerate_tuple {l : Addr} {items : Array Value} {Q : Value → Shared → Prop} (hL : s.heap.IsTuple l items)
    (h : ∀ h', IsEnum h' (s.heap.objs.size + 1) s.heap.objs.size 0 .none → h'.IsTupleIter s.heap.objs.size l 0 → h'.objs.size = s.heap.objs.size + 2 →
      (∀ b o, s.heap.get? b = some o → h'.get? b = some o) → Q (.ref (s.heap.objs.size + 1)) { s with heap := h' }) :
    wpAny (model prog w) A (call (.type "enumerate") [.ref l]) Q E s := by
  refine callType_new F.called_enumerate (by decide) (F.typeCall_enumerate_1 _) (F.newCall_enumerate_1 _) (fun obj => F.args_object_init_2 obj _) F.entry_enumerate_new
    (meets_enumerate_newT l items) ⟨hL, ?_⟩
  let ob : Obj := { cls := .type "tuple_iterator", data := .fields #[.ref l, .int 0 0] }
  have hz : (s.heap.push ob).objs.size = s.heap.objs.size + 1 := Heap.size_push ..
  show _ ∧ _
  have he : IsEnum ((s.heap.push ob).push { cls := .type "enumerate", data := .fields #[.none, .bool false, .ref s.heap.objs.size, rawInt 0, .none, .none] }) (s.heap.objs.size + 1) s.heap.objs.size 0 .none := by
    have := Heap.get?_push_size (s.heap.push ob) (o := { cls := .type "enumerate", data := .fields #[.none, .bool false, .ref s.heap.objs.size, rawInt 0, .none, .none] }) rfl
    rw [hz] at this
    exact this
  have fin := h _ he ⟨_, Heap.get?_push_of_some _ (Heap.get?_push_size _ rfl), rfl, rfl⟩ (by rw [Heap.size_push, hz]) fun b o x => Heap.get?_push_of_some _ (Heap.get?_push_of_some _ x)
  rw [show (s.heap.push { cls := .type "tuple_iterator", data := .fields #[.ref l, .int 0 0] }).objs.size = s.heap.objs.size + 1 from hz]
  exact ⟨⟨_, he, rfl⟩, fin⟩
end
/-- the tuple at a, its items with their places -/
def IteT (K : PySem.W.Frag) (a : Addr) : It :=
  ⟨fun i H => ∃ (xs : List V) (x : V), SqT K H a xs ∧ xs[i]? = some x, fun i H v H' => ∃ T x, v = .ref T ∧ H T = none ∧ H' = upd H T (.tup [.int (i : Nat), x]) ∧ ∀ xs, SqT K H a xs → xs[i]? = some x, fun i H => ∃ xs : List V, SqT K H a xs ∧ xs.length = i⟩
theorem turn_enumT {P : Program} {w : World} {K : PySem.W.Frag} {elts : List Expr} {kk : Nat} {tpos : Pos} (a e it : Addr) (nea : a ≠ it) (nee : e ≠ a) :
    Turn P w K (.Tuple elts kk tpos) (IteT K a) [e, it] e (fun i h => (∃ old, IsEnum h e it ((i : Nat) : Int) old) ∧ h.IsTupleIter it a i ∧ e ≠ it) where
  mem := by simp
  obj := fun i h st b hb => by
    obtain ⟨⟨old, he⟩, ⟨o, ho, hc, hd⟩, _⟩ := st
    have e' : b = e ∨ b = it := by simpa using hb
    rcases e' with z | z
    · rw [z]; exact ⟨_, he, fun v q => nomatch q⟩
    · rw [z]; exact ⟨o, ho, fun v q => by rw [hd] at q; cases q⟩
  keep := fun i h h' st k => let ⟨⟨old, he⟩, hi, hne⟩ := st; ⟨⟨old, k e (by simp) _ he⟩, hi.at fun o q => k it (by simp) o q, hne⟩
  item := by
    intro X hP hw hK hc i pins s σ H E I hf st hg
    subst hP hw hK
    obtain ⟨⟨old, he⟩, hit, hne⟩ := st
    obtain ⟨xs, x, hq, hx⟩ := hg
    obtain ⟨its, rv, p, hz⟩ := I.tuple hq
    obtain ⟨u, hu, ru⟩ := rv.get hx
    have hel : e < s.heap.objs.size := Heap.lt_size he
    have hil : it < s.heap.objs.size := by obtain ⟨_, q, _⟩ := hit; exact Heap.lt_size q
    have hli : i < its.toArray.size := by
      have := (List.getElem?_eq_some_iff.mp hu).1
      simpa using this
    refine wpAny_pyNext_enum_itemD (n := its.toArray.size) (Draws.tuple (A := X.A.in1) (I.ok.hd hc) it a nea its.toArray) he ⟨hit, p⟩ hli hne (by simp [hne, nee]) fun y h' tk hy ho hst hT hsz hk => ?_
    obtain ⟨hit', _⟩ := hst
    have hyu : y = u := by
      have hy' : its.toArray[i]? = some y := hy
      have hu' : its.toArray[i]? = some u := by simpa using hu
      rw [hu'] at hy'
      exact (Option.some.inj hy').symm
    subst hyu
    refine ⟨_, rfl, wpAny_letOwnedTupleGo_enum (s := { s with heap := h', toks := tk + 1 }) ho fun h'' he' sb => ?_⟩
    have hT2 : h''.get? s.heap.objs.size = some { cls := .type "tuple", data := .seq #[.int i tk, y] } := (sb.2 _ (Nat.ne_of_gt hel)).trans hT
    have new : ObjOk X.prog X.w (upd H s.heap.objs.size (.tup [.int (i : Nat), x])) h'' s.heap.objs.size (.tup [.int (i : Nat), x]) :=
      ⟨by show 2 ≤ sizeLine; decide, [.int i tk, y], .cons ⟨_, rfl⟩ (.cons ru .nil), ⟨_, hT2, rfl, _, rfl⟩⟩
    have I1 : Inv X pins σ (upd H s.heap.objs.size (.tup [.int (i : Nat), x])) { s with heap := h'', toks := tk + 1 } :=
      I.turnedNew (ch := [e, it]) (fun b ob hb q => (sb.2 b (fun z => hb (by simp [z]))).trans (hk b ob (fun z => hb (by simp [z])) (fun z => hb (by simp [z])) q)) hf (Nat.le_refl _) new
    refine ⟨.ref s.heap.objs.size, _, I1, rfl, ⟨_, x, rfl, I.hok.fresh (Nat.le_refl _), rfl, fun ys hy => by rw [I.tuple_inj hy hq]; exact hx⟩, ⟨⟨y, ?_⟩, hit'.at fun o q => (sb.2 it (Ne.symm hne)).trans q, hne⟩, fun b hb => ?_⟩
    · have e1 : ((i + 1 : Nat) : Int) = (i : Int) + 1 := by omega
      rw [e1]; exact he'
    · have hb' : b < s.heap.objs.size := by
        have e' : b = e ∨ b = it := by simpa using hb
        rcases e' with z | z
        · rw [z]; exact hel
        · rw [z]; exact hil
      rw [upd_ne (Nat.ne_of_lt hb')]
      exact (hf b hb).1
  done := by
    intro X hP hw hK hc i pins s σ H E I hf st hg
    subst hP hw hK
    obtain ⟨⟨old, he⟩, hit, hne⟩ := st
    obtain ⟨xs, hq, hx⟩ := hg
    obtain ⟨its, rv, p, hz⟩ := I.tuple hq
    obtain ⟨f0, f1, f2, f3, f4, f5⟩ := hf it (by simp)
    have hl := rv.length
    have hn : its.toArray.size = i := by simp; omega
    exact wpAny_pyNext_enum_endD (n := its.toArray.size) (Draws.tuple (A := X.A.in1) (I.ok.hd hc) it a nea its.toArray) he ⟨hn ▸ hit, p⟩ fun h' eb => ⟨rfl, I.turned (t' := s.toks) (fun b o hb q => eb b o hb q) f0 f1 f3 f4 f5⟩
  self := fun A i s Q E st h => let ⟨⟨_, he⟩, _⟩ := st; wpAny_pyIter_enum he h
def iEnumT (K : PySem.W.Frag) (ta : TA) : TI := fun σ H R => ta σ H fun vs H1 => ∃ a xs, vs = [.ref a] ∧ SqT K H1 a xs ∧ R (IteT K a) H1
theorem pi_enumT {X : Cx} {e : Expr} {ta : TA} {p pos tpos : Pos} {elts : List Expr} {kk : Nat} (hg : Gl X "enumerate") (hm : X.mg "enumerate" = none) (ha : PA X [e] ta) (hst : starEach [e] X.env = [(false, eval e X.env)] := by rfl) :
    PI X (.Tuple elts kk tpos) (.Call (.Name "enumerate" p) [e] [] pos) (iEnumT X.K ta) := by
  refine ⟨fun pins s σ H R I h => ?_⟩
  refine Call_ (ld_blt I hg hm boot_enumerate (PyProof.Rows.callWith_type1 (thn (ha.run pos pins s σ H _ I h) ?_) hst rfl))
  rintro us s1 ⟨vs, H1, I1, r1, a, xs, rfl, hq, q⟩
  obtain ⟨u, rfl, r⟩ : ∃ u, us = [u] ∧ RelV (.ref a) u := by
    cases r1 with
    | cons r rr => cases rr; exact ⟨_, rfl, r⟩
  obtain rfl : u = Value.ref a := r
  obtain ⟨its, rv, p', hz⟩ := I1.tuple hq
  have hla : a < s1.heap.objs.size := by obtain ⟨_, q, _⟩ := p'; exact Heap.lt_size q
  refine call_enumerate_tuple p' fun h' he hit hsz hk => wpAny_pyIter_enum he ?_
  have I2 : Inv X pins σ H1 { s1 with heap := h' } := I1.kept (t' := s1.toks) hk
  refine ⟨s1.heap.objs.size + 1, [s1.heap.objs.size + 1, s1.heap.objs.size], _, _, H1, rfl, I2, turn_enumT a (s1.heap.objs.size + 1) s1.heap.objs.size (Nat.ne_of_lt hla) (Ne.symm (Nat.ne_of_lt (Nat.lt_succ_of_lt hla))), ⟨⟨.none, he⟩, hit, Nat.succ_ne_self _⟩, fun b hb => ?_, q⟩
  have hle : s1.heap.objs.size ≤ b := by
    have hb' : b = s1.heap.objs.size + 1 ∨ b = s1.heap.objs.size := by simpa using hb
    rcases hb' with z | z
    · rw [z]; exact Nat.le_succ _
    · rw [z]; exact Nat.le_refl _
  exact I1.fpOk hle (I1.hok.fresh hle)
theorem for_it {J : It} {n : Nat} {g : TG} {tb : TS} {D : Ends} {σ : L2.St} {H : Hp} (Pv : Nat → L2.St → Hp → Prop) (h0 : Pv 0 σ H) (hgo : ∀ i σ H, i < n → Pv i σ H → J.go i H) (hst : ∀ σ H, Pv n σ H → J.stop n H)
    (hs : ∀ i x σ H H', i < n → Pv i σ H → J.yld i H x H' → g x σ H' fun σ2 H2 => tb { D with nx := Pv (i + 1), ct := Pv (i + 1), bk := D.nx } σ2 H2) (hd : ∀ σ H, Pv n σ H → D.nx σ H) :
    ∃ W : Nat → Nat → L2.St → Hp → Prop, (∃ m, W 0 m σ H) ∧ ∀ i m σ H, W i m σ H →
      (J.stop i H ∧ D.nx σ H) ∨ (J.go i H ∧ ∃ N : L2.St → Hp → Prop, (∀ σ' H', N σ' H' → ∃ m', m' < m ∧ W (i + 1) m' σ' H') ∧ ∀ x H', J.yld i H x H' → g x σ H' fun σ2 H2 => tb { D with nx := N, ct := N, bk := D.nx } σ2 H2) := by
  refine ⟨fun i m σ H => m + i = n ∧ Pv i σ H, ⟨n, rfl, h0⟩, ?_⟩
  rintro i m σ H ⟨hi, p⟩
  by_cases h : i < n
  · exact .inr ⟨hgo i σ H h p, Pv (i + 1), fun σ' H' p' => ⟨n - (i + 1), by omega, by omega, p'⟩, fun x H' y => hs i x σ H H' h p y⟩
  · obtain rfl : i = n := by omega
    exact .inl ⟨hst σ H p, hd σ H p⟩
theorem lc_it {J : It} {n : Nat} {g : TG} {tt : TT} {te : TE} {vs : List Nat} {σ : L2.St} {H1 : Hp} {D : Addr} {Qd : Hp → Prop} (Pv : Nat → Hp → Prop) (h0 : Pv 0 (upd H1 D (.lst []))) (hgo : ∀ i H, i < n → Pv i H → J.go i H) (hst : ∀ H, Pv n H → J.stop n H)
    (hs : ∀ i x H H', i < n → Pv i H → J.yld i H x H' → g x (wipe σ vs) H' fun σ2 H2 => wipe σ2 vs = wipe σ vs ∧ tt σ2 H2 fun b H3 =>
      if b = true then te σ2 H3 fun y H4 => ∃ acc, H4 D = some (.lst acc) ∧ acc.length < sizeLine ∧ Pv (i + 1) (upd H4 D (.lst (acc ++ [y]))) else Pv (i + 1) H3) (hd : ∀ H, Pv n H → Qd H) :
    ∃ W : Nat → Nat → Hp → Prop, (∃ m, W 0 m (upd H1 D (.lst []))) ∧ ∀ i m H, W i m H →
      (J.stop i H ∧ Qd H) ∨ (J.go i H ∧ ∃ Nx : Hp → Prop, (∀ H', Nx H' → ∃ m', m' < m ∧ W (i + 1) m' H') ∧ ∀ x H', J.yld i H x H' → g x (wipe σ vs) H' fun σ2 H2 => wipe σ2 vs = wipe σ vs ∧ tt σ2 H2 fun b H3 =>
        if b = true then te σ2 H3 fun y H4 => ∃ acc, H4 D = some (.lst acc) ∧ acc.length < sizeLine ∧ Nx (upd H4 D (.lst (acc ++ [y]))) else Nx H3) := by
  refine ⟨fun i m H => m + i = n ∧ Pv i H, ⟨n, rfl, h0⟩, ?_⟩
  rintro i m H ⟨hi, p⟩
  by_cases h : i < n
  · exact .inr ⟨hgo i H h p, Pv (i + 1), fun H' p' => ⟨n - (i + 1), by omega, by omega, p'⟩, fun x H' y => hs i x H H' h p y⟩
  · obtain rfl : i = n := by omega
    exact .inl ⟨hst H p, hd H p⟩
end TT
namespace TT
open PySem PySem.Spec PyProof.Rows L2
/-- a def: where it stands (read off K), what it is -/
structure Df where
  at_ : PySem.W.Frag → Addr
  name : Str
  qual : Str
  params : Arguments
  body : List Stmt
  scope : Scope
  dfl : List He.Dv := []
  kwd : List (Str × He.Dv) := []
  clo : List Str := []
def Df.dvs (K : PySem.W.Frag) (d : Df) : List V := d.dfl.map (He.Dv.v K)
def Df.kws (K : PySem.W.Frag) (d : Df) : List (Str × V) := d.kwd.map fun q => (q.1, q.2.v K)
abbrev Fn7 : Type := Option (Str × Str × Arguments × FuncBody × Scope × Addr × List Str × Addr)
def Df.val (d : Df) : Fn7 := some (d.name, d.qual, d.params, .stmts d.body, d.scope, mainGlobals, d.clo, builtinsNs)
def fn7 (K : PySem.W.Frag) (a : Addr) : Fn7 := match K.lookup a with
  | some o => (match o.data with
    | .func g => some (g.name, g.qualname, g.params, g.body, g.scope, g.globals, g.closure.map (·.1), g.builtins)
    | _ => none)
  | none => none
def Df.ok (K : PySem.W.Frag) (d : Df) : Bool := match K.lookup (d.at_ K) with
  | some o => (match o.data with
    | .func g => PySem.W.keepIn K (.ref (d.at_ K)) && (PySem.W.codeIn K g.code d.qual && (He.dflB K g.defaults (d.dvs K) && He.kwdB K g.kwdefaults (d.kws K)))
    | _ => false)
  | none => false
theorem Df.gen {K : PySem.W.Frag} {d : Df} (e : fn7 K (d.at_ K) = d.val) (c : d.ok K = true) : ∃ oc od dV kV doc pm an cdv ct osl cl, cl.map (·.1) = d.clo ∧
    K.lookup (d.at_ K) = some ⟨oc, od, .func (PySem.W.fnX d.name d.qual d.params d.body d.scope cl dV kV doc pm an cdv ct), osl⟩ ∧ PySem.W.codeIn K cdv d.qual = true ∧ DflV K dV (d.dvs K) ∧ KwdV K kV (d.kws K) ∧ PySem.W.keepIn K (.ref (d.at_ K)) = true := by
  unfold fn7 at e
  unfold Df.ok at c
  cases q : K.lookup (d.at_ K) with
  | none => rw [q] at c; cases c
  | some ob =>
    obtain ⟨c1, c2, dt, c4⟩ := ob
    rw [q] at c e
    cases dt with
    | func g =>
      have c' : (PySem.W.keepIn K (.ref (d.at_ K)) && (PySem.W.codeIn K g.code d.qual && (He.dflB K g.defaults (d.dvs K) && He.kwdB K g.kwdefaults (d.kws K)))) = true := c
      obtain ⟨x1, c'⟩ := He.ba c'
      obtain ⟨x2, c'⟩ := He.ba c'
      obtain ⟨x3, x4⟩ := He.ba c'
      obtain ⟨m1, m2, m3, m4, m5, m6, m7, m8, m9, m10, m11, m12, m13, m14, m15⟩ := g
      have e' : (some (m1, m2, m3, m4, m5, m6, m7.map (·.1), m15) : Fn7) = some (d.name, d.qual, d.params, .stmts d.body, d.scope, mainGlobals, d.clo, builtinsNs) := e
      simp only [Option.some.injEq, Prod.mk.injEq] at e'
      obtain ⟨rfl, rfl, rfl, rfl, rfl, rfl, h7, rfl⟩ := e'
      exact ⟨c1, c2, m8, m9, m10, m11, m12, m13, m14, c4, m7, h7, rfl, x2, He.dflB_ok x3, He.kwdB_ok x4, x1⟩
    | _ => cases c
theorem Df.get {K : PySem.W.Frag} {d : Df} (e : fn7 K (d.at_ K) = d.val) (c : d.ok K = true) (hc : d.clo = []) : ∃ fd, FunD K d.name d.qual d.params d.body d.scope (d.dvs K) (d.kws K) (d.at_ K) fd := by
  obtain ⟨oc, od, dV, kV, doc, pm, an, cdv, ct, osl, cl, h1, h2, h3, h4, h5, h6⟩ := Df.gen e c
  rw [hc] at h1
  obtain rfl : cl = [] := List.map_eq_nil_iff.mp h1
  exact ⟨_, ⟨oc, od, dV, kV, doc, pm, an, cdv, ct, osl, rfl, h2, h3, h4, h5⟩, h6⟩
/-- a def that leans on its class's cell -/
theorem Df.getX {K : PySem.W.Frag} {d : Df} (e : fn7 K (d.at_ K) = d.val) (c : d.ok K = true) (hc : d.clo = [("__class__" : Str)]) : ∃ oc od dV kV doc pm an cdv ct osl cc,
    K.lookup (d.at_ K) = some ⟨oc, od, .func (PySem.W.ksFn d.name d.qual d.params d.body d.scope dV kV doc pm an cdv ct cc), osl⟩ ∧ PySem.W.codeIn K cdv d.qual = true ∧ DflV K dV (d.dvs K) ∧ KwdV K kV (d.kws K) ∧ PySem.W.keepIn K (.ref (d.at_ K)) = true := by
  obtain ⟨oc, od, dV, kV, doc, pm, an, cdv, ct, osl, cl, h1, h2, h3, h4, h5, h6⟩ := Df.gen e c
  rw [hc] at h1
  obtain ⟨cc, rfl⟩ : ∃ cc, cl = [(("__class__" : Str), cc)] := by
    match cl, h1 with
    | [(x, cc)], h1 =>
      have : x = ("__class__" : Str) := by simpa using h1
      subst this
      exact ⟨cc, rfl⟩
  exact ⟨oc, od, dV, kV, doc, pm, an, cdv, ct, osl, cc, h2, h3, h4, h5, h6⟩
abbrev Fct : Type := PySem.W.Frag → Bool
abbrev AlA : Type := Bool × List Fn7
def obA (fa : List Fct) (fn : List Df) (K : PySem.W.Frag) : AlA := (fa.all (fun f => f K) && fn.all fun d => d.ok K, fn.map fun d => fn7 K (d.at_ K))
def vaA (fn : List Df) : AlA := (true, fn.map Df.val)
def SaysA (fa : List Fct) (fn : List Df) (K : PySem.W.Frag) : Prop := obA fa fn K = vaA fn
theorem SaysA.fact {fa : List Fct} {fn : List Df} {K : PySem.W.Frag} (c : SaysA fa fn K) {f : Fct} (h : f ∈ fa) : f K = true := by
  have z : (fa.all (fun f => f K) && fn.all fun d => d.ok K) = true := congrArg (fun q : AlA => q.1) c
  exact List.all_eq_true.mp (He.ba z).1 f h
theorem SaysA.obs {fa : List Fct} {fn : List Df} {K : PySem.W.Frag} (c : SaysA fa fn K) {d : Df} (h : d ∈ fn) : fn7 K (d.at_ K) = d.val ∧ d.ok K = true := by
  have z : (fa.all (fun f => f K) && fn.all fun d => d.ok K) = true := congrArg (fun q : AlA => q.1) c
  have y : (fn.map fun d => fn7 K (d.at_ K)) = fn.map Df.val := congrArg (fun q : AlA => q.2) c
  obtain ⟨i, hi, rfl⟩ := List.mem_iff_getElem.mp h
  have y2 : (fn.map fun d => fn7 K (d.at_ K))[i]? = (fn.map Df.val)[i]? := congrArg (fun l => l[i]?) y
  rw [List.getElem?_map, List.getElem?_map, List.getElem?_eq_getElem hi] at y2
  exact ⟨Option.some.inj y2, List.all_eq_true.mp (He.ba z).2 _ h⟩
theorem SaysA.dfn {fa : List Fct} {fn : List Df} {K : PySem.W.Frag} (c : SaysA fa fn K) (i : Nat) {d : Df} (h : fn[i]? = some d) (hc : d.clo = []) : ∃ fd, FunD K d.name d.qual d.params d.body d.scope (d.dvs K) (d.kws K) (d.at_ K) fd :=
  let z := c.obs (List.mem_of_getElem? h)
  Df.get z.1 z.2 hc
theorem SaysA.at {fa : List Fct} {fn : List Df} {K : PySem.W.Frag} (c : SaysA fa fn K) (i : Nat) {f : Fct} (h : fa[i]? = some f) : f K = true := c.fact (List.mem_of_getElem? h)
/-- what is looked at: n steps from the names, and more -/
def frA (n : Nat) (more : List Addr) (g : Addr → Option Obj) : PySem.W.Frag := He.frG g (He.asD g n ++ more)
def obAG (n : Nat) (more : List Addr) (fa : List Fct) (fn : List Df) (g : Addr → Option Obj) : AlA := obA fa fn (frA n more g)
def hookA (n : Nat) (more : List Addr) (fa : List Fct) (fn : List Df) : PySem.W.Hook where
  α := AlA
  val _ := vaA fn
  obs s := obAG n more fa fn s.heap.get?
  says _ h := ∃ K : PySem.W.Frag, K.In h ∧ SaysA fa fn K
  of _ _ e := ⟨_, He.frG_in, e⟩
  keeps _ _ _ := fun ⟨K, hK, c⟩ k => ⟨K, PySem.W.Frag.In.keeps hK k, c⟩
theorem obAG_eq {n : Nat} {more : List Addr} {fa : List Fct} {fn : List Df} {g : Addr → Option Obj} {s : Shared} (h : ∀ a, g a = s.heap.get? a) : obAG n more fa fn g = (hookA n more fa fn).obs s := by
  obtain rfl : g = s.heap.get? := funext h
  rfl
section
variable {P : Program} {w : World} {K : PySem.W.Frag} {mg mb : Str → Option Value} {k : Nat} {f a : Addr} {sp : Sp} {t : Shared} {us : List Value} {ns : List Int}
/-- the law's def keeps its promise at the heap behind the top -/
theorem law_end (hK : K.In t.heap) (hG : t.heap.Ns mainGlobals mg) (hB : t.heap.Ns builtinsNs mb) (hB2 : ∀ x : Str, x ≠ "__name__" → mb x = bootBuiltins x) (hL : t.heap.NoLimit) (hg : t.gens = #[])
    (hA : t.heap.get? a = some { cls := .type "list", data := .seq us.toArray }) (hI : IntsAre us ns) (hS : ns.length ≤ sizeLine) (hR : Rm k callerA)
    (F : ∀ base : Heap, K.In base → base.Ns mainGlobals mg → FnP P w K mg base k f sp)
    (hsp : ∀ H : Hp, Only H → SqL K H a (ns.map V.int) → sp [.ref a] H (fun v _ => v = .bl true) fun _ _ _ => False) :
    codeAny (model P w) callerA (.call (.ref f) ⟨[.ref a], []⟩) (fun r s' => r = .ok (.ret (.bool true)) ∧ OldK t.heap s'.heap ∧ s'.os = t.os ∧ AllBare s'.gens) t := by
  have rv := vals_ints hI
  have zl := hI.length
  have main : ∀ H : Hp, Only H → SqL K H a (ns.map V.int) → HOk P w H t.heap → (∀ b, H b ≠ Option.none → b = a) → (H a ≠ Option.none → K.lookup a = Option.none) →
      codeAny (model P w) callerA (.call (.ref f) ⟨[.ref a], []⟩) (fun r s' => r = .ok (.ret (.bool true)) ∧ OldK t.heap s'.heap ∧ s'.os = t.os ∧ AllBare s'.gens) t := by
    intro H o1 o2 o3 o4 o5
    have free : ∀ {b : Addr} {ob : Obj}, t.heap.get? b = some ob → (b ≠ a ∨ ∃ es n, ob.data = .dict es n) → H b = Option.none := fun {b ob} e1 e2 => by
      cases q : H b with
      | none => rfl
      | some u =>
        have e3 := o4 b (fun z => by rw [q] at z; cases z)
        rcases e2 with e2 | ⟨es, n, e2⟩
        · exact absurd e3 e2
        · subst e3
          rw [hA] at e1
          cases e1
          cases e2
    have nsH : ∀ {b : Addr} {m : Str → Option Value}, t.heap.Ns b m → (hidT t.heap H).Ns b m := fun {b m} ⟨ob, es, n, e1, e2, e3⟩ => ⟨ob, es, n, hidT_get e1 (free e1 (.inr ⟨_, _, e2⟩)), e2, e3⟩
    have kIn : K.In (hidT t.heap H) := fun b ob e => by
      refine hidT_get (hK b ob e) ?_
      cases q : H b with
      | none => rfl
      | some u =>
        have e3 := o4 b (fun z => by rw [q] at z; cases z)
        subst e3
        rw [o5 (fun z => by rw [q] at z; cases z)] at e
        cases e
    have hM : Mod K mg (hidT t.heap H) := ⟨kIn, nsH hG, ⟨mb, nsH hB, hB2⟩, hL.elim fun mc h => ⟨mc, nsH h.1, h.2⟩⟩
    have e0 : Env0 P w K mg (hidT t.heap H) callerA [] t H := ⟨rfl, hM, fun b ob e => of_hidT e, Nat.le_of_eq (hidT_size _ _), trivial, fun b hb => (nomatch hb), o3, .of_eq hg⟩
    refine codeAny_mono (F _ kIn (nsH hG) callerA [] t H [.ref a] [.ref a] _ _ hR e0 (.cons rfl .nil) (hsp H o1 o2)) fun r s' h => ?_
    match r, h with
    | .error e, h =>
      obtain ⟨_, _, _, _, _, _, _, _, _, _, _, _, h⟩ := h
      exact False.elim h
    | .ok (.ret u), ⟨v, H', os, bare, un, hok', r', (q' : v = .bl true)⟩ =>
      subst q'
      obtain rfl : u = Value.bool true := r'
      refine ⟨rfl, OldK.of_keep fun b ob e => ?_, os, bare⟩
      cases q : H b with
      | none => exact un.keep b ob e q (fun z => nomatch z) (fun z => nomatch z)
      | some u =>
        rcases o1 b with z | ⟨og, xs, z⟩
        · rw [q] at z; cases z
        · have y1 := (o3 b _ z).1
          have y2 := (hok' b _ (un.frzs b og _ z)).1
          rw [e] at y1; cases y1
          exact y2
    | .ok .next, h => exact False.elim h
    | .ok .brk, h => exact False.elim h
    | .ok .cont, h => exact False.elim h
  cases hk : K.lookup a with
  | some ob =>
    have e := hK a ob hk
    rw [hA] at e
    cases e
    refine main (fun _ => Option.none) (fun _ => .inl rfl) (.inr ⟨_, us.toArray, _, hk, rfl, rfl, rfl, by rw [List.size_toArray, zl]; exact hS, by simpa using rv⟩) (fun b u z => nomatch (show (Option.none : Option HO) = some u from z)) (fun b z => absurd rfl z) fun z => absurd rfl z
  | none =>
    let og : Obj := { cls := .type "list", data := .seq us.toArray }
    let H0 : Hp := fun b => if b = a then some (.frz og (.lst (ns.map V.int))) else Option.none
    have ha0 : H0 a = some (.frz og (.lst (ns.map V.int))) := if_pos rfl
    have hb0 : ∀ b, b ≠ a → H0 b = Option.none := fun b h => if_neg h
    refine main H0 (fun b => ?_) (.inl (.inr ⟨og, ha0⟩)) (fun b u z => ?_) (fun b z => Classical.byContradiction fun h => z (hb0 b h)) fun _ => hk
    · by_cases h : b = a
      · subst h; exact .inr ⟨_, _, ha0⟩
      · exact .inl (hb0 b h)
    · by_cases h : b = a
      · subst h
        rw [ha0] at z
        cases z
        exact ⟨hA, (by rw [List.length_map]; exact hS), us, _, rv, hA⟩
      · rw [hb0 b h] at z
        cases z
end
theorem law_walk {l : PySem.W.OpenLaw} {n k : Nat} {q : Program} {loose : List Str} {XP : (Str → Option Value) → Heap → Prop} {YP : World → Heap → Prop} {d : DefRec}
    (hn : l.most = some n) (hn2 : n ≤ sizeLine) (hdf : d.params.defaults = []) (hr : Rm k callerA)
    (F : ∀ (w : World) (mg : Str → Option Value) (f : Addr) (h : Heap), YP w h → h.Ns mainGlobals mg → mg d.name = some (.ref f) → ∃ (K : PySem.W.Frag) (sp : Sp), K.In h ∧
      (∀ (H : Hp) (a : Addr) (ns : List Int), ns.length ≤ n → (∀ z ∈ ns, Builtin.Int.intBits z ≤ 1048576) → Only H → SqL K H a (ns.map V.int) → sp [.ref a] H (fun v _ => v = .bl true) fun _ _ _ => False) ∧
      ∀ base : Heap, K.In base → base.Ns mainGlobals mg → FnP l.prog w K mg base k f sp) :
    PySem.W.WalkO q loose XP YP l.row.toRowW d [] (fun f vs => PySem.call f vs) := by
  refine Att.attach_callB hn hdf fun w s0 s1 mg mb f o pm cd doc a us ns G Y ho hd hcd hmg hobj hi hlen hbits hg => ?_
  obtain ⟨K, sp, KX, hsp, hF⟩ := F w mg f _ Y G.T.g hmg
  exact law_end KX G.T.g G.T.b G.T.builtins G.T.nolimit hg hobj hi (Nat.le_trans hlen hn2) hr hF fun H hO hS => hsp H a ns hlen hbits hO hS
end TT
namespace TT
open PySem PySem.Spec PyProof.Rows L2
open He (ga ma ba eqO eqO_ok)
/-- the def in a descriptor's record -/
def ra (K : PySem.W.Frag) (p : Addr) (T : String) : Addr := match PySem.W.recIn K p T with
  | some (.ref g :: _) => g
  | _ => 0
def rcB (K : PySem.W.Frag) (p : Addr) (T : String) : Bool := match PySem.W.recIn K p T with
  | some (.ref _ :: _) => true
  | _ => false
theorem rcB_ok {K : PySem.W.Frag} {p : Addr} {T : String} (h : rcB K p T = true) : ∃ rest, PySem.W.recIn K p T = some (.ref (ra K p T) :: rest) := by
  unfold rcB at h
  unfold ra
  split at h
  · rename_i g r e
    exact ⟨r, by rw [e]⟩
  · cases h
/-- where a property's getter stands, a staticmethod's def, a classmethod's -/
def pa (K : PySem.W.Frag) (C f : Str) : Addr := ra K (ma K (ga K C) f) "property"
def sa (K : PySem.W.Frag) (C f : Str) : Addr := ra K (ma K (ga K C) f) "staticmethod"
def ca (K : PySem.W.Frag) (C f : Str) : Addr := ra K (ma K (ga K C) f) "classmethod"
def bProp (C f : Str) : Fct := fun K => eqO (PySem.W.findIn K (.ref (ga K C)) f) (some (some (.ref (ma K (ga K C) f)))) && (eqO (PySem.W.specialIn K (.ref (ma K (ga K C) f)) "__get__") (some (some (.builtin "property.__get__"))) &&
  (decide (PySem.W.takesIn K (.ref (ma K (ga K C) f)) = some true) && rcB K (ma K (ga K C) f) "property"))
theorem bProp_ok {C f : Str} {K : PySem.W.Frag} (h : bProp C f K = true) : PropOf K (ga K C) f (ma K (ga K C) f) (pa K C f) := by
  obtain ⟨h1, h⟩ := ba h
  obtain ⟨h2, h⟩ := ba h
  obtain ⟨h3, h4⟩ := ba h
  exact ⟨eqO_ok h1, eqO_ok h2, of_decide_eq_true h3, rcB_ok h4⟩
def bRead (C : Str) : Fct := fun K => PySem.W.readsIn K (ga K C) (.type "type") && eqO (PySem.W.specialIn K (.ref (ga K C)) "__getattribute__") (some (some (.builtin "type.__getattribute__")))
theorem bRead_ok {C : Str} {K : PySem.W.Frag} (h : bRead C K = true) : ClX.CRead K (ga K C) (.type "type") := by
  obtain ⟨h1, h2⟩ := ba h
  exact ⟨h1, eqO_ok h2⟩
def bConst (C f : Str) (v : V) : Fct := fun K => match PySem.W.findCls K (.ref (ga K C)) (.type "type") f with
  | some (.val u) => He.relB v u
  | _ => false
theorem bConst_ok {C f : Str} {v : V} {K : PySem.W.Frag} (h : bConst C f v K = true) : ∃ u, ClX.CVal K (ga K C) (.type "type") f v u := by
  unfold bConst at h
  split at h
  · rename_i u e
    exact ⟨u, e, He.relB_ok h⟩
  · cases h
def gotB (K : PySem.W.Frag) (C f : Str) (id : String) : Bool := match PySem.W.findCls K (.ref (ga K C)) (.type "type") f with
  | some (.get g a o t) => decide (g = .builtin id) && (decide (a = .ref (ma K (ga K C) f)) && (decide (o = .none) && decide (t = .ref (ga K C))))
  | _ => false
theorem gotB_ok {K : PySem.W.Frag} {C f : Str} {id : String} (h : gotB K C f id = true) : PySem.W.findCls K (.ref (ga K C)) (.type "type") f = some (.get (.builtin id) (.ref (ma K (ga K C) f)) .none (.ref (ga K C))) := by
  unfold gotB at h
  split at h
  · rename_i g a o t e
    obtain ⟨h1, h⟩ := ba h
    obtain ⟨h2, h⟩ := ba h
    obtain ⟨h3, h4⟩ := ba h
    rw [e, of_decide_eq_true h1, of_decide_eq_true h2, of_decide_eq_true h3, of_decide_eq_true h4]
  · cases h
def bCM (C f : Str) : Fct := fun K => gotB K C f "classmethod.__get__" && (rcB K (ma K (ga K C) f) "classmethod" && PySem.W.fnIn K (ca K C f))
theorem bCM_ok {C f : Str} {K : PySem.W.Frag} (h : bCM C f K = true) : ClX.CMet K (ga K C) (.type "type") f (ma K (ga K C) f) (ca K C f) := by
  obtain ⟨h1, h⟩ := ba h
  obtain ⟨h2, h3⟩ := ba h
  exact ⟨gotB_ok h1, rcB_ok h2, h3⟩
def bSM (C f : Str) : Fct := fun K => gotB K C f "staticmethod.__get__" && (rcB K (ma K (ga K C) f) "staticmethod" && PySem.W.keepIn K (.ref (sa K C f)))
theorem bSM_ok {C f : Str} {K : PySem.W.Frag} (h : bSM C f K = true) : SMet K (ga K C) (.type "type") f (ma K (ga K C) f) (sa K C f) := by
  obtain ⟨h1, h⟩ := ba h
  obtain ⟨h2, h3⟩ := ba h
  exact ⟨gotB_ok h1, rcB_ok h2, h3⟩
/-- isinstance: an instance of C, is it one of D -/
def bKit (C D : Str) (b : Bool) : Fct := fun K => decide (PySem.W.kitOne K (.ref (ga K C)) (.ref (ga K D)) = some b)
theorem bKit_ok {C D : Str} {b : Bool} {K : PySem.W.Frag} (h : bKit C D b K = true) : PySem.W.kitOne K (.ref (ga K C)) (.ref (ga K D)) = some b := of_decide_eq_true h
/-- a value of a built-in kind is no instance of D -/
def bKitT (t : String) (D : Str) (b : Bool) : Fct := fun K => decide (PySem.W.kitOne K (.type t) (.ref (ga K D)) = some b)
theorem bKitT_ok {t : String} {D : Str} {b : Bool} {K : PySem.W.Frag} (h : bKitT t D b K = true) : PySem.W.kitOne K (.type t) (.ref (ga K D)) = some b := of_decide_eq_true h
/-- an error's class is looked at -/
def bLook (C : Str) : Fct := fun K => (PySem.W.clsIn K (ga K C)).isSome && (eqO (PySem.W.findIn K (.ref (ga K C)) "__getattribute__") (some (some (.builtin "BaseException.__getattribute__"))) && (eqO (PySem.W.findIn K (.ref (ga K C)) "__getattr__") (some none) &&
  (decide (PySem.W.subIn K (.ref (ga K C)) (.type "BaseException") = some true) && (eqO (PySem.W.findIn K (.ref (ga K C)) "__class__") (some (some (.builtin "object.__class__"))) && (eqO (PySem.W.specialIn K (.builtin "object.__class__") "__get__") (some (some (.builtin "getset_descriptor.__get__"))) &&
  (decide (PySem.W.takesIn K (.builtin "object.__class__") = some true) && (decide (PySem.W.mroIn K (ga K C) (.type "object") = some true) && PySem.W.hasDictIn K (ga K C))))))))
theorem bLook_ok {C : Str} {K : PySem.W.Frag} (h : bLook C K = true) : XcL K (ga K C) := by
  obtain ⟨h1, h⟩ := ba h
  obtain ⟨h2, h⟩ := ba h
  obtain ⟨h3, h⟩ := ba h
  obtain ⟨h4, h⟩ := ba h
  obtain ⟨h5, h⟩ := ba h
  obtain ⟨h6, h⟩ := ba h
  obtain ⟨h7, h⟩ := ba h
  obtain ⟨h8, h9⟩ := ba h
  exact ⟨h1, eqO_ok h2, eqO_ok h3, of_decide_eq_true h4, eqO_ok h5, eqO_ok h6, of_decide_eq_true h7, of_decide_eq_true h8, h9⟩
/-- an instance of a plain class is looked at -/
structure See (K : PySem.W.Frag) (C : Addr) : Prop where
  ha : PySem.W.findIn K (.ref C) "__class__" = some (some (.builtin "object.__class__"))
  hn : PySem.W.specialIn K (.builtin "object.__class__") "__get__" = some (some (.builtin "getset_descriptor.__get__"))
  hk : PySem.W.takesIn K (.builtin "object.__class__") = some true
  hm : PySem.W.mroIn K C (.type "object") = some true
def bSee (C : Str) : Fct := fun K => eqO (PySem.W.findIn K (.ref (ga K C)) "__class__") (some (some (.builtin "object.__class__"))) && (eqO (PySem.W.specialIn K (.builtin "object.__class__") "__get__") (some (some (.builtin "getset_descriptor.__get__"))) &&
  (decide (PySem.W.takesIn K (.builtin "object.__class__") = some true) && decide (PySem.W.mroIn K (ga K C) (.type "object") = some true)))
theorem bSee_ok {C : Str} {K : PySem.W.Frag} (h : bSee C K = true) : See K (ga K C) := by
  obtain ⟨h1, h⟩ := ba h
  obtain ⟨h2, h⟩ := ba h
  obtain ⟨h3, h4⟩ := ba h
  exact ⟨eqO_ok h1, eqO_ok h2, of_decide_eq_true h3, of_decide_eq_true h4⟩
theorem See.ty {K : PySem.W.Frag} {C : Addr} (s : See K C) (c : Cls K C) {H : Hp} {a dx : Addr} {fs : List (Str × V)} (e : H a = some (.ins C dx fs)) : TyZ K H (.ref a) (.ref C) := .base (.base (.ins e c s.ha s.hn s.hk s.hm))
theorem kit_self {K : PySem.W.Frag} {C : Addr} : PySem.W.kitOne K (.ref C) (.ref C) = some true := by
  unfold PySem.W.kitOne
  rw [if_pos (by simp)]
/-- except (D1, D2, D3) at an error of C -/
def bExc (C : Str) (Ds : List Str) (b : Bool) : Fct := fun K => decide (PySem.W.exmAny K (.ref (ga K C)) (Ds.map fun D => .ref (ga K D)) = some b)
theorem bExc_ok {C : Str} {Ds : List Str} {b : Bool} {K : PySem.W.Frag} (h : bExc C Ds b K = true) : PySem.W.exmAny K (.ref (ga K C)) (Ds.map fun D => .ref (ga K D)) = some b := of_decide_eq_true h
def bExc1 (C D : Str) (b : Bool) : Fct := fun K => decide (PySem.W.exmOne K (.ref (ga K C)) (.ref (ga K D)) = some b)
theorem bExc1_ok {C D : Str} {b : Bool} {K : PySem.W.Frag} (h : bExc1 C D b K = true) : PySem.W.exmOne K (.ref (ga K C)) (.ref (ga K D)) = some b := of_decide_eq_true h
def eBase : Nat → String
  | 0 => "ValueError"
  | 1 => "RuntimeError"
  | _ => "LookupError"
def eNew : Nat → String
  | 0 => "ValueError.__new__"
  | 1 => "RuntimeError.__new__"
  | _ => "LookupError.__new__"
def eInit : Nat → String
  | 0 => "ValueError.__init__"
  | 1 => "RuntimeError.__init__"
  | _ => "LookupError.__init__"
def eMro (n : Nat) : List Value := [.type (eBase n), .type "Exception", .type "BaseException", .type "object"]
theorem eBook : ∀ n, XcB (eBase n) (eNew n) (eInit n) (eMro n)
  | 0 => xcb_value
  | 1 => xcb_runtime
  | _ + 2 => xcb_lookup
def eFile (file : Str) (K : PySem.W.Frag) (fI C : Addr) : Bool := match K.lookup fI with
  | some o => (match o.data with
    | .func g => (match g.code, g.closure with
      | .ref cda, [(_, cc)] => (match K.lookup cda with
        | some o2 => (match o2.data with
          | .fields vs => (match vs[2]? with
            | some (Value.str y _) => file == y
            | _ => false)
          | _ => false)
        | none => false) && (match K.lookup cc with
        | some o3 => (match o3.data with
          | .cell (some v) => decide (v = .ref C)
          | _ => false)
        | none => false)
      | _, _ => false)
    | _ => false)
  | none => false
theorem eFile_ok {file : Str} {K : PySem.W.Frag} {fI C : Addr} (h : eFile file K fI C = true) {oc : Value} {od : Option Addr} {name qual : Str} {params : Arguments} {body : List Stmt} {scope : Scope} {dV kV doc pm cdv ct : Value} {an : Option Addr} {cc : Addr} {osl : Array (Option Value)}
    (lk : K.lookup fI = some ⟨oc, od, .func (PySem.W.ksFn name qual params body scope dV kV doc pm an cdv ct cc), osl⟩) :
    ∃ cda, cdv = .ref cda ∧ (∃ ccl cdd vs ccs fl tf, K.lookup cda = some ⟨ccl, cdd, .fields vs, ccs⟩ ∧ vs[2]? = some (.str fl tf) ∧ (file == fl) = true) ∧ ∃ cl cld csl, K.lookup cc = some ⟨cl, cld, .cell (some (.ref C)), csl⟩ := by
  unfold eFile at h
  rw [lk] at h
  dsimp only [PySem.W.ksFn, PySem.W.fnX] at h
  cases cdv with
  | ref cda =>
    dsimp only at h
    obtain ⟨h1, h2⟩ := ba h
    refine ⟨cda, rfl, ?_, ?_⟩
    · split at h1
      · rename_i o2 e2
        obtain ⟨a1, a2, dt, a4⟩ := o2
        cases dt with
        | fields vs =>
          dsimp only at h1
          split at h1
          · rename_i y t e3
            exact ⟨_, _, _, _, _, _, e2, e3, h1⟩
          · cases h1
        | _ => cases h1
      · cases h1
    · split at h2
      · rename_i o2 e2
        obtain ⟨a1, a2, dt, a4⟩ := o2
        cases dt with
        | cell v =>
          cases v with
          | none => cases h2
          | some v =>
            have e : v = .ref C := of_decide_eq_true h2
            subst e
            exact ⟨_, _, _, e2⟩
        | _ => cases h2
      · cases h2
  | _ => cases h
def bErr (file C : Str) (n : Nat) (fs : List Str) : Fct := fun K =>
  PySem.W.excInitIn K (ga K C) (eMro n) (eNew n) && (PySem.W.excOver K (ga K C) (eMro n) && (eqO (PySem.W.findIn K (.ref (ga K C)) "__init__") (some (some (.ref (ma K (ga K C) "__init__")))) && (PySem.W.isFn K (.ref (ma K (ga K C) "__init__")) &&
  (eFile file K (ma K (ga K C) "__init__") (ga K C) && ((PySem.W.clsIn K (ga K C)).any (·.hasDict) && (decide (PySem.W.mroIn K (ga K C) (.ref (ga K C)) = some true) && (eqO (PySem.W.nsIn K mainGlobals "super") (some none) &&
  (eqO (PySem.W.nsIn K cStatics "thirdparty.any") (some none) && (eqO (PySem.W.ks_superIn K (ga K C) (ga K C) "__init__") (some (some (.builtin (eInit n)))) && (decide (PySem.W.subIn K (.ref (ga K C)) (.type (eBase n)) = some true) &&
  (eqO (PySem.W.findIn K (.ref (ga K C)) "__setattr__") (some (some (.builtin "object.__setattr__"))) && (PySem.W.keepIn K (.ref (ga K C)) && (decide (PySem.W.subIn K (.ref (ga K C)) (.type "BaseException") = some true) && (decide (PySem.W.typeIn K (.ref (ga K C)) = some (.type "type")) &&
  fs.all fun f => eqO (PySem.W.findIn K (.ref (ga K C)) f) (some none)))))))))))))))
/-- an error class, ready to be made -/
structure ErC (P : Program) (K : PySem.W.Frag) (C : Str) (fs : List Str) : Prop where
  ex : ∃ n name qual params body scope, XcF P K (eBase n) (eNew n) (eInit n) (eMro n) (ga K C) name qual params body scope ∧ ∃ sf, XcT params body scope sf fs (fs.map fun f => (f, f))
  kp : PySem.W.keepIn K (.ref (ga K C)) = true
  sb : PySem.W.subIn K (.ref (ga K C)) (.type "BaseException") = some true
  ty : PySem.W.typeIn K (.ref (ga K C)) = some (.type "type")
  no : ∀ f ∈ fs, PySem.W.findIn K (.ref (ga K C)) f = some none
theorem ErC.of {P : Program} {K : PySem.W.Frag} {d : Df} {C : Str} {n : Nat} {sf : Str} {fs : List Str} {file : Str} (h : bErr file C n fs K = true) (hd : d.at_ K = ma K (ga K C) "__init__") (e : fn7 K (d.at_ K) = d.val ∧ d.ok K = true) (hc : d.clo = [("__class__" : Str)]) (hdf : d.dfl = [])
    (hf : (P.main.file : Str) = file) (hT : XcT d.params d.body d.scope sf fs (fs.map fun f => (f, f))) (top : (P.main.scope.names.lookup ("super" : Str)).isSome = false) : ErC P K C fs := by
  obtain ⟨h1, h⟩ := ba h
  obtain ⟨h2, h⟩ := ba h
  obtain ⟨h3, h⟩ := ba h
  obtain ⟨h4, h⟩ := ba h
  obtain ⟨h5, h⟩ := ba h
  obtain ⟨h6, h⟩ := ba h
  obtain ⟨h7, h⟩ := ba h
  obtain ⟨h8, h⟩ := ba h
  obtain ⟨h9, h⟩ := ba h
  obtain ⟨h10, h⟩ := ba h
  obtain ⟨h11, h⟩ := ba h
  obtain ⟨h12, h⟩ := ba h
  obtain ⟨h13, h⟩ := ba h
  obtain ⟨h14, h⟩ := ba h
  obtain ⟨h15, h16⟩ := ba h
  obtain ⟨oc, od, dV, kV, doc, pm, an, cdv, ct, osl, cc, lk, hcd, hD, _, _⟩ := Df.getX e.1 e.2 hc
  have hdv : d.dvs K = [] := by unfold Df.dvs; rw [hdf]; rfl
  obtain rfl : dV = Value.none := by
    rcases hD with ⟨_, z⟩ | ⟨z, _⟩
    · exact z
    · exact absurd hdv z
  rw [hd] at lk
  obtain ⟨cda, rfl, hfile, hcell⟩ := eFile_ok h5 lk
  refine ⟨⟨n, d.name, d.qual, d.params, d.body, d.scope, ⟨h1, h2, ⟨_, cda, cc, oc, od, kV, doc, pm, an, ct, osl, eqO_ok h3, h4, lk, hcd, by rw [hf]; exact hfile, hcell⟩, ?_, of_decide_eq_true h7, eqO_ok h8, eqO_ok h9, eqO_ok h10, of_decide_eq_true h11, eqO_ok h12, top⟩, sf, hT⟩, h13, of_decide_eq_true h14, of_decide_eq_true h15, fun f hm => eqO_ok (List.all_eq_true.mp h16 f hm)⟩
  cases z : PySem.W.clsIn K (ga K C) with
  | none => rw [z] at h6; cases h6
  | some cd => rw [z] at h6; exact ⟨cd, rfl, h6⟩
/-- a reading, closed upwards -/
def tUp (te : TE) : TE := fun σ H Q => ∃ R : VK, te σ H R ∧ ∀ v H1, R v H1 → Q v H1
theorem pe_up {X : Cx} {e : Expr} {te : TE} (he : PE X e te) : PE X e (tUp te) := ⟨fun pins s σ H Q I ⟨R, h, k⟩ => thn (he.run pins s σ H R I h) fun u s1 ⟨v, H1, I1, r, q⟩ => ⟨v, H1, I1, r, k v H1 q⟩⟩
section
variable {X : Cx} {C f g : Str} {e e2 : Expr} {te te2 : TE} {k : Nat} {p pos : Pos}
/-- C(e), an own error with one field -/
theorem pmk_e1 (T : ErC X.prog X.K C [f]) (hr : Rm (k + 1) X.A) (hg : Gl X C) (hm : X.mg C = some (.ref (ga X.K C))) (he : PE X e te)
    (hdb : (C == ("__debug__" : Str)) = false := by decide) (hst : starEach [e] X.env = (false, eval e X.env) :: starEach [] X.env := by rfl) :
    PMk X (.Call (.Name C p) [e] [] pos) (fun σ H Q => te σ H fun v H1 => ∀ dx, H1 dx = none → Q (.ref (ga X.K C)) (some dx) (upd H1 dx (.xd [(f, v)]))) := by
  obtain ⟨n, name, qual, params, body, scope, F, sf, D⟩ := T.ex
  have z := pmk_x1 (pos := pos) (p := p) (eBook n) F D (raises_own T.sb T.ty) T.kp (T.no f (by simp)) hr hg hm (pa_cons (pe_up he) pa_nil hst) hdb hst rfl
  intro pins s σ H Q I h
  refine z pins s σ H Q I ⟨_, h, fun v H1 q => ⟨rfl, by show 1 ≤ 1000; decide, v, by simp [List.lookup], q⟩⟩
end
end TT
namespace TT
open PySem PySem.Spec PyProof.Rows L2
open He (ga ma)
/-- a promise for n values and then the named ones ks -/
def FnK (P : Program) (w : World) (K : PySem.W.Frag) (mg : Str → Option Value) (base : Heap) (k : Nat) (f : Addr) (n : Nat) (ks : List Str) (sp : Sp) : Prop :=
  ∀ (A : Around) (outer : List Env) (s : Shared) (H : Hp) (us ws : List Value) (vs zs : List V) (Q : VK) (E : XK),
    Rm k A → Env0 P w K mg base A outer s H → Vals vs us → Vals zs ws → vs.length = n → zs.length = ks.length → sp (vs ++ zs) H Q E →
      codeAny (model P w) A (.call (.ref f) ⟨us, ks.zip ws⟩) (CR (L2.CX P w) outer P w H s Q E) s
/-- values picked by places -/
def pick {α : Type} (d : α) (is : List Nat) (xs : List α) : List α := is.map fun i => xs.getD i d
theorem pick_vals {vs : List V} {us : List Value} (r : Vals vs us) : ∀ is, Vals (pick .non is vs) (pick .none is us)
  | [] => .nil
  | i :: is => by
    refine .cons ?_ (pick_vals r is)
    show L2.RelV (vs.getD i V.non) (us.getD i Value.none)
    rw [List.getD_eq_getElem?_getD, List.getD_eq_getElem?_getD]
    cases h : vs[i]? with
    | none =>
      have h2 : us[i]? = none := by
        rw [List.getElem?_eq_none_iff] at h ⊢
        rw [← r.length]; exact h
      rw [h2]
      exact rfl
    | some v =>
      obtain ⟨u, hu, ru⟩ := r.get h
      rw [hu]
      exact ru
theorem FnA.kw {P : Program} {w : World} {K : PySem.W.Frag} {mg : Str → Option Value} {base : Heap} {k : Nat} {f : Addr} {fd : FuncData} {ps : List Str} {sp : Sp} (F : FnA P w K mg base k f fd ps sp) (n : Nat) (ks : List Str) (is : List Nat)
    (hb : ∀ (s : Shared) (us ws : List Value), us.length = n → ws.length = ks.length → BindsTo s fd ⟨us, ks.zip ws⟩ (ps.zip (pick .none is (us ++ ws)))) :
    FnK P w K mg base k f n ks (fun xs H Q E => is.length = ps.length ∧ sp (pick .non is xs) H Q E) := by
  intro A outer s H us ws vs zs Q E hr e0 r rz l1 l2 h
  exact F A outer s H ⟨us, ks.zip ws⟩ _ _ Q E hr e0 (hb s us ws (r.length.symm.trans l1) (rz.length.symm.trans l2)) (pick_vals (r.append rz) is) (by rw [pick, List.length_map]; exact h.1) h.2
theorem FnP.k0 {P : Program} {w : World} {K : PySem.W.Frag} {mg : Str → Option Value} {base : Heap} {k n : Nat} {f : Addr} {sp : Sp} (F : FnP P w K mg base k f sp) : FnK P w K mg base k f n [] sp := by
  intro A outer s H us ws vs zs Q E hr e0 r rz l1 l2 h
  obtain rfl : zs = [] := List.eq_nil_of_length_eq_zero l2
  cases rz
  rw [List.append_nil] at h
  exact F A outer s H us vs Q E hr e0 r h
theorem FnK.mono {P : Program} {w : World} {K : PySem.W.Frag} {mg : Str → Option Value} {base : Heap} {j k n : Nat} {f : Addr} {ks : List Str} {sp : Sp} (F : FnK P w K mg base j f n ks sp) (h : j ≤ k) : FnK P w K mg base k f n ks sp :=
  fun A o s H us ws vs zs Q E hr => F A o s H us ws vs zs Q E (hr.mono h)
section
variable {X : Cx} {k n : Nat} {f C : Addr} {ks : List Str} {sp : Sp} {E : L2.St → XK} {x m : Str} {p pos apos : Pos} {e o : Expr} {es : List Expr} {kws : List Keyword} {ta te : TE} {t tk : TA}
theorem run_pk {pins : List (Addr × Obj)} {σ : L2.St} {H : Hp} {s : Shared} {Q : VK} {us ws : List Value} {vs zs : List V} {E : XK} (F : FnK X.prog X.w X.K X.mg X.base k f n ks sp) (hr : Rm k X.A)
    (hx : PassesAt (L2.CX X.prog X.w) X σ E) (I : Inv X pins σ H s) (r : Vals vs us) (rz : Vals zs ws) (l1 : vs.length = n) (l2 : zs.length = ks.length) (h : sp (vs ++ zs) H Q E) :
    wpAny (model X.prog X.w) X.A (call (.ref f) us (ks.zip ws)) (EP X pins σ Q) X.xe s := by
  refine wpAny_call (codeAny_mono (F X.A X.stack s H us ws vs zs Q E hr I.env0 r rz l1 l2 h) fun r s' hq => ?_)
  match r, hq with
  | .error er, hq => exact hx pins H s er s' I hq
  | .ok (.ret u), hq => exact I.after hq
  | .ok .next, hq => exact False.elim hq
  | .ok .brk, hq => exact False.elim hq
  | .ok .cont, hq => exact False.elim hq
theorem run_pa {pins : List (Addr × Obj)} {σ : L2.St} {H : Hp} {s : Shared} {Q : VK} {us : List Value} {vs : List V} {E : XK} (F : FnP X.prog X.w X.K X.mg X.base k f sp) (hr : Rm k X.A)
    (hx : PassesAt (L2.CX X.prog X.w) X σ E) (I : Inv X pins σ H s) (r : Vals vs us) (h : sp vs H Q E) :
    wpAny (model X.prog X.w) X.A (call (.ref f) us) (EP X pins σ Q) X.xe s := by
  have z := run_pk (ks := []) (n := vs.length) (zs := []) (ws := []) F.k0 hr hx I r .nil rfl rfl (by rw [List.append_nil]; exact h)
  exact z
theorem passAll {E : XK} (h : Passes (L2.CX X.prog X.w) X E) : ∀ σ, PassesAt (L2.CX X.prog X.w) X σ ((fun _ => E) σ) := fun σ pins H s e s' I c => h pins σ H s e s' I c
def tClA (sp : Sp) (E : L2.St → XK) (t : TA) : TE := fun σ H Q => t σ H fun vs H1 => sp vs H1 Q (E σ)
theorem pc_callA (c : Cl X.prog X.w X.K X.mg X.base k x sp) (hr : Rm k X.A) (hg : Gl X x) (hx : ∀ σ, PassesAt (L2.CX X.prog X.w) X σ (E σ)) (ha : PA X (e :: es) t)
    (hdb : (x == ("__debug__" : Str)) = false := by decide) (he : starEach (e :: es) X.env = (false, eval e X.env) :: starEach es X.env := by rfl)
    (hpl : (backTo pos (starEach es X.env)).any (·.1) = false := by rfl) : PE X (.Call (.Name x p) (e :: es) [] pos) (tClA sp E t) := by
  refine ⟨fun pins s σ H Q I h => ?_⟩
  refine wpAny_Call_Name_kw (ld_glob I hg c.m ?_ hdb)
  refine PySem.W.callWith_K (h₀ := X.base) I.ok.mod.kin c.kp (thn (ha.run pos pins s σ H _ I h) ?_) he hpl
  rintro us s1 ⟨vs, H1, I1, r, q⟩
  exact ⟨I1.kIn, run_pa c.f hr (hx σ) I1 r q⟩
def tMtA (C : Addr) (m : Str) (sp : Sp) (E : L2.St → XK) (ta : TE) (t : TA) : TE := fun σ H Q => ta σ H fun x H1 => ∃ a dx fs,
  x = .ref a ∧ H1 a = some (.ins C dx fs) ∧ fs.lookup m = none ∧ t σ H1 fun vs H2 => sp (.ref a :: vs) H2 Q (E σ)
theorem pc_methA {g : Addr} {pl : Sem Bool} (he : PE X o ta) (c : Mt X.prog X.w X.K X.mg X.base k C m g sp) (hr : Rm k X.A) (hx : ∀ σ, PassesAt (L2.CX X.prog X.w) X σ (E σ)) (ha : PA X (e :: es) t)
    (hst : starEach (e :: es) X.env = (false, eval e X.env) :: starEach es X.env := by rfl) (hpl : (backTo pos (starEach es X.env)).any (·.1) = false := by rfl)
    (ht : eval (.Call (.Attribute o m apos) (e :: es) [] pos) X.env = (eval o X.env >>= fun ov => standAt apos.atName >>= fun _ => holding [ov] (getMethod ov m pl) >>= fun r =>
      callWith pos r.1 r.2 (backTo pos (starEach (e :: es) X.env)) (backToKw pos (keywordEach [] X.env))) := by rfl) :
    PE X (.Call (.Attribute o m apos) (e :: es) [] pos) (tMtA C m sp E ta t) := by
  refine ⟨fun pins s σ H Q I h => ?_⟩
  refine PySem.W.methodCall_KW (pl := pl) (thn (he.run pins s σ H _ I h) ?_) ht
  rintro u s1 ⟨x, H1, I1, rx, a, dx, fs, rfl, ea, l, q⟩
  obtain rfl : u = Value.ref a := rx
  refine getmeth_ok I1 ea c.c c.m l ?_
  refine PySem.W.callWith_K (first := [.ref a]) (h₀ := X.base) I.ok.mod.kin c.m.kp (thn (ha.run pos pins s1 σ H1 _ I1 q) ?_) hst hpl
  rintro us s2 ⟨vs, H2, I2, r, q2⟩
  exact ⟨I2.kIn, run_pa (us := .ref a :: us) (vs := .ref a :: vs) c.f hr (hx σ) I2 (.cons rfl r) q2⟩
theorem pc_methA0 {g : Addr} {pl : Sem Bool} (he : PE X o ta) (c : Mt X.prog X.w X.K X.mg X.base k C m g sp) (hr : Rm k X.A) (hx : ∀ σ, PassesAt (L2.CX X.prog X.w) X σ (E σ))
    (ht : eval (.Call (.Attribute o m apos) [] [] pos) X.env = (eval o X.env >>= fun ov => standAt apos.atName >>= fun _ => holding [ov] (getMethod ov m pl) >>= fun r =>
      callWith pos r.1 r.2 (backTo pos (starEach [] X.env)) (backToKw pos (keywordEach [] X.env))) := by rfl) :
    PE X (.Call (.Attribute o m apos) [] [] pos) (tMtA C m sp E ta tNil) := by
  refine ⟨fun pins s σ H Q I h => ?_⟩
  refine PySem.W.methodCall_KW (pl := pl) (thn (he.run pins s σ H _ I h) ?_) ht
  rintro u s1 ⟨x, H1, I1, rx, a, dx, fs, rfl, ea, l, q⟩
  obtain rfl : u = Value.ref a := rx
  refine getmeth_ok I1 ea c.c c.m l ?_
  exact PySem.W.callWith_K0 (first := [.ref a]) I1.kIn c.m.kp (run_pa (us := [.ref a]) (vs := [.ref a]) c.f hr (hx σ) I1 (.cons rfl .nil) q)
/-- f(e, .., k = v, ..) -/
structure ClK (P : Program) (w : World) (K : PySem.W.Frag) (mg : Str → Option Value) (base : Heap) (k : Nat) (x : Str) (n : Nat) (ks : List Str) (sp : Sp) : Prop where
  f : FnK P w K mg base k (ga K x) n ks sp
  m : mg x = some (.ref (ga K x))
  kp : PySem.W.keepIn K (.ref (ga K x)) = true
def tClK (n m : Nat) (sp : Sp) (E : L2.St → XK) (t tk : TA) : TE := fun σ H Q => t σ H fun vs H1 => tk σ H1 fun zs H2 => vs.length = n ∧ zs.length = m ∧ sp (vs ++ zs) H2 Q (E σ)
theorem pc_callK (c : ClK X.prog X.w X.K X.mg X.base k x n ks sp) (hr : Rm k X.A) (hg : Gl X x) (hx : ∀ σ, PassesAt (L2.CX X.prog X.w) X σ (E σ)) (ha : PA X (e :: es) t) (hkw : PK X kws tk)
    (hall : (backToKw pos (keywordEach kws X.env)).all (·.1.isSome) = true := by rfl) (hks : (backToKw pos (keywordEach kws X.env)).filterMap (·.1) = ks := by rfl)
    (hdb : (x == ("__debug__" : Str)) = false := by decide) (he : starEach (e :: es) X.env = (false, eval e X.env) :: starEach es X.env := by rfl)
    (hpl : ((backTo pos (starEach (e :: es) X.env)).any (·.1) || (backToKw pos (keywordEach kws X.env)).any (·.1.isNone)) = false := by rfl) :
    PE X (.Call (.Name x p) (e :: es) kws pos) (tClK n ks.length sp E t tk) := by
  refine ⟨fun pins s σ H Q I h => ?_⟩
  refine wpAny_Call_Name_kw (ld_glob I hg c.m ?_ hdb)
  refine PySem.W.callWith_KW (h₀ := X.base) I.ok.mod.kin c.kp hall (thn (ha.run pos pins s σ H _ I h) ?_) hpl he
  rintro us s1 ⟨vs, H1, I1, r, q⟩
  refine thn (hkw.run pos pins s1 σ H1 _ I1 q) ?_
  rintro ws s2 ⟨zs, H2, I2, rz, l1, l2, q2⟩
  rw [hks]
  exact ⟨I2.kIn, run_pk c.f hr (hx σ) I2 r rz l1 l2 q2⟩
/-- f(k = v, ..) -/
theorem pc_callK0 (c : ClK X.prog X.w X.K X.mg X.base k x 0 ks sp) (hr : Rm k X.A) (hg : Gl X x) (hx : ∀ σ, PassesAt (L2.CX X.prog X.w) X σ (E σ)) (hkw : PK X kws tk)
    (hall : (backToKw pos (keywordEach kws X.env)).all (·.1.isSome) = true := by rfl) (hks : (backToKw pos (keywordEach kws X.env)).filterMap (·.1) = ks := by rfl)
    (hdb : (x == ("__debug__" : Str)) = false := by decide)
    (hpl : ((backTo pos (starEach [] X.env)).any (·.1) || (backToKw pos (keywordEach kws X.env)).any (·.1.isNone)) = false := by rfl) :
    PE X (.Call (.Name x p) [] kws pos) (tClK 0 ks.length sp E tNil tk) := by
  refine ⟨fun pins s σ H Q I h => ?_⟩
  refine wpAny_Call_Name_kw (ld_glob I hg c.m ?_ hdb)
  refine PySem.W.callWith_KW0 (h₀ := X.base) I.ok.mod.kin c.kp hall (thn (hkw.run pos pins s σ H _ I h) ?_) hpl
  rintro ws s2 ⟨zs, H2, I2, rz, l1, l2, q2⟩
  rw [hks]
  exact ⟨I2.kIn, run_pk (us := []) (vs := []) c.f hr (hx σ) I2 .nil rz l1 l2 q2⟩
/-- o.m(e, .., k = v, ..) -/
structure MtK (P : Program) (w : World) (K : PySem.W.Frag) (mg : Str → Option Value) (base : Heap) (k : Nat) (C : Addr) (m : Str) (g : Addr) (n : Nat) (ks : List Str) (sp : Sp) : Prop where
  f : FnK P w K mg base k g (n + 1) ks sp
  c : Cls K C
  m : Meth K C m g
def tMtK (C : Addr) (m : Str) (n j : Nat) (sp : Sp) (E : L2.St → XK) (ta : TE) (t tk : TA) : TE := fun σ H Q => ta σ H fun x H1 => ∃ a dx fs,
  x = .ref a ∧ H1 a = some (.ins C dx fs) ∧ fs.lookup m = none ∧ t σ H1 fun vs H2 => tk σ H2 fun zs H3 => vs.length = n ∧ zs.length = j ∧ sp (.ref a :: (vs ++ zs)) H3 Q (E σ)
theorem pc_methK0 {g : Addr} {pl : Sem Bool} (he : PE X o ta) (c : MtK X.prog X.w X.K X.mg X.base k C m g 0 ks sp) (hr : Rm k X.A) (hx : ∀ σ, PassesAt (L2.CX X.prog X.w) X σ (E σ)) (hkw : PK X kws tk)
    (hall : (backToKw pos (keywordEach kws X.env)).all (·.1.isSome) = true := by rfl) (hks : (backToKw pos (keywordEach kws X.env)).filterMap (·.1) = ks := by rfl)
    (hpl : ((backTo pos (starEach [] X.env)).any (·.1) || (backToKw pos (keywordEach kws X.env)).any (·.1.isNone)) = false := by rfl)
    (ht : eval (.Call (.Attribute o m apos) [] kws pos) X.env = (eval o X.env >>= fun ov => standAt apos.atName >>= fun _ => holding [ov] (getMethod ov m pl) >>= fun r =>
      callWith pos r.1 r.2 (backTo pos (starEach [] X.env)) (backToKw pos (keywordEach kws X.env))) := by rfl) :
    PE X (.Call (.Attribute o m apos) [] kws pos) (tMtK C m 0 ks.length sp E ta tNil tk) := by
  refine ⟨fun pins s σ H Q I h => ?_⟩
  refine PySem.W.methodCall_KW (pl := pl) (thn (he.run pins s σ H _ I h) ?_) ht
  rintro u s1 ⟨x, H1, I1, rx, a, dx, fs, rfl, ea, l, q⟩
  obtain rfl : u = Value.ref a := rx
  refine getmeth_ok I1 ea c.c c.m l ?_
  refine PySem.W.callWith_KW0 (first := [.ref a]) (h₀ := X.base) I.ok.mod.kin c.m.kp hall (thn (hkw.run pos pins s1 σ H1 _ I1 q) ?_) hpl
  rintro ws s2 ⟨zs, H2, I2, rz, l1, l2, q2⟩
  rw [hks]
  exact ⟨I2.kIn, run_pk (us := [.ref a]) (vs := [.ref a]) c.f hr (hx σ) I2 (.cons rfl .nil) rz rfl l2 q2⟩
end
end TT
namespace TT
open PySem PySem.Spec PyProof.Rows L2
section
variable {K : PySem.W.Frag} {H H' : Hp} {a p : Addr} {xs ys : List V} {v : V} {d e : PyData} {ds es : List PyData}
theorem same_upd {o : HO} (hn : H p = none) : Same H (upd H p o) := fun b u h => by
  rw [upd_ne (fun z => by rw [z, hn] at h; cases h)]
  exact h
theorem same_seqT (e : Same H H') (h : SqT K H a xs) : SqT K H' a xs := by
  rcases h with h | h
  · rcases h with h | ⟨o, h⟩
    · exact .inl (.inl (e _ _ h))
    · exact .inl (.inr ⟨o, e _ _ h⟩)
  · exact .inr h
theorem dp_same_both (e : Same H H') : (∀ d v, Dp K H v d → Dp K H' v d) ∧ ∀ ds vs, DpAll K H vs ds → DpAll K H' vs ds := by
  have key : ∀ d, (∀ v, Dp K H v d → Dp K H' v d) := by
    intro d
    refine PyData.rec (motive_1 := fun d => ∀ v, Dp K H v d → Dp K H' v d) (motive_2 := fun ds => ∀ vs, DpAll K H vs ds → DpAll K H' vs ds) (motive_3 := fun _ => True) (motive_4 := fun _ => True)
      ?_ ?_ ?_ ?_ ?_ ?_ ?_ ?_ ?_ ?_ ?_ ?_ d
    · intro v h; cases h; exact .non
    · intro b v h; cases h; exact .bl b
    · intro b v h; cases h; exact .int b
    · intro b v h; cases h; exact .str b
    · intro ds ih v h
      cases h with
      | lst h1 h2 => exact .lst (e.seq h1) (ih _ h2)
    · intro ds ih v h
      cases h with
      | tup h1 h2 => exact .tup (same_seqT e h1) (ih _ h2)
    · intro kvs _ v h; cases h
    · intro vs h; cases h; exact .nil
    · intro d ds ih1 ih2 vs h
      cases h with
      | cons h1 h2 => exact .cons (ih1 _ h1) (ih2 _ h2)
    · trivial
    · intros; trivial
    · intros; trivial
  refine ⟨key, fun ds => ?_⟩
  induction ds with
  | nil => intro vs h; cases h; exact .nil
  | cons d ds ih =>
    intro vs h
    cases h with
    | cons h1 h2 => exact .cons (key _ _ h1) (ih _ h2)
theorem dp_same (e : Same H H') (h : Dp K H v d) : Dp K H' v d := (dp_same_both e).1 _ _ h
theorem dpa_same (e : Same H H') (h : DpAll K H xs ds) : DpAll K H' xs ds := (dp_same_both e).2 _ _ h
theorem dpa_len : ∀ {xs : List V} {ds : List PyData}, DpAll K H xs ds → xs.length = ds.length
  | _, _, .nil => rfl
  | _, _, .cons _ h => by simp [dpa_len h]
theorem dpa_get : ∀ {xs : List V} {ds : List PyData} {i : Nat} {d : PyData}, DpAll K H xs ds → ds[i]? = some d → ∃ x, xs[i]? = some x ∧ Dp K H x d
  | _, _, _, _, .nil, h => by simp at h
  | _, _, 0, _, .cons h1 _, h => by
    obtain rfl := Option.some.inj h
    exact ⟨_, rfl, h1⟩
  | _, _, i + 1, _, .cons _ h2, h => dpa_get (i := i) h2 h
theorem dpa_at : ∀ {xs : List V} {ds : List PyData} {i : Nat} {x : V}, DpAll K H xs ds → xs[i]? = some x → ∃ d, ds[i]? = some d ∧ Dp K H x d
  | _, _, _, _, .nil, h => by simp at h
  | _, _, 0, _, .cons h1 _, h => by
    obtain rfl := Option.some.inj h
    exact ⟨_, rfl, h1⟩
  | _, _, i + 1, _, .cons _ h2, h => dpa_at (i := i) h2 h
theorem dpa_app : ∀ {xs ys : List V} {ds es : List PyData}, DpAll K H xs ds → DpAll K H ys es → DpAll K H (xs ++ ys) (ds ++ es)
  | _, _, _, _, .nil, h => h
  | _, _, _, _, .cons h1 h2, h => .cons h1 (dpa_app h2 h)
theorem dpa_one (h : Dp K H v d) : DpAll K H [v] [d] := .cons h .nil
theorem dpa_set : ∀ {xs : List V} {ds : List PyData} {i : Nat} {x : V} {d : PyData}, DpAll K H xs ds → Dp K H x d → DpAll K H (xs.set i x) (ds.set i d)
  | _, _, _, _, _, .nil, _ => .nil
  | _, _, 0, _, _, .cons _ h2, h => .cons h h2
  | _, _, i + 1, _, _, .cons h1 h2, h => .cons h1 (dpa_set (i := i) h2 h)
theorem dpa_ints : ∀ (ns : List Int), DpAll K H (ns.map V.int) (ns.map PyData.int)
  | [] => .nil
  | n :: ns => .cons (.int n) (dpa_ints ns)
theorem dpa_ints' : ∀ {xs : List V} {ns : List Int}, DpAll K H xs (ns.map PyData.int) → xs = ns.map V.int
  | xs, [], h => by cases h; rfl
  | xs, n :: ns, h => by
    cases h with
    | cons h1 h2 =>
      cases h1
      rw [dpa_ints' h2]
      rfl
theorem dp_newT (hn : H p = none) (h : DpAll K H xs ds) : Dp K (upd H p (.tup xs)) (.ref p) (.tuple ds) := .tup (.inl (.inl upd_same)) (dpa_same (same_upd hn) h)
theorem dp_newL (hn : H p = none) (h : DpAll K H xs ds) : Dp K (upd H p (.lst xs)) (.ref p) (.list ds) := .lst (.inl (.inl upd_same)) (dpa_same (same_upd hn) h)
theorem dp_int {i : Int} (h : Dp K H v (.int i)) : v = .int i := by cases h; rfl
theorem dp_bl {b : Bool} (h : Dp K H v (.bool b)) : v = .bl b := by cases h; rfl
theorem dp_str {b : Str} (h : Dp K H v (.str b)) : v = .str b := by cases h; rfl
theorem dp_non (h : Dp K H v .none) : v = .non := by cases h; rfl
theorem dp_tup (h : Dp K H v (.tuple ds)) : ∃ a xs, v = .ref a ∧ SqT K H a xs ∧ DpAll K H xs ds := by
  cases h with
  | tup h1 h2 => exact ⟨_, _, rfl, h1, h2⟩
theorem dp_lst (h : Dp K H v (.list ds)) : ∃ a xs, v = .ref a ∧ SqL K H a xs ∧ DpAll K H xs ds := by
  cases h with
  | lst h1 h2 => exact ⟨_, _, rfl, h1, h2⟩
def tyD : PyData → String
  | .none => "NoneType"
  | .bool _ => "bool"
  | .int _ => "int"
  | .str _ => "str"
  | .list _ => "list"
  | .tuple _ => "tuple"
  | .dict _ => "dict"
theorem tyx_of (h : Dp K H v d) : TyX K H v (.type (tyD d)) := by
  cases h with
  | non => exact .base .non
  | bl b => exact .base (.bl b)
  | int i => exact .base (.int i)
  | str x => exact .base (.str x)
  | lst h1 h2 =>
    rcases h1 with (h1 | ⟨o, h1⟩) | ⟨o, its, n, h1, h2, _⟩
    · exact .base (.lst h1)
    · exact .base (.frz h1)
    · exact .kList h1 h2
  | tup h1 h2 =>
    rcases h1 with (h1 | ⟨o, h1⟩) | ⟨o, its, n, h1, h2, _⟩
    · exact .base (.tup h1)
    · exact .fTuple h1
    · exact .kTuple h1 h2
end
section
variable {X : Cx} {k : Nat}
def rIxD (K : PySem.W.Frag) : R2 := fun x y H Q => ∃ (ds : List PyData) (i : Nat) (e : PyData), (Dp K H x (.list ds) ∨ Dp K H x (.tuple ds)) ∧ y = .int (i : Nat) ∧ ds[i]? = some e ∧ ∀ v, Dp K H v e → Q v H
theorem ix_dp : IxR X (rIxD X.K) := by
  intro value slice pins s σ H x y v u Q I rx ry h hs
  obtain ⟨ds, i, e, h1, rfl, h3, q⟩ := h
  rcases h1 with h1 | h1
  · obtain ⟨a, xs, rfl, h5, h6⟩ := dp_lst h1
    obtain ⟨z, hz, dz⟩ := dpa_get h6 h3
    exact ix_list value slice pins s σ H _ _ v u Q I rx ry ⟨a, xs, i, z, rfl, rfl, h5, atI_nat hz, q z dz⟩ hs
  · obtain ⟨a, xs, rfl, h5, h6⟩ := dp_tup h1
    obtain ⟨z, hz, dz⟩ := dpa_get h6 h3
    exact ix_tup value slice pins s σ H _ _ v u Q I rx ry ⟨a, xs, i, z, rfl, rfl, h5, atI_nat hz, q z dz⟩ hs
/-- isinstance(x, T), x a datum, T a built-in class: kitB's answer -/
def rIsD (K : PySem.W.Frag) (T : String) : List V → Hp → VK → Prop := fun xs H Q => ∃ (x : V) (d : PyData) (b : Bool), xs = [x, .ty T] ∧ Dp K H x d ∧ kitB (tyD d) T = some b ∧ Q (.bl b) H
theorem call_isD (T : String) : CallR X (.builtin "isinstance") (rIsD X.K T) := by
  rintro pins s σ H xs us Q I r ⟨x, d, b, rfl, h1, h2, q⟩
  exact call_isZ pins s σ H _ us Q I r ⟨x, .ty T, .type (tyD d), .type T, b, rfl, .ty T, .base (tyx_of h1), kit_ty h2, q⟩
/-- len of a datum -/
def rLenD (K : PySem.W.Frag) : List V → Hp → VK → Prop := fun xs H Q => ∃ (x : V) (ds : List PyData), xs = [x] ∧ (Dp K H x (.list ds) ∨ Dp K H x (.tuple ds)) ∧ Q (.int ds.length) H
theorem call_lenD : CallR X (.builtin "len") (rLenD X.K) := by
  rintro pins s σ H xs us Q I r ⟨x, ds, rfl, h1, q⟩
  rcases h1 with h1 | h1
  · obtain ⟨a, xs, rfl, h5, h6⟩ := dp_lst h1
    rw [← dpa_len h6] at q
    exact call_len pins s σ H _ us Q I r ⟨_, xs.length, rfl, .inl ⟨xs, h5, rfl⟩, q⟩
  · obtain ⟨a, xs, rfl, h5, h6⟩ := dp_tup h1
    rw [← dpa_len h6] at q
    exact call_len pins s σ H _ us Q I r ⟨_, xs.length, rfl, .inr ⟨xs, h5, rfl⟩, q⟩
theorem zip_pairs : ∀ {xs : List V} {ds : List PyData}, xs.length = ds.length → (xs.zip ds).map (·.1) = xs ∧ (xs.zip ds).map (·.2) = ds
  | [], [], _ => ⟨rfl, rfl⟩
  | x :: xs, d :: ds, h => by
    have := zip_pairs (xs := xs) (ds := ds) (by simpa using h)
    simp [this.1, this.2]
  | [], _ :: _, h => by cases h
  | _ :: _, [], h => by cases h
theorem dpa_zip {K : PySem.W.Frag} {H : Hp} : ∀ {zs : List (V × PyData)}, (∀ z ∈ zs, Dp K H z.1 z.2) → DpAll K H (zs.map (·.1)) (zs.map (·.2))
  | [], _ => .nil
  | z :: zs, h => .cons (h z (List.mem_cons_self ..)) (dpa_zip fun y hy => h y (List.mem_cons_of_mem _ hy))
theorem dpa_mem {K : PySem.W.Frag} {H : Hp} : ∀ {xs : List V} {ds : List PyData}, DpAll K H xs ds → ∀ z ∈ xs.zip ds, Dp K H z.1 z.2
  | _, _, .nil, z, hz => by simp at hz
  | _, _, .cons h1 h2, z, hz => by
    rw [List.zip_cons_cons] at hz
    rcases List.mem_cons.mp hz with e | e
    · subst e; exact h1
    · exact dpa_mem h2 z e
def rSortD {α : Type} (K : PySem.W.Frag) (f : α → PyData) (le : α → α → Bool) : List V → Hp → VK → Prop := fun xs H Q => ∃ (x : V) (as : List α), xs = [x] ∧ (Dp K H x (.list (as.map f)) ∨ Dp K H x (.tuple (as.map f))) ∧
  (∀ y ∈ as, ∀ z ∈ as, PySem.W.dataLe false f y z = le y z) ∧ PySem.W.AllAlike (as.map f) ∧ PySem.W.Sortable (as.map f) ∧ (∀ y ∈ as, (f y).depth ≤ 64) ∧
  ∀ p ys, H p = none → DpAll K H ys ((as.mergeSort le).map f) → Q (.ref p) (upd H p (.lst ys))
theorem sortD_data {α : Type} {f : α → PyData} {le : α → α → Bool} {as : List α} {xs : List V} (hl : xs.length = as.length) (hle : ∀ y ∈ as, ∀ z ∈ as, PySem.W.dataLe false f y z = le y z) :
    (((xs.zip (as.map f)).mergeSort leD).map (·.2)) = (as.mergeSort le).map f := by
  have e1 : ∀ {β : Type} (g : β → PyData) (l : List β), (l.mergeSort (PySem.W.dataLe false g)).map g = (l.map g).mergeSort (PySem.W.dataLe false fun d : PyData => d) := fun g l => by
    rw [List.map_mergeSort]
    intro a _ b _
    rfl
  have e2 : (xs.zip (as.map f)).map (·.2) = as.map f := (zip_pairs (by simpa using hl)).2
  have e3 : as.mergeSort le = as.mergeSort (PySem.W.dataLe false f) := by
    have := List.map_mergeSort (f := fun x : α => x) (r := le) (s := PySem.W.dataLe false f) (l := as) (fun a ha b hb => (hle a ha b hb).symm)
    simpa using this
  rw [e3, e1 f]
  show ((xs.zip (as.map f)).mergeSort (PySem.W.dataLe false (fun b : V × PyData => b.2))).map (fun b : V × PyData => b.2) = _
  rw [e1 (fun b : V × PyData => b.2), e2]
theorem call_sortD {α : Type} (f : α → PyData) (le : α → α → Bool) (hr : Rm k X.A) : CallR X (.builtin "sorted") (rSortD X.K f le) := by
  rintro pins s σ H xs us Q I r ⟨x, as, rfl, h1, hle, h2, h3, h4, q⟩
  have key : ∀ a ys, x = .ref a → (SqL X.K H a ys ∨ SqT X.K H a ys) → DpAll X.K H ys (as.map f) → wpAny (model X.prog X.w) X.A (call (.builtin "sorted") us) (EP X pins σ Q) X.xe s := by
    rintro a ys rfl hs hd
    have hl : ys.length = as.length := by rw [dpa_len hd, List.length_map]
    obtain ⟨z1, z2⟩ := zip_pairs (xs := ys) (ds := as.map f) (by simpa using hl)
    refine call_sorted hr pins s σ H _ us Q I r ⟨a, ys.zip (as.map f), rfl, by rw [z1]; exact hs, dpa_mem hd, by rw [z2]; exact h2, by rw [z2]; exact h3, fun b hb => ?_, fun p hp => q p _ hp ?_⟩
    · have hm : b.2 ∈ as.map f := by rw [← z2]; exact List.mem_map_of_mem hb
      obtain ⟨y, hy, e⟩ := List.mem_map.mp hm
      rw [← e]; exact h4 y hy
    · rw [← sortD_data hl hle]
      refine dpa_zip fun z hz => dpa_mem hd z ?_
      exact (List.mergeSort_perm _ _).mem_iff.mp hz
  rcases h1 with h1 | h1
  · obtain ⟨a, ys, e, h5, h6⟩ := dp_lst h1
    exact key a ys e (.inl h5) h6
  · obtain ⟨a, ys, e, h5, h6⟩ := dp_tup h1
    exact key a ys e (.inr h5) h6
end
def del (H : Hp) (D : Addr) : Hp := fun b => if b = D then none else H b
mutual
/-- no list within -/
def noL : PyData → Bool
  | .list _ => false
  | .tuple ds => noLs ds
  | .dict _ => false
  | _ => true
def noLs : List PyData → Bool
  | [] => true
  | d :: ds => noL d && noLs ds
end
theorem noLs_map {α : Type} {f : α → PyData} (h : ∀ x, noL (f x) = true) : ∀ l : List α, noLs (l.map f) = true
  | [] => rfl
  | x :: l => by simp [noLs, h x, noLs_map h l]
section
variable {K : PySem.W.Frag} {H H' : Hp} {a D : Addr} {xs ys : List V} {v : V} {d : PyData} {ds : List PyData} {u : HO}
theorem del_same (H : Hp) (D : Addr) : Same (del H D) (upd H D u) := fun b o h => by
  unfold del at h
  split at h
  · cases h
  · rename_i hb
    rw [upd_ne hb]; exact h
theorem del_le (H : Hp) (D : Addr) : Same (del H D) H := fun b o h => by
  unfold del at h
  split at h
  · cases h
  · exact h
theorem del_mono (s : Same H H') (D : Addr) : Same (del H D) (del H' D) := fun b o h => by
  unfold del at h ⊢
  split at h
  · cases h
  · rename_i hb
    rw [if_neg hb]; exact s _ _ h
theorem del_of (s : Same H H') (hD : H D = none) : Same H (del H' D) := fun b o h => by
  unfold del
  rw [if_neg (fun z => by rw [z, hD] at h; cases h)]
  exact s _ _ h
theorem del_upd (hne : a ≠ D) : del (upd H a u) D = upd (del H D) a u := by
  funext b
  unfold del
  by_cases h : b = D
  · subst h
    rw [if_pos rfl, upd_ne (Ne.symm hne), if_pos rfl]
  · rw [if_neg h]
    by_cases h2 : b = a
    · subst h2; rw [upd_same, upd_same]
    · rw [upd_ne h2, upd_ne h2, if_neg h]
theorem del_self : del (upd H D u) D = del H D := by
  funext b
  unfold del
  by_cases h : b = D
  · rw [if_pos h, if_pos h]
  · rw [if_neg h, if_neg h, upd_ne h]
/-- tuples stay: so does what has no list -/
def TupsStay (H H' : Hp) : Prop := ∀ b ys, Rd H b (.tup ys) → Rd H' b (.tup ys)
theorem dp_tups (k : TupsStay H H') : ∀ d v, noL d = true → Dp K H v d → Dp K H' v d := by
  intro d
  refine PyData.rec (motive_1 := fun d => ∀ v, noL d = true → Dp K H v d → Dp K H' v d) (motive_2 := fun ds => ∀ vs, noLs ds = true → DpAll K H vs ds → DpAll K H' vs ds) (motive_3 := fun _ => True) (motive_4 := fun _ => True)
    ?_ ?_ ?_ ?_ ?_ ?_ ?_ ?_ ?_ ?_ ?_ ?_ d
  · intro v _ h; cases h; exact .non
  · intro b v _ h; cases h; exact .bl b
  · intro b v _ h; cases h; exact .int b
  · intro b v _ h; cases h; exact .str b
  · intro ds ih v n h; cases n
  · intro ds ih v n h
    cases h with
    | tup h1 h2 =>
      refine .tup ?_ (ih _ n h2)
      rcases h1 with h1 | h1
      · exact .inl (k _ _ h1)
      · exact .inr h1
  · intro kvs _ v n h; cases n
  · intro vs _ h; cases h; exact .nil
  · intro d ds ih1 ih2 vs n h
    obtain ⟨n1, n2⟩ := He.ba (show (noL d && noLs ds) = true from n)
    cases h with
    | cons h1 h2 => exact .cons (ih1 _ n1 h1) (ih2 _ n2 h2)
  · trivial
  · intros; trivial
  · intros; trivial
theorem tups_ne (hD : H D = some (.lst xs)) (h : Rd H a (.tup ys)) : a ≠ D := fun z => by
  subst z
  rcases h with h | ⟨o, h⟩
  · rw [hD] at h; cases h
  · rw [hD] at h; cases h
theorem tups_del (hD : H D = some (.lst xs)) : TupsStay H (del H D) := fun b ys h => by
  have hb := tups_ne hD h
  rcases h with h | ⟨o, h⟩
  · exact .inl (by unfold del; rw [if_neg hb]; exact h)
  · exact .inr ⟨o, by unfold del; rw [if_neg hb]; exact h⟩
theorem tups_upd (hD : H D = some (.lst xs)) : TupsStay H (upd H D u) := fun b ys h => by
  have hb := tups_ne hD h
  rcases h with h | ⟨o, h⟩
  · exact .inl (by rw [upd_ne hb]; exact h)
  · exact .inr ⟨o, by rw [upd_ne hb]; exact h⟩
theorem dp_del (hD : H D = some (.lst xs)) (n : noL d = true) (h : Dp K H v d) : Dp K (del H D) v d := dp_tups (tups_del hD) d v n h
theorem dp_upd (hD : H D = some (.lst xs)) (n : noL d = true) (h : Dp K H v d) : Dp K (upd H D u) v d := dp_tups (tups_upd hD) d v n h
theorem dpa_tups (k : TupsStay H H') : ∀ ds vs, noLs ds = true → DpAll K H vs ds → DpAll K H' vs ds
  | [], _, _, h => by cases h; exact .nil
  | d :: ds, _, n, h => by
    obtain ⟨n1, n2⟩ := He.ba (show (noL d && noLs ds) = true from n)
    cases h with
    | cons h1 h2 => exact .cons (dp_tups k _ _ n1 h1) (dpa_tups k _ _ n2 h2)
end
def LcP (K : PySem.W.Frag) (H1 : Hp) (D : Addr) (F : Nat → List PyData) (i : Nat) (H : Hp) : Prop := Same H1 H ∧ ∃ acc, H D = some (.lst acc) ∧ DpAll K (del H D) acc (F i)
section
variable {K : PySem.W.Frag} {H1 H H4 : Hp} {D : Addr} {F : Nat → List PyData} {i : Nat} {y : V} {d : PyData}
theorem lcp_start (hD : H1 D = none) (hF : F 0 = []) : LcP K H1 D F 0 (upd H1 D (.lst [])) := ⟨same_upd hD, [], upd_same, by rw [hF]; exact .nil⟩
theorem lcp_put (hD : H1 D = none) (I : LcP K H1 D F i H) (s : Same H H4) (h : Dp K (del H4 D) y d) (hF : F (i + 1) = F i ++ [d]) (hz : (F i).length < sizeLine) :
    ∃ acc, H4 D = some (.lst acc) ∧ acc.length < sizeLine ∧ LcP K H1 D F (i + 1) (upd H4 D (.lst (acc ++ [y]))) := by
  obtain ⟨s1, acc, h1, h2⟩ := I
  refine ⟨acc, s _ _ h1, by rw [dpa_len h2]; exact hz, fun b o hb => ?_, acc ++ [y], upd_same, ?_⟩
  · rw [upd_ne (fun z => by rw [z, hD] at hb; cases hb)]
    exact s _ _ (s1 _ _ hb)
  · rw [del_self, hF]
    exact dpa_app (dpa_same (del_mono s D) h2) (dpa_one h)
/-- .. of data without lists -/
theorem lcp_put0 (hD : H1 D = none) (I : LcP K H1 D F i H) (s : Same H H4) (h : Dp K H4 y d) (n : noL d = true) (hF : F (i + 1) = F i ++ [d]) (hz : (F i).length < sizeLine) :
    ∃ acc, H4 D = some (.lst acc) ∧ acc.length < sizeLine ∧ LcP K H1 D F (i + 1) (upd H4 D (.lst (acc ++ [y]))) := by
  obtain ⟨acc, h1, _⟩ := I.2
  exact lcp_put hD I s (dp_del (s _ _ h1) n h) hF hz
theorem lcp_skip (I : LcP K H1 D F i H) (s : Same H H4) (hF : F (i + 1) = F i) : LcP K H1 D F (i + 1) H4 := by
  obtain ⟨s1, acc, h1, h2⟩ := I
  exact ⟨s1.trans s, acc, s _ _ h1, by rw [hF]; exact dpa_same (del_mono s D) h2⟩
theorem lcp_end (I : LcP K H1 D F i H) : Same H1 H ∧ Dp K H (.ref D) (.list (F i)) ∧ ∃ acc, H D = some (.lst acc) ∧ DpAll K H acc (F i) := by
  obtain ⟨s1, acc, h1, h2⟩ := I
  exact ⟨s1, .lst (.inl (.inl h1)) (dpa_same (del_le H D) h2), acc, h1, dpa_same (del_le H D) h2⟩
end
end TT
namespace TT
open PySem PySem.Spec PyProof.Rows L2
section
variable {P : Program} {w : World} {K : PySem.W.Frag} {mg : Str → Option Value} {base : Heap} {N : List Str} {qual : Str} {scope : Scope} {f : Addr} {cdv : Value} {A : Around} {outer : List Env} {s : Shared} {H : Hp} {E : XK}
theorem tkX : Takes (cxOf (L2.CX P w) P w K mg base N qual scope f cdv A outer s H E) (fun cls d _ H => E cls d H) := takes_of rfl rfl rfl rfl
theorem pX : Passes (L2.CX P w) (cxOf (L2.CX P w) P w K mg base N qual scope f cdv A outer s H E) E := passes_call tkX (fun _ _ _ _ h => h)
theorem poX : PassesOwn (model P w) (cxOf (L2.CX P w) P w K mg base N qual scope f cdv A outer s H E).A (cxOf (L2.CX P w) P w K mg base N qual scope f cdv A outer s H E).env (cxOf (L2.CX P w) P w K mg base N qual scope f cdv A outer s H E).xe := passes_of rfl
end
section
variable {X : Cx} {x : Str} {e : Expr} {te : TE} {pos pos' : Pos}
theorem zset (i : Nat) (hN : X.N.Nodup) (he : PE X e te) (hi : X.N[i]? = some x := by rfl) (hx : Loc X.env.scope x := by first | exact Or.inl rfl | exact Or.inr rfl) (hs : swapsWith e (some (.Name x pos')) pos.line X.env = pure false := by rfl)
    (hf : X.fn x = true ∨ X.env.scope.names.lookup x = some .local := by first | exact .inl rfl | exact .inr rfl | assumption) : PS X (.Assign [.Name x pos'] e pos) (tAsg te (gName i)) := ps_set hN hi hx he hs hf
theorem zg (i : Nat) (hN : X.N.Nodup) (hi : X.N[i]? = some x := by rfl) (hx : Loc X.env.scope x := by first | exact Or.inl rfl | exact Or.inr rfl)
    (hf : X.fn x = true ∨ X.env.scope.names.lookup x = some .local := by first | exact .inl rfl | exact .inr rfl | assumption) : PG X (.Name x pos) (gName i) := pg_name hN hi hx hf
/-- a built-in class as a value -/
theorem zty (T : String) (hg : Gl X x) (hm : X.mg x = none) (hv : bootBuiltins x = some (.type T) := by decide +kernel) (hn : x ≠ "__name__" := by decide) (hd : (x == ("__debug__" : Str)) = false := by decide) : PE X (.Name x pos) (tC (.ty T)) :=
  pe_bltn hg hm hv rfl hn hd
/-- a class of the module as a value -/
theorem zcl {a : Addr} (hg : Gl X x) (hm : X.mg x = some (.ref a)) (hd : (x == ("__debug__" : Str)) = false := by decide) : PE X (.Name x pos) (tC (.ref a)) := pe_glob hg hm rfl hd
theorem zgi {i : Int} (hg : Gl X x) (hm : ∃ t, X.mg x = some (.int i t)) (hd : (x == ("__debug__" : Str)) = false := by decide) : PE X (.Name x pos) (tC (.int i)) := by
  obtain ⟨t, h⟩ := hm
  exact pe_glob hg h ⟨t, rfl⟩ hd
theorem zgs {i : Str} (hg : Gl X x) (hm : ∃ t, X.mg x = some (.str i t)) (hd : (x == ("__debug__" : Str)) = false := by decide) : PE X (.Name x pos) (tC (.str i)) := by
  obtain ⟨t, h⟩ := hm
  exact pe_glob hg h ⟨t, rfl⟩ hd
/-- C.f, a constant of a class of the module -/
theorem zcv {o : Expr} {ta : TE} {C : Addr} {f : Str} {v : V} (he : PE X o ta) (hr : ClX.CRead X.K C (.type "type")) (hc : ∃ u, ClX.CVal X.K C (.type "type") f v u) (hb : attributeBase o f X.env (eval o X.env) = eval o X.env := by rfl) :
    PE X (.Attribute o f pos) (fun σ H Q => ta σ H fun y H1 => y = .ref C ∧ Q v H1) := by
  obtain ⟨u, hu⟩ := hc
  have z := ClX.pe_cval (pos := pos) (pe_up he) hb
  refine ⟨fun pins s σ H Q I h => z.run pins s σ H Q I ⟨_, h, fun y H1 q => ?_⟩⟩
  obtain ⟨rfl, q⟩ := q
  exact ⟨C, .type "type", v, u, rfl, hr, hu, q⟩
def rLenA (K : PySem.W.Frag) : List V → Hp → VK → Prop := fun xs H Q => ∃ x n, xs = [x] ∧ LenV K x H n ∧ Q (.int n) H
def rListOf (K : PySem.W.Frag) : List V → Hp → VK → Prop := fun xs H Q => ∃ p ys, xs = [.ref p] ∧ (SqL K H p ys ∨ SqT K H p ys) ∧ ∀ l, H l = none → Q (.ref l) (upd H l (.lst ys))
def rTupOf (K : PySem.W.Frag) : List V → Hp → VK → Prop := fun xs H Q => ∃ p ys, xs = [.ref p] ∧ ((SqL K H p ys ∧ ∀ l, H l = none → Q (.ref l) (upd H l (.tup ys))) ∨ (SqT K H p ys ∧ Q (.ref p) H))
section
variable {K : PySem.W.Frag} {f : Str} {ta tl : TE} {es : List Expr} {k n : Nat} {t : TGs} {tg l : Expr}
theorem qfld (he : PE X e ta) (hK : X.K = K := by rfl) (hb : attributeBase e f X.env (eval e X.env) = eval e X.env := by rfl) : PE X (.Attribute e f pos) (tFld K ta f) := by
  subst hK; exact pe_fld he hb
theorem qlist (hl : PE X l tl) (hK : X.K = K := by rfl) : PI X tg l (iList K tl) := by subst hK; exact pi_list hl
theorem qtup (hl : PE X l tl) (hK : X.K = K := by rfl) : PI X tg l (iTup K tl) := by subst hK; exact pi_tup hl
theorem qenum {elts : List Expr} {kk : Nat} {tpos p : Pos} {ta : TA} (hg : Gl X "enumerate") (hm : X.mg "enumerate" = none) (ha : PA X [e] ta) (hK : X.K = K := by rfl) (hst : starEach [e] X.env = [(false, eval e X.env)] := by rfl) :
    PI X (.Tuple elts kk tpos) (.Call (.Name "enumerate" p) [e] [] pos) (iEnum K ta) := by subst hK; exact pi_enum hg hm ha hst
theorem qenumT {elts : List Expr} {kk : Nat} {tpos p : Pos} {ta : TA} (hg : Gl X "enumerate") (hm : X.mg "enumerate" = none) (ha : PA X [e] ta) (hK : X.K = K := by rfl) (hst : starEach [e] X.env = [(false, eval e X.env)] := by rfl) :
    PI X (.Tuple elts kk tpos) (.Call (.Name "enumerate" p) [e] [] pos) (iEnumT K ta) := by subst hK; exact pi_enumT hg hm ha hst
theorem qgt (hc : X.calm = true) (h : PGs X es t) (hn : (assignEach es X.env).length = n := by rfl) (hK : X.K = K := by rfl) (hst : (assignEach es X.env).findIdx? (·.1) = none := by rfl) : PG X (.Tuple es k pos) (gTup K n t) := by subst hK; exact pg_tup hc h hn hst
end
theorem kb_int_int : kitB "int" "int" = some true := by decide +kernel
theorem kb_int_bool : kitB "int" "bool" = some false := by decide +kernel
theorem kb_bool_int : kitB "bool" "int" = some true := by decide +kernel
theorem kb_bool_bool : kitB "bool" "bool" = some true := by decide +kernel
theorem kb_str_int : kitB "str" "int" = some false := by decide +kernel
theorem kb_str_bool : kitB "str" "bool" = some false := by decide +kernel
theorem kb_non_int : kitB "NoneType" "int" = some false := by decide +kernel
theorem kb_non_bool : kitB "NoneType" "bool" = some false := by decide +kernel
theorem kb_list_int : kitB "list" "int" = some false := by decide +kernel
theorem kb_list_bool : kitB "list" "bool" = some false := by decide +kernel
theorem kb_tup_int : kitB "tuple" "int" = some false := by decide +kernel
theorem kb_tup_bool : kitB "tuple" "bool" = some false := by decide +kernel
theorem kb_tup_tup : kitB "tuple" "tuple" = some true := by decide +kernel
theorem kb_list_tup : kitB "list" "tuple" = some false := by decide +kernel
theorem kb_int_tup : kitB "int" "tuple" = some false := by decide +kernel
theorem kb_bool_tup : kitB "bool" "tuple" = some false := by decide +kernel
theorem kb_str_tup : kitB "str" "tuple" = some false := by decide +kernel
theorem kb_non_tup : kitB "NoneType" "tuple" = some false := by decide +kernel
theorem kb_str_str : kitB "str" "str" = some true := by decide +kernel
theorem kb_int_str : kitB "int" "str" = some false := by decide +kernel
theorem kb_bool_str : kitB "bool" "str" = some false := by decide +kernel
theorem kb_non_str : kitB "NoneType" "str" = some false := by decide +kernel
theorem kb_list_str : kitB "list" "str" = some false := by decide +kernel
theorem kb_tup_str : kitB "tuple" "str" = some false := by decide +kernel
theorem iff_t {c : Bool} {A B : Prop} (hc : c = true) (h : A) : if c = true then A else B := by rw [if_pos hc]; exact h
theorem iff_f {c : Bool} {A B : Prop} (hc : c = false) (h : B) : if c = true then A else B := by rw [hc]; exact h
theorem iff_b {c : Bool} {A B : Prop} (ht : c = true → A) (hf : c = false → B) : if c = true then A else B := by
  cases c with
  | true => exact ht rfl
  | false => exact hf rfl
theorem dI_eq {i j : Int} : decide (V.int i = V.int j) = decide (i = j) := by simp
/-- any(..), all(..) and so on: a built-in by its name -/
theorem zb {id : String} {r : List V → Hp → VK → Prop} {e : Expr} {es : List Expr} {t : TA} {p : Pos} (hc : CallR X (.builtin id) r) (hg : Gl X x) (hm : X.mg x = none) (ha : PA X (e :: es) t) (hv : bootBuiltins x = some (.builtin id) := by decide +kernel)
    (hn : x ≠ "__name__" := by decide) (hdb : (x == ("__debug__" : Str)) = false := by decide) (he : starEach (e :: es) X.env = (false, eval e X.env) :: starEach es X.env := by rfl) (hpl : (backTo pos (starEach es X.env)).any (·.1) = false := by rfl) :
    PE X (.Call (.Name x p) (e :: es) [] pos) (tCB r t) := pe_callB hc hg hm hv ha hn hdb he hpl
theorem zt {id : String} {r : List V → Hp → VK → Prop} {e : Expr} {es : List Expr} {t : TA} {p : Pos} (hc : CallR X (.type id) r) (hg : Gl X x) (hm : X.mg x = none) (ha : PA X (e :: es) t) (hv : bootBuiltins x = some (.type id) := by decide +kernel)
    (hn : x ≠ "__name__" := by decide) (hdb : (x == ("__debug__" : Str)) = false := by decide) (he : starEach (e :: es) X.env = (false, eval e X.env) :: starEach es X.env := by rfl) (hpl : (backTo pos (starEach es X.env)).any (·.1) = false := by rfl) :
    PE X (.Call (.Name x p) (e :: es) [] pos) (tCB r t) := pe_callTy hc hg hm hv ha hn hdb he hpl
end
end TT
namespace TT
abbrev Tr : Type := List (Nat × Nat)
/-- each track has a cut of its own -/
def Cut (E : Tr) : Prop := ∀ i, i < E.length → ∃ χ : Nat → Bool, ∀ (j : Nat) (e : Nat × Nat), E[j]? = some e → ((χ e.1 ≠ χ e.2) ↔ j = i)
/-- what is alike along all tracks is alike everywhere -/
def Conn (n : Nat) (E : Tr) : Prop := ∀ χ : Nat → Bool, (∀ e ∈ E, χ e.1 = χ e.2) → ∀ x y, x < n → y < n → χ x = χ y
structure Tree (n : Nat) (E : Tr) : Prop where
  len : E.length + 1 = n
  most : n ≤ 100
  rng : ∀ e ∈ E, e.1 < n ∧ e.2 < n
  cut : Cut E
  conn : Conn n E
theorem Tree.ne {n : Nat} {E : Tr} (t : Tree n E) {e : Nat × Nat} (h : e ∈ E) : e.1 ≠ e.2 := by
  obtain ⟨i, hi, rfl⟩ := List.mem_iff_getElem.mp h
  obtain ⟨χ, hχ⟩ := t.cut i hi
  intro z
  have := (hχ i _ (List.getElem?_eq_getElem hi)).mpr rfl
  rw [z] at this
  exact this rfl
def Adj (E : Tr) (x y : Nat) : Prop := (x, y) ∈ E ∨ (y, x) ∈ E
/-- after i tracks: stations of one group are alike in every colouring that is alike along these tracks -/
def GrpOk (E : Tr) (i : Nat) (n : Nat) (g : List Nat) : Prop := g.length = n ∧ ∀ χ : Nat → Bool, (∀ j e, j < i → E[j]? = some e → χ e.1 = χ e.2) → ∀ x y a, g[x]? = some a → g[y]? = some a → χ x = χ y
theorem grp_start (E : Tr) (n : Nat) : GrpOk E 0 n (List.range n) := by
  refine ⟨List.length_range, fun χ _ x y a hx hy => ?_⟩
  rw [List.getElem?_range (by
    have := (List.getElem?_eq_some_iff.mp hx).1
    simpa using this)] at hx
  rw [List.getElem?_range (by
    have := (List.getElem?_eq_some_iff.mp hy).1
    simpa using this)] at hy
  obtain rfl := Option.some.inj hx
  obtain rfl := Option.some.inj hy
  rfl
theorem grp_ne {E : Tr} {n i : Nat} {g : List Nat} {e : Nat × Nat} {a b : Nat} (hc : Cut E) (h : GrpOk E i n g) (he : E[i]? = some e) (ha : g[e.1]? = some a) (hb : g[e.2]? = some b) : a ≠ b := by
  rintro rfl
  obtain ⟨χ, hχ⟩ := hc i (List.getElem?_eq_some_iff.mp he).1
  have := h.2 χ (fun j e' hj he' => by
    have := (hχ j e' he')
    by_cases z : χ e'.1 = χ e'.2
    · exact z
    · exact absurd (this.mp z) (Nat.ne_of_lt hj)) e.1 e.2 a ha hb
  exact (hχ i e he).mpr rfl this
theorem grp_step {E : Tr} {n i : Nat} {g : List Nat} {e : Nat × Nat} {a b : Nat} (h : GrpOk E i n g) (he : E[i]? = some e) (ha : g[e.1]? = some a) (hb : g[e.2]? = some b) :
    GrpOk E (i + 1) n (g.map fun one => if one = b then a else one) := by
  refine ⟨by rw [List.length_map]; exact h.1, fun χ hχ x y c hx hy => ?_⟩
  have hχ' : ∀ j e, j < i → E[j]? = some e → χ e.1 = χ e.2 := fun j e' hj he' => hχ j e' (Nat.lt_succ_of_lt hj) he'
  have hab : χ e.1 = χ e.2 := hχ i e (Nat.lt_succ_self i) he
  rw [List.getElem?_map] at hx hy
  cases gx : g[x]? with
  | none => rw [gx] at hx; cases hx
  | some p =>
    cases gy : g[y]? with
    | none => rw [gy] at hy; cases hy
    | some q =>
      rw [gx] at hx
      rw [gy] at hy
      have hx' : (if p = b then a else p) = c := Option.some.inj hx
      have hy' : (if q = b then a else q) = c := Option.some.inj hy
      have key : ∀ z r, g[z]? = some r → (if r = b then a else r) = a → χ z = χ e.1 := fun z r hz hr => by
        by_cases hrb : r = b
        · subst hrb
          rw [hab]
          exact h.2 χ hχ' _ _ _ hz hb
        · rw [if_neg hrb] at hr
          subst hr
          exact h.2 χ hχ' _ _ _ hz ha
      by_cases hp : (if p = b then a else p) = a
      · rw [key x p gx hp, key y q gy (by rw [hy', ← hx', hp])]
      · have hq : ¬ (if q = b then a else q) = a := by rw [hy', ← hx']; exact hp
        have hpb : p ≠ b := fun z => hp (by rw [if_pos z])
        have hqb : q ≠ b := fun z => hq (by rw [if_pos z])
        rw [if_neg hpb] at hx'
        rw [if_neg hqb] at hy'
        subst hx'
        subst hy'
        exact h.2 χ hχ' _ _ _ gx gy
end TT
namespace TT
theorem getD_set_ne {l : List Nat} {i j v d : Nat} (h : i ≠ j) : (l.set i v).getD j d = l.getD j d := by
  simp [List.getD_eq_getElem?_getD, List.getElem?_set, h]
theorem getD_set_eq {l : List Nat} {i v d : Nat} (h : i < l.length) : (l.set i v).getD i d = v := by
  simp [List.getD_eq_getElem?_getD, List.getElem?_set, h]
theorem nodup_lt : ∀ (n : Nat) (l : List Nat), l.Nodup → (∀ x ∈ l, x < n) → l.length ≤ n
  | 0, l, _, h => by
    cases l with
    | nil => simp
    | cons x l => exact absurd (h x (by simp)) (by omega)
  | n + 1, l, nd, h => by
    have h1 := nodup_lt n (l.erase n) (nd.erase n) (fun x hx => by
      have := h x (List.mem_of_mem_erase hx)
      have hn : x ≠ n := fun z => by
        rw [z] at hx
        exact (List.Nodup.not_mem_erase nd) hx
      omega)
    have h2 := List.length_erase (a := n) (l := l)
    split at h2 <;> omega
/-- the stations P are done, those of W wait; s is being done, its first neighbours ds looked at -/
structure Wk (n : Nat) (E : Tr) (r : Nat) (P W : List Nat) (fs bs : List Nat) : Prop where
  fl : fs.length = n
  bl : bs.length = n
  rg : ∀ x ∈ P ++ W, x < n
  nd : (P ++ W).Nodup
  root : r ∈ P ++ W
  r0 : fs.getD r 0 = 0
  rb : bs.getD r 0 = r
  up : ∀ x ∈ P ++ W, x ≠ r → bs.getD x 0 ∈ P ∧ Adj E x (bs.getD x 0) ∧ fs.getD x 0 = fs.getD (bs.getD x 0) 0 + 1
def Done (E : Tr) (P W : List Nat) (bs : List Nat) (x : Nat) : Prop := ∀ y, Adj E x y → y = bs.getD x 0 ∨ (y ∈ P ++ W ∧ bs.getD y 0 = x)
/-- at the head of the loop -/
structure WkO (n : Nat) (E : Tr) (r : Nat) (P W : List Nat) (fs bs : List Nat) : Prop extends Wk n E r P W fs bs where
  dn : ∀ x ∈ P, Done E P W bs x
/-- within: s is the last one of P -/
structure WkI (n : Nat) (E : Tr) (r : Nat) (P : List Nat) (s : Nat) (W : List Nat) (ds : List Nat) (fs bs : List Nat) : Prop extends Wk n E r (s :: P) W fs bs where
  dn : ∀ x ∈ P, Done E (s :: P) W bs x
  ch : ∀ y ∈ s :: P ++ W, y ≠ r → bs.getD y 0 = s → y ∈ ds
  dd : ∀ y ∈ ds, y = bs.getD s 0 ∨ (y ∈ s :: P ++ W ∧ bs.getD y 0 = s)
structure Far (n : Nat) (E : Tr) (r : Nat) (fs bs : List Nat) : Prop where
  fl : fs.length = n
  bl : bs.length = n
  r0 : fs.getD r 0 = 0
  rb : bs.getD r 0 = r
  up : ∀ x, x < n → x ≠ r → bs.getD x 0 < n ∧ Adj E x (bs.getD x 0) ∧ fs.getD x 0 = fs.getD (bs.getD x 0) 0 + 1
theorem adj_ix {E : Tr} {x y : Nat} (h : Adj E x y) : ∃ (i : Nat) (e : Nat × Nat), E[i]? = some e ∧ (e = (x, y) ∨ e = (y, x)) := by
  rcases h with h | h
  · obtain ⟨i, hi, e⟩ := List.mem_iff_getElem.mp h
    exact ⟨i, _, List.getElem?_eq_getElem hi, .inl e⟩
  · obtain ⟨i, hi, e⟩ := List.mem_iff_getElem.mp h
    exact ⟨i, _, List.getElem?_eq_getElem hi, .inr e⟩
section
variable {n : Nat} {E : Tr} {r s : Nat} {P W ds fs bs : List Nat}
theorem wk_start (hr : r < n) : WkO n E r [] [r] (List.replicate n 0) (List.replicate n r) where
  fl := List.length_replicate
  bl := List.length_replicate
  rg := fun x hx => by
    have : x = r := by simpa using hx
    rw [this]; exact hr
  nd := by simp
  root := by simp
  r0 := by simp [List.getD_eq_getElem?_getD, List.getElem?_replicate, hr]
  rb := by simp [List.getD_eq_getElem?_getD, List.getElem?_replicate, hr]
  up := fun x hx hn => absurd (by simpa using hx) hn
  dn := fun x hx => by cases hx
theorem wk_pop (h : WkO n E r P (W ++ [s]) fs bs) : WkI n E r P s W [] fs bs where
  fl := h.fl
  bl := h.bl
  rg := fun x hx => h.rg x (by simp at hx ⊢; rcases hx with z | z | z <;> simp [z])
  nd := by
    have := h.nd
    rw [List.cons_append, List.nodup_cons]
    rw [← List.append_assoc, List.nodup_append] at this
    obtain ⟨h1, _, h3⟩ := this
    exact ⟨fun z => h3 s z s (by simp) rfl, h1⟩
  root := by
    have := h.root
    simp at this ⊢
    rcases this with z | z | z <;> simp [z]
  r0 := h.r0
  rb := h.rb
  up := fun x hx hn => by
    have hx' : x ∈ P ++ (W ++ [s]) := by simp at hx ⊢; rcases hx with z | z | z <;> simp [z]
    obtain ⟨a, b⟩ := h.up x hx' hn
    exact ⟨List.mem_cons_of_mem _ a, b⟩
  dn := fun x hx y hy => by
    rcases h.dn x hx y hy with z | ⟨z, w⟩
    · exact .inl z
    · exact .inr ⟨by simp at z ⊢; rcases z with z | z | z <;> simp [z], w⟩
  ch := fun y hy hn e => by
    exfalso
    have hy' : y ∈ P ++ (W ++ [s]) := by simp at hy ⊢; rcases hy with z | z | z <;> simp [z]
    have hsP := (h.up y hy' hn).1
    rw [e] at hsP
    have := h.nd
    rw [List.nodup_append] at this
    exact this.2.2 s hsP s (by simp) rfl
  dd := fun y hy => by cases hy
theorem wk_same (h : WkI n E r P s W ds fs bs) {o : Nat} (ho : o = bs.getD s 0) : WkI n E r P s W (ds ++ [o]) fs bs where
  toWk := h.toWk
  dn := h.dn
  ch := fun y hy hn e => List.mem_append_left _ (h.ch y hy hn e)
  dd := fun y hy => by
    rcases List.mem_append.mp hy with z | z
    · exact h.dd y z
    · have : y = o := by simpa using z
      rw [this]; exact .inl ho
/-- a neighbour other than the one behind is new -/
theorem wk_new (hc : Cut E) (h : WkI n E r P s W ds fs bs) {o : Nat} (ha : Adj E s o) (ho : o ≠ bs.getD s 0) (hd : o ∉ ds) : o ∉ s :: P ++ W := by
  intro hm
  obtain ⟨i, e, hi, he⟩ := adj_ix ha
  obtain ⟨χ, hχ⟩ := hc i (List.getElem?_eq_some_iff.mp hi).1
  have sep : χ s ≠ χ o := by
    have := (hχ i e hi).mpr rfl
    rcases he with he | he <;> rw [he] at this
    · exact this
    · exact fun z => this z.symm
  have key : ∀ k x, fs.getD x 0 = k → x ∈ s :: P ++ W → χ x = χ r := by
    intro k
    induction k using Nat.strongRecOn with
    | ind k ih =>
      intro x hk hx
      by_cases hxr : x = r
      · rw [hxr]
      · obtain ⟨hb, hab, hf⟩ := h.up x hx hxr
        obtain ⟨j, e', hj, he'⟩ := adj_ix hab
        have hne : j ≠ i := by
          rintro rfl
          rw [hi] at hj
          obtain rfl := Option.some.inj hj
          have hcase : (x = s ∧ bs.getD x 0 = o) ∨ (x = o ∧ bs.getD x 0 = s) := by
            rcases he with he | he <;> rcases he' with he' | he' <;> rw [he] at he' <;> injection he' with h1 h2
            · exact .inl ⟨h1.symm, h2.symm⟩
            · exact .inr ⟨h2.symm, h1.symm⟩
            · exact .inr ⟨h1.symm, h2.symm⟩
            · exact .inl ⟨h2.symm, h1.symm⟩
          rcases hcase with ⟨h1, h2⟩ | ⟨h1, h2⟩
          · rw [h1] at h2; exact ho h2.symm
          · have := h.ch x hx hxr h2
            rw [h1] at this
            exact hd this
        have hcol : χ x = χ (bs.getD x 0) := by
          have := hχ j e' hj
          by_cases z : χ e'.1 = χ e'.2
          · rcases he' with he' | he' <;> rw [he'] at z
            · exact z
            · exact z.symm
          · exact absurd (this.mp z) hne
        rw [hcol]
        exact ih (fs.getD (bs.getD x 0) 0) (by omega) _ rfl (List.mem_append_left _ hb)
  exact sep ((key _ s rfl (by simp)).trans (key _ o rfl hm).symm)
theorem wk_push (hc : Cut E) (h : WkI n E r P s W ds fs bs) {o : Nat} (ha : Adj E s o) (ho : o ≠ bs.getD s 0) (hd : o ∉ ds) (hn : o < n) :
    WkI n E r P s (W ++ [o]) (ds ++ [o]) (fs.set o (fs.getD s 0 + 1)) (bs.set o s) := by
  have hnew := wk_new hc h ha ho hd
  have hs : s ∈ s :: P ++ W := by simp
  have hof : o < fs.length := by rw [h.fl]; exact hn
  have hob : o < bs.length := by rw [h.bl]; exact hn
  have old : ∀ x, x ∈ s :: P ++ W → o ≠ x := fun x hx z => hnew (z ▸ hx)
  have hmem : ∀ x, x ∈ s :: P ++ (W ++ [o]) ↔ x ∈ s :: P ++ W ∨ x = o := fun x => by simp [or_assoc]
  refine ⟨⟨by rw [List.length_set]; exact h.fl, by rw [List.length_set]; exact h.bl, fun x hx => ?_, ?_, ?_, ?_, ?_, fun x hx hxr => ?_⟩, fun x hx y hy => ?_, fun y hy hyr e => ?_, fun y hy => ?_⟩
  · rcases (hmem x).mp hx with z | z
    · exact h.rg x z
    · rw [z]; exact hn
  · rw [← List.append_assoc, List.nodup_append]
    refine ⟨h.nd, by simp, fun a ha' b hb => ?_⟩
    have : b = o := by simpa using hb
    rw [this]
    exact fun z => old a ha' z.symm
  · exact (hmem r).mpr (.inl h.root)
  · rw [getD_set_ne (old r h.root)]; exact h.r0
  · rw [getD_set_ne (old r h.root)]; exact h.rb
  · rcases (hmem x).mp hx with z | z
    · obtain ⟨h1, h2, h3⟩ := h.up x z hxr
      rw [getD_set_ne (old x z), getD_set_ne (old x z), getD_set_ne (old _ (List.mem_append_left _ h1))]
      exact ⟨h1, h2, h3⟩
    · rw [z, getD_set_eq hob, getD_set_eq hof, getD_set_ne (old s hs)]
      exact ⟨by simp, by rcases ha with ha | ha; exact .inr ha; exact .inl ha, rfl⟩
  · rcases h.dn x hx y hy with z | ⟨z, w⟩
    · rw [getD_set_ne (old x (by simp [hx]))]; exact .inl z
    · rw [getD_set_ne (old y z)]; exact .inr ⟨(hmem y).mpr (.inl z), w⟩
  · rcases (hmem y).mp hy with z | z
    · rw [getD_set_ne (old y z)] at e
      exact List.mem_append_left _ (h.ch y z hyr e)
    · rw [z]; simp
  · rcases List.mem_append.mp hy with z | z
    · rw [getD_set_ne (old s hs)]
      rcases h.dd y z with z | ⟨z, w⟩
      · exact .inl z
      · exact .inr ⟨(hmem y).mpr (.inl z), by rw [getD_set_ne (old y z)]; exact w⟩
    · have : y = o := by simpa using z
      rw [this]
      exact .inr ⟨(hmem o).mpr (.inr rfl), getD_set_eq hob⟩
theorem wk_out (h : WkI n E r P s W ds fs bs) (hall : ∀ y, Adj E s y → y ∈ ds) : WkO n E r (s :: P) W fs bs where
  toWk := h.toWk
  dn := fun x hx => by
    rcases List.mem_cons.mp hx with z | z
    · rw [z]; exact fun y hy => h.dd y (hall y hy)
    · exact h.dn x z
theorem wk_few (h : WkO n E r P W fs bs) : P.length + W.length ≤ n := by
  have := nodup_lt n (P ++ W) h.nd h.rg
  simpa using this
theorem wk_end (hn : Conn n E) (hr : r < n) (h : WkO n E r P [] fs bs) : Far n E r fs bs := by
  have hall : ∀ x, x < n → x ∈ P := by
    have cl : ∀ x y, x ∈ P → Adj E x y → y ∈ P := fun x y hx hy => by
      rcases h.dn x hx y hy with z | ⟨z, _⟩
      · by_cases hxr : x = r
        · subst hxr
          rw [h.rb] at z
          rw [z]; exact hx
        · rw [z]; exact (h.up x (by simpa using hx) hxr).1
      · simpa using z
    intro x hx
    have := hn (fun z => decide (z ∈ P)) (fun e he => by
      by_cases h1 : e.1 ∈ P
      · have := cl e.1 e.2 h1 (.inl he)
        simp [h1, this]
      · by_cases h2 : e.2 ∈ P
        · exact absurd (cl e.2 e.1 h2 (.inr he)) h1
        · simp [h1, h2]) x r hx hr
    have hrP : r ∈ P := by simpa using h.root
    simpa [hrP] using this
  refine ⟨h.fl, h.bl, h.r0, h.rb, fun x hx hxr => ?_⟩
  obtain ⟨h1, h2, h3⟩ := h.up x (by simpa using hall x hx) hxr
  exact ⟨h.rg _ (by simpa using h1), h2, h3⟩
end
end TT
namespace TT
def joins (e : Nat × Nat) (x y : Nat) : Prop := e = (x, y) ∨ e = (y, x)
theorem Tree.apart {n : Nat} {E : Tr} (t : Tree n E) : E.Pairwise fun e e' => ∀ x y, joins e x y → ¬ joins e' x y := by
  rw [List.pairwise_iff_getElem]
  intro i j hi hj hij x y h1 h2
  obtain ⟨χ, hχ⟩ := t.cut i hi
  have a := (hχ i _ (List.getElem?_eq_getElem hi)).mpr rfl
  have b : χ x ≠ χ y := by
    rcases h1 with h1 | h1 <;> rw [h1] at a
    · exact a
    · exact fun z => a z.symm
  have c := (hχ j _ (List.getElem?_eq_getElem hj)).mp (by
    rcases h2 with h2 | h2 <;> rw [h2]
    · exact b
    · exact fun z => b z.symm)
  omega
def nbr (E : Tr) (v : Nat) : List Nat := E.filterMap fun e => if e.1 = v then some e.2 else if e.2 = v then some e.1 else none
def leN (a b : Nat) : Bool := decide (a ≤ b)
def row (E : Tr) (v : Nat) : List Nat := (nbr E v).mergeSort leN
def linksOf (n : Nat) (E : Tr) : List (List Nat) := (List.range n).map (row E)
theorem leN_total (a b : Nat) : (leN a b || leN b a) = true := by
  unfold leN
  rcases Nat.le_total a b with h | h <;> simp [h]
theorem leN_trans (a b c : Nat) (h1 : leN a b = true) (h2 : leN b c = true) : leN a c = true := by
  unfold leN at *
  simp at *
  omega
section
variable {n : Nat} {E : Tr} {v y : Nat}
theorem mem_nbr (hn : ∀ e ∈ E, e.1 ≠ e.2) : y ∈ nbr E v ↔ Adj E v y := by
  unfold nbr Adj
  rw [List.mem_filterMap]
  constructor
  · rintro ⟨e, he, h⟩
    obtain ⟨a, b⟩ := e
    by_cases h1 : a = v
    · simp only [h1, if_true] at h
      obtain rfl := Option.some.inj h
      subst h1
      exact .inl he
    · simp only [h1, if_false] at h
      by_cases h2 : b = v
      · simp only [h2, if_true] at h
        obtain rfl := Option.some.inj h
        subst h2
        exact .inr he
      · simp only [h2, if_false] at h
        cases h
  · rintro (h | h)
    · exact ⟨_, h, by simp⟩
    · refine ⟨_, h, ?_⟩
      have := hn _ h
      simp only at this
      simp [this]
theorem mem_row (hn : ∀ e ∈ E, e.1 ≠ e.2) : y ∈ row E v ↔ Adj E v y := by
  unfold row
  rw [(List.mergeSort_perm _ _).mem_iff, mem_nbr hn]
theorem nbr_nodup (t : Tree n E) : (nbr E v).Nodup := by
  unfold nbr
  rw [List.Nodup, List.pairwise_filterMap]
  refine t.apart.imp ?_
  intro e e' h a ha b hb hab
  subst hab
  have j1 : ∀ (e : Nat × Nat), (if e.1 = v then some e.2 else if e.2 = v then some e.1 else none) = some a → joins e v a := by
    rintro ⟨p, q⟩ h
    by_cases h1 : p = v
    · simp only [h1, if_true] at h
      obtain rfl := Option.some.inj h
      exact .inl (by rw [h1])
    · simp only [h1, if_false] at h
      by_cases h2 : q = v
      · simp only [h2, if_true] at h
        obtain rfl := Option.some.inj h
        exact .inr (by rw [h2])
      · simp only [h2, if_false] at h
        cases h
  exact h v a (j1 e ha) (j1 e' hb)
theorem row_nodup (t : Tree n E) : (row E v).Nodup := (List.mergeSort_perm _ _).nodup_iff.mpr (nbr_nodup t)
theorem row_sorted : (row E v).Pairwise fun a b => a ≤ b := by
  have := List.pairwise_mergeSort leN_trans leN_total (nbr E v)
  exact this.imp fun h => by simpa [leN] using h
theorem row_strict (t : Tree n E) : (row E v).Pairwise fun a b => a < b := by
  have h1 := row_sorted (E := E) (v := v)
  have h2 : (row E v).Pairwise (fun a b => a ≠ b) := row_nodup t
  exact (h1.and h2).imp fun h => by omega
theorem row_lt (t : Tree n E) (h : y ∈ row E v) : y < n := by
  rcases (mem_row fun e he => t.ne he).mp h with h | h
  · exact (t.rng _ h).2
  · exact (t.rng _ h).1
end
def leP (a b : Nat × Nat) : Bool := decide (a.1 < b.1 ∨ (a.1 = b.1 ∧ a.2 ≤ b.2))
def ltP (a b : Nat × Nat) : Prop := a.1 < b.1 ∨ (a.1 = b.1 ∧ a.2 < b.2)
theorem leP_total (a b : Nat × Nat) : (leP a b || leP b a) = true := by
  unfold leP
  simp only [Bool.or_eq_true, decide_eq_true_eq]
  omega
theorem leP_trans (a b c : Nat × Nat) (h1 : leP a b = true) (h2 : leP b c = true) : leP a c = true := by
  unfold leP at *
  simp only [decide_eq_true_eq] at *
  omega
theorem ltP_of {a b : Nat × Nat} (h : leP a b = true) (hn : a ≠ b) : ltP a b := by
  unfold leP at h
  unfold ltP
  simp only [decide_eq_true_eq] at h
  by_cases h2 : a.1 = b.1 ∧ a.2 = b.2
  · exact absurd (Prod.ext h2.1 h2.2) hn
  · omega
theorem strict_ext : ∀ {l m : List (Nat × Nat)}, l.Pairwise ltP → m.Pairwise ltP → (∀ x, x ∈ l ↔ x ∈ m) → l = m
  | [], [], _, _, _ => rfl
  | [], b :: m, _, _, h => absurd ((h b).mpr (by simp)) (by simp)
  | a :: l, [], _, _, h => absurd ((h a).mp (by simp)) (by simp)
  | a :: l, b :: m, hl, hm, h => by
    rw [List.pairwise_cons] at hl hm
    have asym : ∀ {x y : Nat × Nat}, ltP x y → ltP y x → False := fun {x y} h1 h2 => by unfold ltP at h1 h2; omega
    have irr : ∀ {x : Nat × Nat}, ltP x x → False := fun {x} h1 => by unfold ltP at h1; omega
    have e : a = b := by
      rcases List.mem_cons.mp ((h a).mp (by simp)) with z | z
      · exact z
      · rcases List.mem_cons.mp ((h b).mpr (by simp)) with w | w
        · exact w.symm
        · exact (asym (hl.1 _ w) (hm.1 _ z)).elim
    subst e
    rw [strict_ext hl.2 hm.2 fun x => ?_]
    constructor
    · intro hx
      rcases List.mem_cons.mp ((h x).mp (List.mem_cons_of_mem _ hx)) with z | z
      · subst z; exact (irr (hl.1 _ hx)).elim
      · exact z
    · intro hx
      rcases List.mem_cons.mp ((h x).mpr (List.mem_cons_of_mem _ hx)) with z | z
      · subst z; exact (irr (hm.1 _ hx)).elim
      · exact z
def norm (e : Nat × Nat) : Nat × Nat := if e.1 ≤ e.2 then e else (e.2, e.1)
def normed (E : Tr) : Tr := (E.map norm).mergeSort leP
def tracksOf (n : Nat) (E : Tr) : Tr := (List.range n).flatMap fun v => ((row E v).filter fun y => decide (v < y)).map fun y => (v, y)
theorem norm_cases (e : Nat × Nat) : norm e = e ∨ norm e = (e.2, e.1) := by
  unfold norm
  by_cases h : e.1 ≤ e.2
  · rw [if_pos h]; exact .inl rfl
  · rw [if_neg h]; exact .inr rfl
theorem norm_joins {e : Nat × Nat} : joins e (norm e).1 (norm e).2 := by
  rcases norm_cases e with h | h
  · rw [h]; exact .inl rfl
  · rw [h]; exact .inr rfl
section
variable {n : Nat} {E : Tr}
theorem mem_tracksOf (t : Tree n E) {a b : Nat} : (a, b) ∈ tracksOf n E ↔ a < b ∧ Adj E a b := by
  unfold tracksOf
  simp only [List.mem_flatMap, List.mem_range, List.mem_map, List.mem_filter, decide_eq_true_eq]
  constructor
  · rintro ⟨v, hv, y, ⟨hy, hlt⟩, e⟩
    injection e with e1 e2
    subst e1 e2
    exact ⟨hlt, (mem_row fun e he => t.ne he).mp hy⟩
  · rintro ⟨hlt, ha⟩
    have han : a < n := by
      rcases ha with h | h
      · exact (t.rng _ h).1
      · exact (t.rng _ h).2
    exact ⟨a, han, b, ⟨(mem_row fun e he => t.ne he).mpr ha, hlt⟩, rfl⟩
theorem tracksOf_strict (t : Tree n E) : (tracksOf n E).Pairwise ltP := by
  unfold tracksOf
  rw [List.pairwise_flatMap]
  refine ⟨fun v _ => ?_, ?_⟩
  · rw [List.pairwise_map]
    exact ((row_strict t).filter _).imp fun h => .inr ⟨rfl, h⟩
  · refine (List.pairwise_lt_range (n := n)).imp ?_
    intro v v' h a ha b hb
    obtain ⟨y, _, rfl⟩ := List.mem_map.mp ha
    obtain ⟨y', _, rfl⟩ := List.mem_map.mp hb
    exact .inl h
theorem norm_nodup (t : Tree n E) : (E.map norm).Nodup := by
  rw [List.Nodup, List.pairwise_map]
  refine t.apart.imp ?_
  intro e e' h z
  exact h _ _ norm_joins (by rw [z]; exact norm_joins)
theorem normed_strict (hn : (E.map norm).Nodup) : (normed E).Pairwise ltP := by
  have h1 := List.pairwise_mergeSort leP_trans leP_total (E.map norm)
  have h2 : (normed E).Pairwise (fun a b => a ≠ b) := (List.mergeSort_perm _ _).nodup_iff.mpr hn
  exact (h1.and h2).imp fun h => ltP_of h.1 h.2
theorem mem_normed {e : Nat × Nat} : e ∈ normed E ↔ ∃ d ∈ E, norm d = e := by
  unfold normed
  rw [(List.mergeSort_perm _ _).mem_iff, List.mem_map]
theorem tracks_normed (t : Tree n E) : tracksOf n E = normed E := by
  refine strict_ext (tracksOf_strict t) (normed_strict (norm_nodup t)) fun x => ?_
  obtain ⟨a, b⟩ := x
  rw [mem_tracksOf t, mem_normed]
  constructor
  · rintro ⟨hlt, h | h⟩
    · exact ⟨_, h, by unfold norm; rw [if_pos (Nat.le_of_lt hlt)]⟩
    · exact ⟨_, h, by unfold norm; rw [if_neg (by simp; exact hlt)]⟩
  · rintro ⟨d, hd, he⟩
    have hne := t.ne hd
    obtain ⟨p, q⟩ := d
    unfold norm at he
    simp only at he hne
    by_cases h : p ≤ q
    · rw [if_pos h] at he
      injection he with h1 h2
      subst h1 h2
      exact ⟨by omega, .inl hd⟩
    · rw [if_neg h] at he
      injection he with h1 h2
      subst h1 h2
      exact ⟨by omega, .inr hd⟩
/-- sorted lists of the same tracks are one -/
theorem normed_ext {E E' : Tr} (h1 : (E.map norm).Nodup) (h2 : (E'.map norm).Nodup) (h : ∀ x, x ∈ E.map norm ↔ x ∈ E'.map norm) : normed E = normed E' :=
  strict_ext (normed_strict h1) (normed_strict h2) fun x => by
    unfold normed
    rw [(List.mergeSort_perm _ _).mem_iff, (List.mergeSort_perm _ _).mem_iff]
    exact h x
end
/-- a cut by what stands in the list -/
theorem cut_iff {E : Tr} : Cut E ↔ E.Nodup ∧ ∀ e ∈ E, ∃ χ : Nat → Bool, ∀ d ∈ E, (χ d.1 ≠ χ d.2) ↔ d = e := by
  constructor
  · intro h
    have nd : E.Nodup := by
      rw [List.Nodup, List.pairwise_iff_getElem]
      intro i j hi hj hij z
      obtain ⟨χ, hχ⟩ := h i hi
      have a := (hχ i _ (List.getElem?_eq_getElem hi)).mpr rfl
      rw [z] at a
      have := (hχ j _ (List.getElem?_eq_getElem hj)).mp a
      omega
    refine ⟨nd, fun e he => ?_⟩
    obtain ⟨i, hi, rfl⟩ := List.mem_iff_getElem.mp he
    obtain ⟨χ, hχ⟩ := h i hi
    refine ⟨χ, fun d hd => ?_⟩
    obtain ⟨j, hj, rfl⟩ := List.mem_iff_getElem.mp hd
    rw [hχ j _ (List.getElem?_eq_getElem hj)]
    constructor
    · rintro rfl; rfl
    · intro z; exact (List.getElem_inj nd).mp z
  · rintro ⟨nd, h⟩ i hi
    obtain ⟨χ, hχ⟩ := h _ (List.getElem_mem hi)
    refine ⟨χ, fun j e he => ?_⟩
    obtain ⟨hj, rfl⟩ := List.getElem?_eq_some_iff.mp he
    rw [hχ _ (List.getElem_mem hj)]
    exact List.getElem_inj nd
theorem Cut.perm {E E' : Tr} (h : Cut E) (p : E.Perm E') : Cut E' := by
  rw [cut_iff] at *
  refine ⟨p.nodup_iff.mp h.1, fun e he => ?_⟩
  obtain ⟨χ, hχ⟩ := h.2 e (p.mem_iff.mpr he)
  exact ⟨χ, fun d hd => hχ d (p.mem_iff.mpr hd)⟩
theorem Tree.perm {n : Nat} {E E' : Tr} (t : Tree n E) (p : E.Perm E') : Tree n E' :=
  ⟨by rw [← p.length_eq]; exact t.len, t.most, fun e he => t.rng e (p.mem_iff.mpr he), t.cut.perm p, fun χ h => t.conn χ fun e he => h e (p.mem_iff.mp he)⟩
/-- the tracks, each one perhaps the other way round, the stations renamed by π (undone by ρ) -/
theorem Tree.map {n : Nat} {E : Tr} (t : Tree n E) (g : Nat × Nat → Nat × Nat) (π ρ : Nat → Nat) (hπ : ∀ x, x < n → π x < n ∧ ρ (π x) = x) (hρ : ∀ x, x < n → ρ x < n ∧ π (ρ x) = x)
    (hg : ∀ e ∈ E, g e = (π e.1, π e.2) ∨ g e = (π e.2, π e.1)) : Tree n (E.map g) := by
  refine ⟨by rw [List.length_map]; exact t.len, t.most, fun e he => ?_, fun i hi => ?_, fun χ h x y hx hy => ?_⟩
  · obtain ⟨d, hd, rfl⟩ := List.mem_map.mp he
    have := t.rng d hd
    rcases hg d hd with z | z <;> rw [z]
    · exact ⟨(hπ _ this.1).1, (hπ _ this.2).1⟩
    · exact ⟨(hπ _ this.2).1, (hπ _ this.1).1⟩
  · rw [List.length_map] at hi
    obtain ⟨χ, hχ⟩ := t.cut i hi
    refine ⟨fun z => χ (ρ z), fun j e he => ?_⟩
    rw [List.getElem?_map] at he
    obtain ⟨d, hd, rfl⟩ := Option.map_eq_some_iff.mp he
    have hm := List.mem_of_getElem? hd
    have hr := t.rng d hm
    rw [← hχ j d hd]
    rcases hg d hm with z | z <;> rw [z] <;> simp only [(hπ _ hr.1).2, (hπ _ hr.2).2]
    exact ⟨fun a b => a b.symm, fun a b => a b.symm⟩
  · have := t.conn (fun z => χ (π z)) (fun e he => by
      have := h (g e) (List.mem_map_of_mem he)
      rcases hg e he with z | z <;> rw [z] at this
      · exact this
      · exact this.symm) (ρ x) (ρ y) (hρ x hx).1 (hρ y hy).1
    simp only [(hρ x hx).2, (hρ y hy).2] at this
    exact this
theorem Tree.normed {n : Nat} {E : Tr} (t : Tree n E) : Tree n (normed E) :=
  (t.map norm id id (fun x h => ⟨h, rfl⟩) (fun x h => ⟨h, rfl⟩) fun e _ => norm_cases e).perm (List.mergeSort_perm _ _).symm
end TT
namespace TT
open PySem PySem.Spec PyProof.Rows L2
/-- can be compared: no dict, texts plain, depth at most k -/
def Shp (k : Nat) (d : PyData) : Prop := d.canLay0 = true ∧ d.depth ≤ k
def ShpA (k : Nat) (ds : List PyData) : Prop := PyData.canLayAll0 ds = true ∧ PyData.depthAll ds ≤ k
theorem shp_int {i : Int} {k : Nat} : Shp k (.int i) := ⟨rfl, Nat.zero_le _⟩
theorem shp_bool {i : Bool} {k : Nat} : Shp k (.bool i) := ⟨rfl, Nat.zero_le _⟩
theorem shp_none {k : Nat} : Shp k .none := ⟨rfl, Nat.zero_le _⟩
theorem shpA_nil {k : Nat} : ShpA k [] := ⟨rfl, Nat.zero_le _⟩
theorem shpA_cons {k : Nat} {d : PyData} {ds : List PyData} (h : Shp k d) (hs : ShpA k ds) : ShpA k (d :: ds) := by
  obtain ⟨h1, h2⟩ := h
  obtain ⟨h3, h4⟩ := hs
  refine ⟨by simp [PyData.canLayAll0, h1, h3], ?_⟩
  show max d.depth (PyData.depthAll ds) ≤ k
  omega
theorem shpA_map {α : Type} {k : Nat} {f : α → PyData} : ∀ {l : List α}, (∀ x ∈ l, Shp k (f x)) → ShpA k (l.map f)
  | [], _ => shpA_nil
  | x :: l, h => shpA_cons (h x (by simp)) (shpA_map fun y hy => h y (by simp [hy]))
theorem shp_list {k : Nat} {ds : List PyData} (h : ShpA k ds) : Shp (k + 1) (.list ds) := ⟨by simp only [PyData.canLay0]; exact h.1, Nat.succ_le_succ h.2⟩
theorem shp_tup {k : Nat} {ds : List PyData} (h : ShpA k ds) : Shp (k + 1) (.tuple ds) := ⟨by simp only [PyData.canLay0]; exact h.1, Nat.succ_le_succ h.2⟩
theorem Shp.mono {j k : Nat} {d : PyData} (h : Shp j d) (l : j ≤ k) : Shp k d := ⟨h.1, Nat.le_trans h.2 l⟩
theorem Shp.ok {k : Nat} {d : PyData} (h : Shp k d) (l : k ≤ 64) : SeqAt.shaped d = true := by
  unfold SeqAt.shaped
  simp [h.1, Nat.le_trans h.2 l]
theorem Shp.refl {k : Nat} {d : PyData} (h : Shp k d) : PyData.eqv d d = true := SeqAt.eqv_refl d h.1
/-- alike by ints -/
theorem eqv_ints : ∀ (l m : List Int), PyData.eqvAll (l.map PyData.int) (m.map PyData.int) = decide (l = m)
  | [], [] => by simp [PyData.eqvAll]
  | [], _ :: _ => by simp [PyData.eqvAll]
  | _ :: _, [] => by simp [PyData.eqvAll]
  | a :: l, b :: m => by
    simp only [List.map_cons, PyData.eqvAll, PyData.eqv, eqv_ints l m, List.cons.injEq]
    by_cases h : a = b <;> by_cases h2 : l = m <;> simp [h, h2]
theorem eqv_map {α : Type} [DecidableEq α] {f : α → PyData} (hf : ∀ a b, PyData.eqv (f a) (f b) = decide (a = b)) : ∀ (l m : List α), PyData.eqvAll (l.map f) (m.map f) = decide (l = m)
  | [], [] => by simp [PyData.eqvAll]
  | [], _ :: _ => by simp [PyData.eqvAll]
  | _ :: _, [] => by simp [PyData.eqvAll]
  | a :: l, b :: m => by
    simp only [List.map_cons, PyData.eqvAll, hf, eqv_map hf l m, List.cons.injEq]
    by_cases h : a = b <;> by_cases h2 : l = m <;> simp [h, h2]
def nI (n : Nat) : PyData := .int (n : Int)
theorem eqv_nI (a b : Nat) : PyData.eqv (nI a) (nI b) = decide (a = b) := by
  unfold nI
  simp only [PyData.eqv]
  by_cases h : a = b
  · simp [h]
  · have : ¬ (a : Int) = (b : Int) := by omega
    simp [h, this]
def dE (e : Nat × Nat) : PyData := .tuple [.int (e.1 : Int), .int (e.2 : Int)]
theorem eqv_dE (a b : Nat × Nat) : PyData.eqv (dE a) (dE b) = decide (a = b) := by
  obtain ⟨p, q⟩ := a
  obtain ⟨r, s⟩ := b
  have h1 := eqv_nI p r
  have h2 := eqv_nI q s
  unfold nI at h1 h2
  simp only [dE, PyData.eqv, PyData.eqvAll, Prod.mk.injEq] at *
  rw [h1, h2]
  by_cases h : p = r <;> by_cases h' : q = s <;> simp [h, h']
theorem shp_dE {e : Nat × Nat} : Shp 1 (dE e) := shp_tup (shpA_cons shp_int (shpA_cons shp_int shpA_nil))
/-- a row of a railway's links -/
def dR (l : List Nat) : PyData := .tuple (l.map nI)
def dN (l : List Nat) : PyData := .list (l.map nI)
theorem shp_dN {l : List Nat} : Shp 1 (dN l) := shp_list (shpA_map fun _ _ => shp_int)
theorem shp_dR {l : List Nat} : Shp 1 (dR l) := shp_tup (shpA_map fun _ _ => shp_int)
theorem eqv_dN (a b : List Nat) : PyData.eqv (dN a) (dN b) = decide (a = b) := by
  simp only [dN, PyData.eqv]
  exact eqv_map eqv_nI a b
theorem eqv_dR (a b : List Nat) : PyData.eqv (dR a) (dR b) = decide (a = b) := by
  simp only [dR, PyData.eqv]
  exact eqv_map eqv_nI a b
def dT (E : Tr) : PyData := .tuple (E.map dE)
theorem shp_dT {E : Tr} : Shp 2 (dT E) := shp_tup (shpA_map fun _ _ => shp_dE)
theorem eqv_dT (a b : Tr) : PyData.eqv (dT a) (dT b) = decide (a = b) := by
  simp only [dT, PyData.eqv]
  exact eqv_map eqv_dE a b
theorem noL_dT {E : Tr} : noL (dT E) = true := noLs_map (fun _ => rfl) E
def vN (l : List Nat) : List V := l.map fun k : Nat => V.int (k : Int)
theorem vN_get {l : List Nat} {i a : Nat} (h : l[i]? = some a) : (vN l)[i]? = some (V.int (a : Int)) := by
  unfold vN
  rw [List.getElem?_map, h]
  rfl
theorem vN_at {l : List Nat} {i : Nat} {x : V} (h : (vN l)[i]? = some x) : ∃ a, l[i]? = some a ∧ x = V.int (a : Int) := by
  unfold vN at h
  rw [List.getElem?_map] at h
  obtain ⟨a, ha, rfl⟩ := Option.map_eq_some_iff.mp h
  exact ⟨a, ha, rfl⟩
theorem vN_len {l : List Nat} : (vN l).length = l.length := by simp [vN]
theorem vN_app {l m : List Nat} : vN (l ++ m) = vN l ++ vN m := by simp [vN]
theorem vN_set {l : List Nat} {i a : Nat} : (vN l).set i (V.int (a : Int)) = vN (l.set i a) := by simp [vN, List.map_set]
theorem vN_dp {K : PySem.W.Frag} {H : Hp} : ∀ l : List Nat, DpAll K H (vN l) (l.map nI)
  | [] => .nil
  | n :: l => .cons (.int n) (vN_dp l)
theorem vN_of {K : PySem.W.Frag} {H : Hp} : ∀ {l : List Nat} {xs : List V}, DpAll K H xs (l.map nI) → xs = vN l
  | [], xs, h => by cases h; rfl
  | n :: l, xs, h => by
    cases h with
    | cons h1 h2 =>
      obtain rfl := dp_int h1
      rw [vN_of h2]
      rfl
theorem rgV_nat (n : Nat) : rgV 0 (n : Int) = vN (List.range n) := by
  unfold rgV vN
  simp
theorem vN_rep (n a : Nat) : (List.replicate n [V.int (a : Int)]).flatten = vN (List.replicate n a) := by
  induction n with
  | zero => rfl
  | succ n ih => simp [List.replicate_succ, vN] at *
theorem getD_some {l : List Nat} {i d : Nat} (h : i < l.length) : l[i]? = some (l.getD i d) := by
  rw [List.getD_eq_getElem?_getD, List.getElem?_eq_getElem h]
  rfl
theorem ixN_nat {n i : Nat} (h : i < n) : ixN n (i : Int) = some i := by
  unfold ixN
  simp
  omega
theorem same_upd2 {H H' : Hp} {p : Addr} {o : HO} (s : Same H H') (hn : H p = none) : Same H (upd H' p o) := fun b u h => by
  rw [upd_ne (fun z => by rw [z, hn] at h; cases h)]
  exact s _ _ h
theorem tyV_list {K : PySem.W.Frag} {H : Hp} {a : Addr} {xs : List V} (h : H a = some (.lst xs)) : tyV K "list" (.ref a) H := .inl ⟨rfl, xs, SqL.of h⟩
def isSq : HO → Bool
  | .lst _ => true
  | .tup _ => true
  | .frz _ _ => true
  | _ => false
def Kp (H H' : Hp) : Prop := ∀ b o, H b = some o → isSq o = true → H' b = some o
section
variable {K : PySem.W.Frag} {H H' H'' : Hp} {a p : Addr} {xs ys : List V} {v : V} {d : PyData} {ds : List PyData}
theorem Same.kp (s : Same H H') : Kp H H' := fun b o h _ => s b o h
theorem Kp.refl (H : Hp) : Kp H H := fun _ _ h _ => h
theorem Kp.trans (s : Kp H H') (t : Kp H' H'') : Kp H H'' := fun b o h q => t b o (s b o h q) q
theorem kp_upd {o : HO} (h : ∀ u, H p = some u → isSq u = false) : Kp H (upd H p o) := fun b u hb q => by
  by_cases e : b = p
  · subst e
    rw [h u hb] at q; cases q
  · rw [upd_ne e]; exact hb
theorem kp_seqL (k : Kp H H') (h : SqL K H a xs) : SqL K H' a xs := by
  rcases h with (h | ⟨o, h⟩) | h
  · exact .inl (.inl (k _ _ h rfl))
  · exact .inl (.inr ⟨o, k _ _ h rfl⟩)
  · exact .inr h
theorem kp_seqT (k : Kp H H') (h : SqT K H a xs) : SqT K H' a xs := by
  rcases h with (h | ⟨o, h⟩) | h
  · exact .inl (.inl (k _ _ h rfl))
  · exact .inl (.inr ⟨o, k _ _ h rfl⟩)
  · exact .inr h
theorem dp_kp_both (k : Kp H H') : (∀ d v, Dp K H v d → Dp K H' v d) ∧ ∀ ds vs, DpAll K H vs ds → DpAll K H' vs ds := by
  have key : ∀ d, (∀ v, Dp K H v d → Dp K H' v d) := by
    intro d
    refine PyData.rec (motive_1 := fun d => ∀ v, Dp K H v d → Dp K H' v d) (motive_2 := fun ds => ∀ vs, DpAll K H vs ds → DpAll K H' vs ds) (motive_3 := fun _ => True) (motive_4 := fun _ => True)
      ?_ ?_ ?_ ?_ ?_ ?_ ?_ ?_ ?_ ?_ ?_ ?_ d
    · intro v h; cases h; exact .non
    · intro b v h; cases h; exact .bl b
    · intro b v h; cases h; exact .int b
    · intro b v h; cases h; exact .str b
    · intro ds ih v h
      cases h with
      | lst h1 h2 => exact .lst (kp_seqL k h1) (ih _ h2)
    · intro ds ih v h
      cases h with
      | tup h1 h2 => exact .tup (kp_seqT k h1) (ih _ h2)
    · intro kvs _ v h; cases h
    · intro vs h; cases h; exact .nil
    · intro d ds ih1 ih2 vs h
      cases h with
      | cons h1 h2 => exact .cons (ih1 _ h1) (ih2 _ h2)
    · trivial
    · intros; trivial
    · intros; trivial
  refine ⟨key, fun ds => ?_⟩
  induction ds with
  | nil => intro vs h; cases h; exact .nil
  | cons d ds ih =>
    intro vs h
    cases h with
    | cons h1 h2 => exact .cons (key _ _ h1) (ih _ h2)
theorem dp_kp (k : Kp H H') (h : Dp K H v d) : Dp K H' v d := (dp_kp_both k).1 _ _ h
theorem dpa_kp (k : Kp H H') (h : DpAll K H xs ds) : DpAll K H' xs ds := (dp_kp_both k).2 _ _ h
end
theorem dataLe_nI (y z : Nat) : PySem.W.dataLe false nI y z = leN y z := by
  have := congrFun (congrFun (PySem.W.dataLe_int (fun n : Nat => (n : Int))) y) z
  have e : (fun b : Nat => PyData.int ((fun n : Nat => (n : Int)) b)) = nI := rfl
  rw [e] at this
  rw [this]
  unfold leN
  simp
theorem dataLe_dE (y z : Nat × Nat) : PySem.W.dataLe false dE y z = leP y z := by
  have := congrFun (congrFun (PySem.W.dataLe_ii (fun e : Nat × Nat => (e.1 : Int)) (fun e => (e.2 : Int))) y) z
  have e : (fun b : Nat × Nat => PyData.tuple [.int ((fun e : Nat × Nat => (e.1 : Int)) b), .int ((fun e : Nat × Nat => (e.2 : Int)) b)]) = dE := rfl
  rw [e] at this
  rw [this]
  unfold leP
  congr 1
  simp only [eq_iff_iff]
  omega
theorem alike_nI (l : List Nat) : PySem.W.AllAlike (l.map nI) := by
  intro d hd d' hd'
  obtain ⟨a, _, rfl⟩ := List.mem_map.mp hd
  obtain ⟨b, _, rfl⟩ := List.mem_map.mp hd'
  rfl
theorem sortable_nI (l : List Nat) : PySem.W.Sortable (l.map nI) := .inr fun d hd => by
  obtain ⟨a, _, rfl⟩ := List.mem_map.mp hd
  exact ⟨fun z => (by cases z), fun xs z => (by cases z)⟩
theorem alike_dE (l : Tr) : PySem.W.AllAlike (l.map dE) := by
  intro d hd d' hd'
  obtain ⟨a, _, rfl⟩ := List.mem_map.mp hd
  obtain ⟨b, _, rfl⟩ := List.mem_map.mp hd'
  rfl
theorem sortable_dE (l : Tr) : PySem.W.Sortable (l.map dE) := .inl fun d hd => by
  obtain ⟨a, _, rfl⟩ := List.mem_map.mp hd
  exact ⟨_, _, rfl⟩
end TT
namespace TT
open PySem PySem.Spec PyProof.Rows L2
section
variable {P : Program} {w : World} {K : PySem.W.Frag} {mg : Str → Option Value} {base : Heap} {k : Nat} {f : Addr} {fd : FuncData} {name qual : Str} {params : Arguments} {body : List Stmt} {scope : Scope}
  {N ps : List Str} {sp : Sp} {dvs : List V} {kws : List (Str × V)}
/-- def f(a, .., *v) without defaults -/
theorem fnP_star0 {pv : Str} (F : FunD K name qual params body scope dvs kws f fd) (hd : dvs = []) (S : FnScope N (ps ++ [pv]) scope)
    (hb0 : ∀ (kV doc pm cdv ct : Value) (an : Option Addr) (us : List Value), us.length = ps.length →
      bindArgs (PySem.W.fnOf name qual params body scope .none kV doc pm an cdv ct) ⟨us, []⟩ = (newTuple [] >>= fun t => pure (ps.zip us ++ [(pv, t)])))
    (hb1 : ∀ (kV doc pm cdv ct : Value) (an : Option Addr) (us rest : List Value) (r : Value), us.length = ps.length →
      bindArgs (PySem.W.fnOf name qual params body scope .none kV doc pm an cdv ct) ⟨us ++ r :: rest, []⟩ = (newTuple (r :: rest) >>= fun t => pure (ps.zip us ++ [(pv, t)])))
    (hbody : ∀ (cdv : Value) (A : Around) (outer : List Env) (s : Shared) (H : Hp) (vs : List V) (Q : VK) (E : XK), Rm k (A.deeper (envOfC qual scope s.heap.objs.size f cdv)) → sp vs H Q E →
      ∃ t, PSs (cxOf (L2.CX P w) P w K mg base N qual scope f cdv A outer s H E) body t ∧ t { nx := fun _ H' => Q .non H', rt := Q } (start N vs) H) :
    FnP P w K mg base (k + 1) f (fun vs H Q E => ∃ ws rest, vs = ws ++ rest ∧ ws.length = ps.length ∧ rest.length ≤ sizeLine ∧
      ∀ p, H p = Option.none → sp (ws ++ [V.ref p]) (upd H p (.tup rest)) Q E) := by
  obtain ⟨oc, od, dV, kV, doc, pm, an, cdv, ct, osl, rfl, lk, hcd, hD, _⟩ := F.ex
  obtain rfl : dV = Value.none := by
    rcases hD with ⟨_, e⟩ | ⟨e, _⟩
    · exact e
    · exact absurd hd e
  intro A outer s H us vs Q E hr e0 r hsp
  obtain ⟨ws, rest, rfl, hl, hz, hq⟩ := hsp
  obtain ⟨u1, u2, rfl, r1, r2⟩ := StX.vals_split r
  have hn : H s.heap.objs.size = Option.none := e0.hok.fresh (Nat.le_refl _)
  have hl1 : u1.length = ps.length := by rw [← r1.length]; exact hl
  have hl2 : u2.length ≤ sizeLine := by rw [← r2.length]; exact hz
  refine StX.run_bnd lk hcd S hr.r e0 (E := E) (G := fun xs H2 => ∃ p, H p = Option.none ∧ xs = ws ++ [V.ref p] ∧ H2 = upd H p (.tup rest)) (fun A' Ex Q' h => ?_) (fun s2 H2 xs hg _ => ?_)
  · have hb : bindArgs (PySem.W.fnOf name qual params body scope .none kV doc pm an cdv ct) ⟨u1 ++ u2, []⟩ = (newTuple u2 >>= fun t => pure (ps.zip u1 ++ [(pv, t)])) := by
      cases u2 with
      | nil => rw [List.append_nil]; exact hb0 kV doc pm cdv ct an u1 hl1
      | cons x rest => exact hb1 kV doc pm cdv ct an u1 rest x hl1
    rw [hb]
    refine wpAny_bind (wpAny_newTuple (wpAny_pure ?_) hl2)
    let ob : Obj := { cls := .type "tuple", data := .seq u2.toArray }
    have new : ObjOk P w (upd H s.heap.objs.size (.tup rest)) (s.heap.push ob) s.heap.objs.size (.tup rest) :=
      ⟨hz, u2, r2, ⟨_, Heap.get?_push_size _ rfl, rfl, _, rfl⟩⟩
    have un := StX.un_laid (fs := frs outer) (s := s) (o := ob) (u := .tup rest) hn
    have z := h _ _ (ws ++ [V.ref s.heap.objs.size]) (u1 ++ [Value.ref s.heap.objs.size]) (StX.env0_laid e0 new) un rfl
      (fun e s' => StX.cxUp outer s H _ _ E e s' un (fun b o q => Heap.get?_push_of_some _ q) rfl) (r1.append (.cons rfl .nil))
      (by simp [hl]) ⟨_, hn, rfl, rfl⟩
    rw [List.zip_append hl1.symm] at z
    exact z
  · obtain ⟨p, hp, rfl, rfl⟩ := hg
    exact hbody cdv A outer s2 _ _ Q E (hr.deeper _) (hq p hp)
end
end TT
namespace TT
open PySem PySem.Spec PyProof.Rows L2
theorem lc2_it {J : It} {n : Nat} {g g1 : TG} {tt tt1 : TT} {wi1 : TI} {te : TE} {vs vs1 : List Nat} {σ : L2.St} {H1 : Hp} {D : Addr} {Qd : Hp → Prop} (Pv : Nat → Hp → Prop) (h0 : Pv 0 (upd H1 D (.lst []))) (hgo : ∀ i H, i < n → Pv i H → J.go i H) (hst : ∀ H, Pv n H → J.stop n H)
    (hs : ∀ i x H H', i < n → Pv i H → J.yld i H x H' → g x (wipe σ vs) H' fun σ2 H2 => wipe σ2 vs = wipe σ vs ∧ tt σ2 H2 fun b H3 =>
      if b = true then wi1 σ2 H3 fun J1 H4 => ∃ W1 : Nat → Nat → Hp → Prop, (∃ m, W1 0 m H4) ∧ ∀ j k H, W1 j k H →
        (J1.stop j H ∧ Pv (i + 1) H) ∨ (J1.go j H ∧ ∃ Nx1 : Hp → Prop, (∀ H', Nx1 H' → ∃ k', k' < k ∧ W1 (j + 1) k' H') ∧ ∀ x H', J1.yld j H x H' → g1 x (wipe σ2 vs1) H' fun σ3 H5 => wipe σ3 vs1 = wipe σ2 vs1 ∧ tt1 σ3 H5 fun b H6 =>
          if b = true then te σ3 H6 fun y H7 => ∃ acc, H7 D = some (.lst acc) ∧ acc.length < sizeLine ∧ Nx1 (upd H7 D (.lst (acc ++ [y]))) else Nx1 H6)
      else Pv (i + 1) H3) (hd : ∀ H, Pv n H → Qd H) :
    ∃ W : Nat → Nat → Hp → Prop, (∃ m, W 0 m (upd H1 D (.lst []))) ∧ ∀ i m H, W i m H →
      (J.stop i H ∧ Qd H) ∨ (J.go i H ∧ ∃ Nx : Hp → Prop, (∀ H', Nx H' → ∃ m', m' < m ∧ W (i + 1) m' H') ∧ ∀ x H', J.yld i H x H' → g x (wipe σ vs) H' fun σ2 H2 => wipe σ2 vs = wipe σ vs ∧ tt σ2 H2 fun b H3 =>
        if b = true then wi1 σ2 H3 fun J1 H4 => ∃ W1 : Nat → Nat → Hp → Prop, (∃ m, W1 0 m H4) ∧ ∀ j k H, W1 j k H →
          (J1.stop j H ∧ Nx H) ∨ (J1.go j H ∧ ∃ Nx1 : Hp → Prop, (∀ H', Nx1 H' → ∃ k', k' < k ∧ W1 (j + 1) k' H') ∧ ∀ x H', J1.yld j H x H' → g1 x (wipe σ2 vs1) H' fun σ3 H5 => wipe σ3 vs1 = wipe σ2 vs1 ∧ tt1 σ3 H5 fun b H6 =>
            if b = true then te σ3 H6 fun y H7 => ∃ acc, H7 D = some (.lst acc) ∧ acc.length < sizeLine ∧ Nx1 (upd H7 D (.lst (acc ++ [y]))) else Nx1 H6)
        else Nx H3) := by
  refine ⟨fun i m H => m + i = n ∧ Pv i H, ⟨n, rfl, h0⟩, ?_⟩
  rintro i m H ⟨hi, p⟩
  by_cases h : i < n
  · exact .inr ⟨hgo i H h p, Pv (i + 1), fun H' p' => ⟨n - (i + 1), by omega, by omega, p'⟩, fun x H' y => hs i x H H' h p y⟩
  · obtain rfl : i = n := by omega
    exact .inl ⟨hst H p, hd H p⟩
/-- the inner source -/
theorem in_it {J1 : It} {n : Nat} {g1 : TG} {tt1 : TT} {te : TE} {vs1 : List Nat} {σ2 : L2.St} {H4 : Hp} {D : Addr} {Nx : Hp → Prop} (Pv : Nat → Hp → Prop) (h0 : Pv 0 H4) (hgo : ∀ i H, i < n → Pv i H → J1.go i H) (hst : ∀ H, Pv n H → J1.stop n H)
    (hs : ∀ j x H H', j < n → Pv j H → J1.yld j H x H' → g1 x (wipe σ2 vs1) H' fun σ3 H5 => wipe σ3 vs1 = wipe σ2 vs1 ∧ tt1 σ3 H5 fun b H6 =>
      if b = true then te σ3 H6 fun y H7 => ∃ acc, H7 D = some (.lst acc) ∧ acc.length < sizeLine ∧ Pv (j + 1) (upd H7 D (.lst (acc ++ [y]))) else Pv (j + 1) H6) (hd : ∀ H, Pv n H → Nx H) :
    ∃ W1 : Nat → Nat → Hp → Prop, (∃ m, W1 0 m H4) ∧ ∀ j k H, W1 j k H →
      (J1.stop j H ∧ Nx H) ∨ (J1.go j H ∧ ∃ Nx1 : Hp → Prop, (∀ H', Nx1 H' → ∃ k', k' < k ∧ W1 (j + 1) k' H') ∧ ∀ x H', J1.yld j H x H' → g1 x (wipe σ2 vs1) H' fun σ3 H5 => wipe σ3 vs1 = wipe σ2 vs1 ∧ tt1 σ3 H5 fun b H6 =>
        if b = true then te σ3 H6 fun y H7 => ∃ acc, H7 D = some (.lst acc) ∧ acc.length < sizeLine ∧ Nx1 (upd H7 D (.lst (acc ++ [y]))) else Nx1 H6) := by
  refine ⟨fun i m H => m + i = n ∧ Pv i H, ⟨n, rfl, h0⟩, ?_⟩
  rintro i m H ⟨hi, p⟩
  by_cases h : i < n
  · exact .inr ⟨hgo i H h p, Pv (i + 1), fun H' p' => ⟨n - (i + 1), by omega, by omega, p'⟩, fun x H' y => hs i x H H' h p y⟩
  · obtain rfl : i = n := by omega
    exact .inl ⟨hst H p, hd H p⟩
/-- what has been gathered in the list at D: ds -/
def Lc (K : PySem.W.Frag) (H1 : Hp) (D : Addr) (ds : List PyData) (H : Hp) : Prop := Same H1 H ∧ ∃ acc, H D = some (.lst acc) ∧ DpAll K (del H D) acc ds
section
variable {K : PySem.W.Frag} {H1 H H4 : Hp} {D : Addr} {ds : List PyData} {y : V} {d : PyData}
theorem Lc.start (hD : H1 D = none) : Lc K H1 D [] (upd H1 D (.lst [])) := ⟨same_upd hD, [], upd_same, .nil⟩
theorem Lc.put (hD : H1 D = none) (I : Lc K H1 D ds H) (s : Same H H4) (h : Dp K (del H4 D) y d) (hz : ds.length < sizeLine) :
    ∃ acc, H4 D = some (.lst acc) ∧ acc.length < sizeLine ∧ Lc K H1 D (ds ++ [d]) (upd H4 D (.lst (acc ++ [y]))) := by
  obtain ⟨s1, acc, h1, h2⟩ := I
  exact ⟨acc, s _ _ h1, by rw [dpa_len h2]; exact hz, same_upd2 (s1.trans s) hD, acc ++ [y], upd_same, by rw [del_self]; exact dpa_app (dpa_same (del_mono s D) h2) (dpa_one h)⟩
theorem Lc.put0 (hD : H1 D = none) (I : Lc K H1 D ds H) (s : Same H H4) (h : Dp K H4 y d) (n : noL d = true) (hz : ds.length < sizeLine) :
    ∃ acc, H4 D = some (.lst acc) ∧ acc.length < sizeLine ∧ Lc K H1 D (ds ++ [d]) (upd H4 D (.lst (acc ++ [y]))) := by
  obtain ⟨acc, h1, _⟩ := I.2
  exact Lc.put hD I s (dp_del (s _ _ h1) n h) hz
theorem Lc.skip (I : Lc K H1 D ds H) (s : Same H H4) : Lc K H1 D ds H4 := by
  obtain ⟨s1, acc, h1, h2⟩ := I
  exact ⟨s1.trans s, acc, s _ _ h1, dpa_same (del_mono s D) h2⟩
theorem Lc.end_ (I : Lc K H1 D ds H) : Same H1 H ∧ Dp K H (.ref D) (.list ds) ∧ ∃ acc, H D = some (.lst acc) ∧ DpAll K H acc ds := by
  obtain ⟨s1, acc, h1, h2⟩ := I
  exact ⟨s1, .lst (.inl (.inl h1)) (dpa_same (del_le H D) h2), acc, h1, dpa_same (del_le H D) h2⟩
end
/-- enumerate's turns -/
theorem ite_go {K : PySem.W.Frag} {H : Hp} {a : Addr} {xs : List V} {i : Nat} (h : SqL K H a xs) (hi : i < xs.length) : (Ite K a).go i H := ⟨xs, xs[i], h, List.getElem?_eq_getElem hi⟩
end TT
namespace TT
open PySem PySem.Spec PyProof.Rows L2
def rCatL (K : PySem.W.Frag) : R2 := fun x y H Q => ∃ l b xs zs, x = .ref l ∧ y = .ref b ∧ SqL K H l xs ∧ SqL K H b zs ∧ xs.length + zs.length ≤ sizeLine ∧ ∀ p, H p = none → Q (.ref p) (upd H p (.lst (xs ++ zs)))
theorem op_catL {X : Cx} : OpR X (binaryOp .Add) (rCatL X.K) := by
  rintro pins s σ H x y v u Q I rx ry ⟨l, b, xs, zs, rfl, rfl, h1, h2, hz, q⟩
  obtain rfl : v = Value.ref l := rx
  obtain rfl : u = Value.ref b := ry
  obtain ⟨its, r1, p1, z1⟩ := I.list h1
  obtain ⟨jts, r2, p2, z2⟩ := I.list h2
  obtain ⟨⟨c1, d1, t1, g1⟩, n1, e1, e2, e3, e4⟩ := p1
  obtain ⟨⟨c2, d2, t2, g2⟩, n2, f1, f2, f3, f4⟩ := p2
  simp only at e2 e4 f2 f4
  subst e2 e4 f2 f4
  refine concat_meets ⟨_, e1, rfl⟩ ⟨_, f1, rfl⟩ noFill_list_add seq_list_add F.slot_list_add F.entry_list_add (F.args_list_add_2 _ _) (PyProof.Rows.list_addW l b its.toArray jts.toArray n1 n2 _ _ _ _ (by rw [List.size_toArray, List.size_toArray, ← r1.length, ← r2.length]; exact hz)) ⟨e1, f1, ?_⟩
  have ea : its.toArray ++ jts.toArray = (its ++ jts).toArray := by simp
  rw [ea]
  exact ⟨.ref _, _, I.lnew (t' := s.toks) (r1.append r2) (by rw [List.length_append]; exact hz), rfl, q _ I.fresh⟩
end TT
namespace TT
open PySem PySem.Spec PyProof.Rows L2
structure Rp (k w : Nat) (d : PyData) : Prop where
  can : d.canLay0 = true
  dep : d.depth ≤ k
  wt : d.weight ≤ w
  sh : d.intsShort 13 = true
  sw : d.showable = true
structure RpA (k w : Nat) (ds : List PyData) : Prop where
  can : PyData.canLayAll0 ds = true
  dep : PyData.depthAll ds ≤ k
  wt : PyData.weightAll ds ≤ w
  sh : PyData.intsShortAll 13 ds = true
  sw : PyData.showableAll ds = true
theorem rp_int {i : Int} {k : Nat} (h1 : -999999999999 < i) (h2 : i < 999999999999) : Rp k 41 (.int i) := by
  have hl : i.natAbs.log2 < 40 := by
    by_cases z : i.natAbs = 0
    · rw [z]; decide
    · exact (Nat.log2_lt z).mpr (by have : (2 : Nat) ^ 40 = 1099511627776 := by decide
                                    omega)
  refine ⟨rfl, Nat.zero_le _, ?_, ?_, ?_⟩
  · show (if (i == 0) = true then 0 else i.natAbs.log2 + 1) ≤ 41
    split <;> omega
  · exact intsShort_of_noneOrIn (lo := -999999999999) (hi := 999999999999) (by decide) (by decide) _ (by simp [noneOrIn, h1, h2])
  · show decide (i.natAbs.log2 < 1920) = true
    simp; omega
theorem rp_nat {n k : Nat} (h : n < 999999999999) : Rp k 41 (nI n) := rp_int (by omega) (by omega)
theorem rp_none {k : Nat} : Rp k 0 .none := ⟨rfl, Nat.zero_le _, Nat.le_refl _, rfl, rfl⟩
theorem rp_bool {k : Nat} {b : Bool} : Rp k 0 (.bool b) := ⟨rfl, Nat.zero_le _, Nat.le_refl _, rfl, rfl⟩
theorem rp_str {k : Nat} {x : Str} (h : PyData.canLay0 (.str x) = true) : Rp k x.cps.size (.str x) := ⟨h, Nat.zero_le _, Nat.le_refl _, rfl, rfl⟩
theorem rpA_nil {k : Nat} : RpA k 0 [] := ⟨rfl, Nat.zero_le _, Nat.le_refl _, rfl, rfl⟩
theorem rpA_cons {k w w2 : Nat} {d : PyData} {ds : List PyData} (h : Rp k w d) (hs : RpA k w2 ds) : RpA k (w + 1 + w2) (d :: ds) := by
  obtain ⟨a1, a2, a3, a4, a5⟩ := h
  obtain ⟨b1, b2, b3, b4, b5⟩ := hs
  refine ⟨by simp [PyData.canLayAll0, a1, b1], ?_, ?_, by simp [PyData.intsShortAll, a4, b4], by simp [PyData.showableAll, a5, b5]⟩
  · show max d.depth (PyData.depthAll ds) ≤ k
    omega
  · show d.weight + 1 + PyData.weightAll ds ≤ w + 1 + w2
    omega
theorem RpA.mono {k w k2 w2 : Nat} {ds : List PyData} (h : RpA k w ds) (h1 : k ≤ k2) (h2 : w ≤ w2) : RpA k2 w2 ds := ⟨h.can, Nat.le_trans h.dep h1, Nat.le_trans h.wt h2, h.sh, h.sw⟩
theorem Rp.mono {k w k2 w2 : Nat} {d : PyData} (h : Rp k w d) (h1 : k ≤ k2) (h2 : w ≤ w2) : Rp k2 w2 d := ⟨h.can, Nat.le_trans h.dep h1, Nat.le_trans h.wt h2, h.sh, h.sw⟩
theorem rpA_all {k w : Nat} : ∀ {ds : List PyData}, (∀ d ∈ ds, Rp k w d) → RpA k (ds.length * (w + 1)) ds
  | [], _ => rpA_nil.mono (Nat.le_refl _) (by simp)
  | d :: ds, h => (rpA_cons (h d (by simp)) (rpA_all fun y hy => h y (by simp [hy]))).mono (Nat.le_refl _) (by simp [Nat.succ_mul]; omega)
theorem rpA_map {α : Type} {k w : Nat} {f : α → PyData} {l : List α} (h : ∀ x ∈ l, Rp k w (f x)) : RpA k (l.length * (w + 1)) (l.map f) := by
  have := rpA_all (ds := l.map f) (k := k) (w := w) fun d hd => by
    obtain ⟨x, hx, rfl⟩ := List.mem_map.mp hd
    exact h x hx
  rw [List.length_map] at this
  exact this
theorem rp_list {k w : Nat} {ds : List PyData} (h : RpA k w ds) : Rp (k + 1) w (.list ds) := ⟨by simp only [PyData.canLay0]; exact h.can, Nat.succ_le_succ h.dep, by simp only [PyData.weight]; exact h.wt, by simp only [PyData.intsShort]; exact h.sh, by simp only [PyData.showable]; exact h.sw⟩
theorem rp_tup {k w : Nat} {ds : List PyData} (h : RpA k w ds) : Rp (k + 1) w (.tuple ds) := ⟨by simp only [PyData.canLay0]; exact h.can, Nat.succ_le_succ h.dep, by simp only [PyData.weight]; exact h.wt, by simp only [PyData.intsShort]; exact h.sh, by simp only [PyData.showable]; exact h.sw⟩
theorem Rp.ok {k w : Nat} {d : PyData} (h : Rp k w d) (h1 : k ≤ 64) (h2 : w ≤ 1048576) : d.showable = true ∧ d.depth ≤ 64 ∧ d.shown.length ≤ sizeLine := by
  refine ⟨h.sw, Nat.le_trans h.dep h1, ?_⟩
  have z := PyProof.Rows.shown_le13 (d := d) (by
    unfold PyData.layable0
    have e : (2 : Nat) ^ 20 = 1048576 := by decide
    simp only [Bool.and_eq_true, decide_eq_true_eq]
    exact ⟨⟨h.can, Nat.le_trans h.dep h1⟩, by rw [e]; exact Nat.le_trans h.wt h2⟩) h.sh
  rw [sizeLine_eq]
  omega
theorem rp_dE {e : Nat × Nat} (h : e.1 < 1000 ∧ e.2 < 1000) : Rp 1 84 (dE e) := rp_tup (rpA_cons (rp_nat (by omega)) (rpA_cons (rp_nat (by omega)) rpA_nil))
theorem rp_dT {E : Tr} (h : ∀ e ∈ E, e.1 < 1000 ∧ e.2 < 1000) (hl : E.length ≤ 1000) : Rp 2 85000 (dT E) := (rp_tup (rpA_map fun e he => rp_dE (h e he))).mono (Nat.le_refl _) (by omega)
theorem rp_dR {l : List Nat} (h : ∀ e ∈ l, e < 1000) (hl : l.length ≤ 1000) : Rp 1 42000 (dR l) := (rp_tup (rpA_map fun e he => rp_nat (by have := h e he; omega))).mono (Nat.le_refl _) (by omega)
theorem rp_dN {l : List Nat} (h : ∀ e ∈ l, e < 1000) (hl : l.length ≤ 1000) : Rp 1 42000 (dN l) := (rp_list (rpA_map fun e he => rp_nat (by have := h e he; omega))).mono (Nat.le_refl _) (by omega)
/-- repr of such data -/
def rReprD (K : PySem.W.Frag) : List V → Hp → VK → Prop := fun xs H Q => ∃ x d, xs = [x] ∧ Dp K H x d ∧ (∃ k w, Rp k w d ∧ k ≤ 64 ∧ w ≤ 1048576) ∧ Q (.str d.shown) H
theorem call_reprD {X : Cx} {k : Nat} (hr : Rm k X.A) : CallR X (.builtin "repr") (rReprD X.K) := by
  rintro pins s σ H xs us Q I r ⟨x, d, rfl, h1, ⟨k', w, h2, h3, h4⟩, q⟩
  obtain ⟨a, b, c⟩ := h2.ok h3 h4
  exact call_repr hr pins s σ H _ us Q I r ⟨x, d, rfl, h1, a, b, c, q⟩
end TT
namespace TT
open PySem PySem.Spec PyProof.Rows L2
section
variable {X : Cx}
def rTupF (K : PySem.W.Frag) : List V → Hp → VK → Prop := fun xs H Q => ∃ p ys, xs = [.ref p] ∧ SqL K H p ys ∧ ∀ (l : Addr) (o : Obj), H l = none → o.dict = none → Q (.ref l) (upd H l (.frz o (.tup ys)))
theorem call_tuple_frz : CallR X (.type "tuple") (rTupF X.K) := by
  rintro pins s σ H xs us Q I r ⟨p, ys, rfl, hq, q⟩
  obtain ⟨u, rfl, rx⟩ := vals1 r
  obtain rfl : u = Value.ref p := rx
  obtain ⟨its, r', pl, hz⟩ := I.list hq
  have hlen := r'.length
  refine call_tuple_list pl.isList (fun h' kp => ?_) (by rw [List.size_toArray, ← hlen]; exact hz)
  have I1 : Inv X pins σ H { s with heap := h' } := I.kept (t' := s.toks) kp
  let ob : Obj := { cls := .type "tuple", data := .seq its.toArray }
  have hget : (h'.push ob).get? h'.objs.size = some ob := Heap.get?_push_size _ rfl
  exact ⟨.ref h'.objs.size, _, I1.laid (t' := s.toks) (a := h'.objs.size) (o := .frz ob (.tup ys)) (h' := h'.push ob) (fun b o e => Heap.get?_push_of_some _ e) (Nat.le_refl _) ⟨hget, hz, its, r', IsTup.new _ _⟩, rfl, q _ ob (I1.hok.fresh (Nat.le_refl _)) rfl⟩
/-- o.m(e, ..), o a known tuple -/
def tBT (r : V → List V → Hp → VK → Prop) (to : TE) (t : TA) : TE := fun σ H Q => to σ H fun x H1 => (∃ a ob ys, x = .ref a ∧ H1 a = some (.frz ob (.tup ys)) ∧ ob.dict = none) ∧ t σ H1 fun xs H2 => r x xs H2 Q
theorem pe_bt {o e : Expr} {es : List Expr} {to : TE} {t : TA} {name : Str} {apos cpos : Pos} {id : String} {r : V → List V → Hp → VK → Prop} (pa : PlainAttrs "tuple") (slot : Slot "tuple" name id) (hty : typeOf (.builtin id) = pure (.type "method_descriptor")) (hm : MtR X id r)
    (ho : PE X o to) (ha : PA X (e :: es) t) (hbase : attributeBase o name X.env (eval o X.env) = eval o X.env := by rfl)
    (hfew : ((backTo cpos (starEach (e :: es) X.env)).all (fun x => !x.1) && (backToKw cpos (keywordEach [] X.env)).all (fun x => x.1.isSome)
      && decide ((e :: es).length + ([] : List Keyword).length + (if ([] : List Keyword).isEmpty then 0 else 1) < 30)) = true := by rfl)
    (hline : (apos.endLine == cpos.line) = true := by rfl) (hs : starEach (e :: es) X.env = (false, eval e X.env) :: starEach es X.env := by rfl) (hplain : (backTo cpos (starEach es X.env)).any (·.1) = false := by rfl) :
    PE X (.Call (.Attribute o name apos) (e :: es) [] cpos) (tBT r to t) := by
  refine ⟨fun pins s σ H Q I h => ?_⟩
  refine wpAny_Call_method_late hbase hfew hline rfl (thn (ho.run pins s σ H _ I h) ?_)
  rintro v s1 ⟨x, H1, I1, r1, ⟨a, ob, ys, rfl, hf, hd⟩, q1⟩
  obtain rfl : v = Value.ref a := r1
  obtain ⟨e1, hz, its, rv, ⟨o2, e2, hc, _⟩⟩ := (show ObjOk X.prog X.w H1 s1.heap a (.frz ob (.tup ys)) from I1.hok a _ hf)
  refine ⟨"tuple", id, pa, slot, hty, ⟨o2, e2, hc⟩, fun b z => ?_, ?_⟩
  · cases z
    exact ⟨ob, e1, hd⟩
  have hA := ha.run cpos pins s1 σ H1 _ I1 q1
  rw [hs] at hA ⊢
  refine Calls.callWith_builtin (by show (false || (backTo cpos (starEach es X.env)).any (·.1)) = false; rw [hplain] <;> rfl) (Calls.evalArgs_plain ?_)
  exact thn hA fun us s2 ⟨vs, H2, I2, r2, q2⟩ => hm pins s2 σ H2 (.ref a) vs (.ref a) us Q I2 rfl r2 q2
/-- t.index(k), whole numbers -/
def rIndexN (K : PySem.W.Frag) : V → List V → Hp → VK → Prop := fun x xs H Q => ∃ (p : Addr) (ys : List Nat) (z j : Nat), x = .ref p ∧ xs = [.int (z : Int)] ∧ SqT K H p (vN ys) ∧ ys[j]? = some z ∧ (∀ m, m < j → ys[m]? ≠ some z) ∧ Q (.int (j : Nat)) H
theorem flat_vN (ys : List Nat) : (vN ys).all flatV = true := by
  unfold vN
  rw [List.all_map]
  exact List.all_eq_true.mpr fun _ _ => rfl
theorem mt_indexN : MtR X "tuple.index" (rIndexN X.K) := by
  rintro pins s σ H x xs v us Q I rx rs ⟨p, ys, z, j, rfl, rfl, hq, hy, hno, q⟩
  obtain rfl : v = Value.ref p := rx
  obtain ⟨u, rfl, t, rfl⟩ := vals1 rs
  obtain ⟨its, r, pl, hz⟩ := I.tuple hq
  obtain ⟨⟨cls, dd, dt, sl⟩, ho, hc, n, hd⟩ := pl
  simp only at hc hd
  subst hc
  subst hd
  have hl : its.toArray.size = ys.length := by rw [List.size_toArray, ← r.length, vN_len]
  have hj : j < its.toArray.size := by rw [hl]; exact (List.getElem?_eq_some_iff.mp hy).1
  have at' : ∀ (m : Nat) (hm : m < its.toArray.size), ∃ y t', ys[m]? = some y ∧ its.toArray[m] = Value.int ((y : Nat) : Int) t' := fun m hm => by
    have hm' : m < ys.length := by rw [← hl]; exact hm
    obtain ⟨w, hw, t', hw'⟩ := r.get (i := m) (x := .int (ys[m] : Nat)) (vN_get (List.getElem?_eq_getElem hm'))
    refine ⟨ys[m], t', List.getElem?_eq_getElem hm', ?_⟩
    have e := (List.getElem?_eq_some_iff.mp hw).2
    rw [← hw', ← e]
    simp
  refine call_meets PySem.F.slot_tuple_index ⟨_, ho, rfl⟩ PySem.F.entry_tuple_index (PySem.F.args_tuple_index_2 _ _) (TI.tuple_indexAt p its.toArray n dd sl (.int (z : Int) t) (eqU (.int (z : Int))) j hj ?_ ?_)
    ⟨ho, fun w hw => mem_eqAt (x := .int (z : Int)) ⟨t, rfl⟩ rfl r (flat_vN ys) w (by simpa using hw), ⟨.int (j : Nat), H, I.tok _, ⟨_, rfl⟩, q⟩⟩
  · obtain ⟨y, t', h1, h2⟩ := at' j hj
    rw [hy] at h1
    cases h1
    rw [h2]
    show ((z : Int) == (z : Int)) = true
    exact beq_self_eq_true _
  · intro m hm hmj
    obtain ⟨y, t', h1, h2⟩ := at' m hm
    rw [h2]
    show ((y : Int) == (z : Int)) = false
    exact beq_eq_false_iff_ne.mpr fun e => hno m hmj (by rw [h1]; congr 1; omega)
def rCatD (K : PySem.W.Frag) : R2 := fun x y H Q => ∃ ds es, Dp K H x (.tuple ds) ∧ Dp K H y (.tuple es) ∧ ds.length + es.length ≤ sizeLine ∧ ∀ v H', Same H H' → Dp K H' v (.tuple (ds ++ es)) → Q v H'
theorem op_catD : OpR X (binaryOp .Add) (rCatD X.K) := by
  rintro pins s σ H x y v u Q I rx ry ⟨ds, es, h1, h2, hz, q⟩
  obtain ⟨a, xs, rfl, s1, d1⟩ := dp_tup h1
  obtain ⟨b, ys, rfl, s2, d2⟩ := dp_tup h2
  refine op_catA pins s σ H _ _ v u Q I rx ry ⟨a, b, xs, ys, rfl, rfl, s1, s2, by rw [dpa_len d1, dpa_len d2]; exact hz, fun e => ?_, fun _ e => ?_, fun _ _ p hp => q _ _ (same_upd hp) (dp_newT hp (dpa_app d1 d2))⟩
  · subst e
    cases d1
    exact q _ H (Same.refl H) h2
  · subst e
    cases d2
    rw [List.append_nil] at q
    exact q _ H (Same.refl H) h1
/-- the part of a list between two ends -/
def cutD (xs : List PyData) (lo hi : Option Int) : List PyData := (xs.drop (HT.sIx xs.length 0 lo)).take (HT.sIx xs.length xs.length hi - HT.sIx xs.length 0 lo)
theorem dpa_drop {K : PySem.W.Frag} {H : Hp} : ∀ (k : Nat) {xs : List V} {ds : List PyData}, DpAll K H xs ds → DpAll K H (xs.drop k) (ds.drop k)
  | 0, _, _, h => h
  | _ + 1, _, _, .nil => .nil
  | k + 1, _, _, .cons _ h => dpa_drop k h
theorem dpa_take {K : PySem.W.Frag} {H : Hp} : ∀ (k : Nat) {xs : List V} {ds : List PyData}, DpAll K H xs ds → DpAll K H (xs.take k) (ds.take k)
  | 0, _, _, _ => .nil
  | _ + 1, _, _, .nil => .nil
  | k + 1, _, _, .cons h1 h => .cons h1 (dpa_take k h)
def rSlD (K : PySem.W.Frag) : V → Option Int → Option Int → Hp → VK → Prop := fun x lo hi H Q => ∃ ds, Dp K H x (.tuple ds) ∧ ∀ v H', Same H H' → Dp K H' v (.tuple (cutD ds lo hi)) → Q v H'
theorem sl_tupD : SlR X (rSlD X.K) := by
  rintro pins s σ H x v vl vu lo hi sl Q I rx hs pl pu ⟨ds, h1, q⟩
  obtain ⟨a, xs, rfl, s1, d1⟩ := dp_tup h1
  have hl := dpa_len d1
  have hc : DpAll X.K H (cutV xs lo hi) (cutD ds lo hi) := by
    unfold cutV cutD
    rw [hl]
    exact dpa_take _ (dpa_drop _ d1)
  refine sl_tupA pins s σ H _ v vl vu lo hi sl Q I rx hs pl pu ⟨a, xs, rfl, s1, fun e => ?_, fun _ p hp => q _ _ (same_upd hp) (dp_newT hp hc)⟩
  have e2 : cutD ds lo hi = ds := by
    unfold cutD
    rw [hl] at e
    rw [e.1, e.2]
    simp
  rw [e2] at q
  exact q _ H (Same.refl H) h1
theorem cutD_from {xs : List PyData} {k : Nat} (h : k ≤ xs.length) : cutD xs (some (k : Int)) none = xs.drop k := by
  have e1 : HT.sIx xs.length 0 (some (k : Int)) = k := by
    show (if (k : Int) < 0 then ((k : Int) + (xs.length : Int)).toNat else min (k : Int).toNat xs.length) = k
    rw [if_neg (by omega)]
    omega
  have e2 : HT.sIx xs.length xs.length none = xs.length := rfl
  unfold cutD
  rw [e1, e2, List.take_of_length_le (by rw [List.length_drop]; exact Nat.le_refl _)]
theorem cutD_to {xs : List PyData} {k : Nat} (h : k ≤ xs.length) : cutD xs none (some (k : Int)) = xs.take k := by
  have e1 : HT.sIx xs.length xs.length (some (k : Int)) = k := by
    show (if (k : Int) < 0 then ((k : Int) + (xs.length : Int)).toNat else min (k : Int).toNat xs.length) = k
    rw [if_neg (by omega)]
    omega
  have e2 : HT.sIx xs.length 0 none = 0 := rfl
  unfold cutD
  rw [e1, e2]
  rfl
end
end TT
namespace TT
open PySem PySem.Spec PyProof.Rows L2
open He (ga ma)
def top (i : Nat) : Stmt := PySem.Challenge.pw_treetrain_k37_renamed_railways.main.body.getD i (.Pass ⟨0, 0, 0, 0⟩)
abbrev PP : Program := PySem.Challenge.pw_treetrain_k37_renamed_railways
abbrev s_is_integer : Stmt := top 26
def d_is_integer : Df := ⟨fun K => ga K "is_integer", "is_integer", "is_integer", defArgs s_is_integer, defBody s_is_integer, defScope s_is_integer, [], [], []⟩
abbrev s_is_track : Stmt := top 27
def d_is_track : Df := ⟨fun K => ga K "is_track", "is_track", "is_track", defArgs s_is_track, defBody s_is_track, defScope s_is_track, [], [], []⟩
abbrev s_track_faults : Stmt := top 28
def d_track_faults : Df := ⟨fun K => ga K "track_faults", "track_faults", "track_faults", defArgs s_track_faults, defBody s_track_faults, defScope s_track_faults, [], [], []⟩
abbrev s_hops_from : Stmt := top 29
def d_hops_from : Df := ⟨fun K => ga K "hops_from", "hops_from", "hops_from", defArgs s_hops_from, defBody s_hops_from, defScope s_hops_from, [], [], []⟩
abbrev s_Railway_init : Stmt := inClass (top 30) 1
def d_Railway_init : Df := ⟨fun K => ma K (ga K "Railway") "__init__", "__init__", "Railway.__init__", defArgs s_Railway_init, defBody s_Railway_init, defScope s_Railway_init, [], [], []⟩
abbrev s_Railway_of : Stmt := inClass (top 30) 3
def d_Railway_of : Df := ⟨fun K => ca K "Railway" "of", "of", "Railway.of", defArgs s_Railway_of, defBody s_Railway_of, defScope s_Railway_of, [], [], []⟩
abbrev s_Railway_size : Stmt := inClass (top 30) 8
def d_Railway_size : Df := ⟨fun K => pa K "Railway" "size", "size", "Railway.size", defArgs s_Railway_size, defBody s_Railway_size, defScope s_Railway_size, [], [], []⟩
abbrev s_Railway_tracks : Stmt := inClass (top 30) 9
def d_Railway_tracks : Df := ⟨fun K => pa K "Railway" "tracks", "tracks", "Railway.tracks", defArgs s_Railway_tracks, defBody s_Railway_tracks, defScope s_Railway_tracks, [], [], []⟩
abbrev s_Railway_is_same : Stmt := inClass (top 30) 16
def d_Railway_is_same : Df := ⟨fun K => ma K (ga K "Railway") "is_same", "is_same", "Railway.is_same", defArgs s_Railway_is_same, defBody s_Railway_is_same, defScope s_Railway_is_same, [], [], []⟩
abbrev s_is_order : Stmt := top 32
def d_is_order : Df := ⟨fun K => ga K "is_order", "is_order", "is_order", defArgs s_is_order, defBody s_is_order, defScope s_is_order, [], [], []⟩
abbrev s_renamed : Stmt := top 33
def d_renamed : Df := ⟨fun K => ga K "renamed", "renamed", "renamed", defArgs s_renamed, defBody s_renamed, defScope s_renamed, [], [], []⟩
abbrev s__law_begin : Stmt := top 35
def d__law_begin : Df := ⟨fun K => ga K "_law_begin", "_law_begin", "_law_begin", defArgs s__law_begin, defBody s__law_begin, defScope s__law_begin, [], [], []⟩
abbrev s__law_mixed : Stmt := top 36
def d__law_mixed : Df := ⟨fun K => ga K "_law_mixed", "_law_mixed", "_law_mixed", defArgs s__law_mixed, defBody s__law_mixed, defScope s__law_mixed, [], [], []⟩
abbrev s__law_next : Stmt := top 37
def d__law_next : Df := ⟨fun K => ga K "_law_next", "_law_next", "_law_next", defArgs s__law_next, defBody s__law_next, defScope s__law_next, [], [], []⟩
abbrev s__law_tracks : Stmt := top 38
def d__law_tracks : Df := ⟨fun K => ga K "_law_tracks", "_law_tracks", "_law_tracks", defArgs s__law_tracks, defBody s__law_tracks, defScope s__law_tracks, [], [], []⟩
abbrev s__law_refused : Stmt := top 39
def d__law_refused : Df := ⟨fun K => ga K "_law_refused", "_law_refused", "_law_refused", defArgs s__law_refused, defBody s__law_refused, defScope s__law_refused, [], [], []⟩
abbrev s__law_order : Stmt := top 40
def d__law_order : Df := ⟨fun K => ga K "_law_order", "_law_order", "_law_order", defArgs s__law_order, defBody s__law_order, defScope s__law_order, [], [], []⟩
abbrev s__law_no_order : Stmt := top 41
def d__law_no_order : Df := ⟨fun K => ga K "_law_no_order", "_law_no_order", "_law_no_order", defArgs s__law_no_order, defBody s__law_no_order, defScope s__law_no_order, [], [], []⟩
abbrev s__law_right : Stmt := top 42
def d__law_right : Df := ⟨fun K => ga K "_law_right", "_law_right", "_law_right", defArgs s__law_right, defBody s__law_right, defScope s__law_right, [], [], []⟩
abbrev s_law : Stmt := top 43
def d_law : Df := ⟨fun K => ga K "law", "law", "law", defArgs s_law, defBody s_law, defScope s_law, [], [], []⟩
abbrev s_InvalidOrder_init : Stmt := inClass (top 5) 0
def d_InvalidOrder_init : Df := ⟨fun K => ma K (ga K "InvalidOrder") "__init__", "__init__", "InvalidOrder.__init__", defArgs s_InvalidOrder_init, defBody s_InvalidOrder_init, defScope s_InvalidOrder_init, [], [], ["__class__"]⟩
def fnl0 : List Df := [d_is_integer, d_is_track, d_track_faults, d_hops_from, d_Railway_init, d_Railway_of, d_Railway_size, d_Railway_tracks, d_Railway_is_same, d_is_order, d_renamed, d__law_begin, d__law_mixed, d__law_next, d__law_tracks, d__law_refused, d__law_order, d__law_no_order, d__law_right, d_law, d_InvalidOrder_init]
def fnl : List Df := fnl0
def fal0 : List Fct := [(fun K => (He.Fa.glo "InvalidOrder").ok K),
  (fun K => (He.Fa.glo "InvalidTracks").ok K),
  (fun K => (He.Fa.glo "MissingError").ok K),
  (fun K => (He.Fa.glo "RailError").ok K),
  (fun K => (He.Fa.glo "Railway").ok K),
  (fun K => (He.Fa.glo "RunError").ok K),
  (fun K => (He.Fa.glo "_law_begin").ok K),
  (fun K => (He.Fa.glo "_law_mixed").ok K),
  (fun K => (He.Fa.glo "_law_next").ok K),
  (fun K => (He.Fa.glo "_law_no_order").ok K),
  (fun K => (He.Fa.glo "_law_order").ok K),
  (fun K => (He.Fa.glo "_law_refused").ok K),
  (fun K => (He.Fa.glo "_law_right").ok K),
  (fun K => (He.Fa.glo "_law_tracks").ok K),
  (fun K => (He.Fa.free "all").ok K),
  (fun K => (He.Fa.free "bool").ok K),
  (fun K => (He.Fa.free "enumerate").ok K),
  (fun K => (He.Fa.glo "hops_from").ok K),
  (fun K => (He.Fa.free "int").ok K),
  (fun K => (He.Fa.glo "is_integer").ok K),
  (fun K => (He.Fa.glo "is_order").ok K),
  (fun K => (He.Fa.glo "is_track").ok K),
  (fun K => (He.Fa.free "isinstance").ok K),
  (fun K => (He.Fa.glo "law").ok K),
  (fun K => (He.Fa.free "len").ok K)]
def fal1 : List Fct := [(fun K => (He.Fa.free "list").ok K),
  (fun K => (He.Fa.free "max").ok K),
  (fun K => (He.Fa.free "min").ok K),
  (fun K => (He.Fa.free "range").ok K),
  (fun K => (He.Fa.glo "renamed").ok K),
  (fun K => (He.Fa.free "repr").ok K),
  (fun K => (He.Fa.free "sorted").ok K),
  (fun K => (He.Fa.free "str").ok K),
  (fun K => (He.Fa.free "super").ok K),
  (fun K => (He.Fa.glo "track_faults").ok K),
  (fun K => (He.Fa.free "tuple").ok K),
  (bLook "InvalidOrder"),
  (bErr "/claim/cut.py" "InvalidOrder" 0 ["value"]),
  (bLook "InvalidTracks"),
  (bLook "MissingError"),
  (bLook "RailError"),
  (bLook "RunError"),
  (fun K => (He.Fa.cls "Railway").ok K),
  (bRead "Railway"),
  (bSee "Railway"),
  (fun K => (He.Fa.noat "Railway" "gaps").ok K),
  (fun K => (He.Fa.noat "Railway" "hops").ok K),
  (fun K => (He.Fa.noat "Railway" "links").ok K),
  (bConst "Railway" "MOST_STATIONS" (.int 100)),
  (fun K => (He.Fa.mkr "Railway").ok K)]
def fal2 : List Fct := [(bCM "Railway" "of"),
  (bProp "Railway" "size"),
  (bProp "Railway" "tracks"),
  (fun K => (He.Fa.meth "Railway" "is_same").ok K),
  (bExc "InvalidOrder" ["RailError", "RunError", "MissingError"] true),
  (bKit "InvalidOrder" "RailError" true),
  (fun K => (He.Fa.noat "InvalidOrder" "value").ok K)]
def fal : List Fct := fal0 ++ fal1 ++ fal2
/-- what the top has made -/
structure Tx (K : PySem.W.Frag) (mg : Str → Option Value) : Prop where
  h : ∃ h : Heap, K.In h ∧ h.Ns mainGlobals mg
  c : SaysA fal fnl K
section
variable {K : PySem.W.Frag} {mg : Str → Option Value}
theorem f_is_integer (T : Tx K mg) : ∃ fd, FunD K "is_integer" "is_integer" (defArgs s_is_integer) (defBody s_is_integer) (defScope s_is_integer) (d_is_integer.dvs K) [] (ga K "is_integer") fd := T.c.dfn 0 (d := d_is_integer) rfl rfl
theorem f_is_track (T : Tx K mg) : ∃ fd, FunD K "is_track" "is_track" (defArgs s_is_track) (defBody s_is_track) (defScope s_is_track) (d_is_track.dvs K) [] (ga K "is_track") fd := T.c.dfn 1 (d := d_is_track) rfl rfl
theorem f_track_faults (T : Tx K mg) : ∃ fd, FunD K "track_faults" "track_faults" (defArgs s_track_faults) (defBody s_track_faults) (defScope s_track_faults) (d_track_faults.dvs K) [] (ga K "track_faults") fd := T.c.dfn 2 (d := d_track_faults) rfl rfl
theorem f_hops_from (T : Tx K mg) : ∃ fd, FunD K "hops_from" "hops_from" (defArgs s_hops_from) (defBody s_hops_from) (defScope s_hops_from) (d_hops_from.dvs K) [] (ga K "hops_from") fd := T.c.dfn 3 (d := d_hops_from) rfl rfl
theorem f_Railway_init (T : Tx K mg) : ∃ fd, FunD K "__init__" "Railway.__init__" (defArgs s_Railway_init) (defBody s_Railway_init) (defScope s_Railway_init) (d_Railway_init.dvs K) [] (ma K (ga K "Railway") "__init__") fd := T.c.dfn 4 (d := d_Railway_init) rfl rfl
theorem f_Railway_of (T : Tx K mg) : ∃ fd, FunD K "of" "Railway.of" (defArgs s_Railway_of) (defBody s_Railway_of) (defScope s_Railway_of) (d_Railway_of.dvs K) [] (ca K "Railway" "of") fd := T.c.dfn 5 (d := d_Railway_of) rfl rfl
theorem f_Railway_size (T : Tx K mg) : ∃ fd, FunD K "size" "Railway.size" (defArgs s_Railway_size) (defBody s_Railway_size) (defScope s_Railway_size) (d_Railway_size.dvs K) [] (pa K "Railway" "size") fd := T.c.dfn 6 (d := d_Railway_size) rfl rfl
theorem f_Railway_tracks (T : Tx K mg) : ∃ fd, FunD K "tracks" "Railway.tracks" (defArgs s_Railway_tracks) (defBody s_Railway_tracks) (defScope s_Railway_tracks) (d_Railway_tracks.dvs K) [] (pa K "Railway" "tracks") fd := T.c.dfn 7 (d := d_Railway_tracks) rfl rfl
theorem f_Railway_is_same (T : Tx K mg) : ∃ fd, FunD K "is_same" "Railway.is_same" (defArgs s_Railway_is_same) (defBody s_Railway_is_same) (defScope s_Railway_is_same) (d_Railway_is_same.dvs K) [] (ma K (ga K "Railway") "is_same") fd := T.c.dfn 8 (d := d_Railway_is_same) rfl rfl
theorem f_is_order (T : Tx K mg) : ∃ fd, FunD K "is_order" "is_order" (defArgs s_is_order) (defBody s_is_order) (defScope s_is_order) (d_is_order.dvs K) [] (ga K "is_order") fd := T.c.dfn 9 (d := d_is_order) rfl rfl
theorem f_renamed (T : Tx K mg) : ∃ fd, FunD K "renamed" "renamed" (defArgs s_renamed) (defBody s_renamed) (defScope s_renamed) (d_renamed.dvs K) [] (ga K "renamed") fd := T.c.dfn 10 (d := d_renamed) rfl rfl
theorem f__law_begin (T : Tx K mg) : ∃ fd, FunD K "_law_begin" "_law_begin" (defArgs s__law_begin) (defBody s__law_begin) (defScope s__law_begin) (d__law_begin.dvs K) [] (ga K "_law_begin") fd := T.c.dfn 11 (d := d__law_begin) rfl rfl
theorem f__law_mixed (T : Tx K mg) : ∃ fd, FunD K "_law_mixed" "_law_mixed" (defArgs s__law_mixed) (defBody s__law_mixed) (defScope s__law_mixed) (d__law_mixed.dvs K) [] (ga K "_law_mixed") fd := T.c.dfn 12 (d := d__law_mixed) rfl rfl
theorem f__law_next (T : Tx K mg) : ∃ fd, FunD K "_law_next" "_law_next" (defArgs s__law_next) (defBody s__law_next) (defScope s__law_next) (d__law_next.dvs K) [] (ga K "_law_next") fd := T.c.dfn 13 (d := d__law_next) rfl rfl
theorem f__law_tracks (T : Tx K mg) : ∃ fd, FunD K "_law_tracks" "_law_tracks" (defArgs s__law_tracks) (defBody s__law_tracks) (defScope s__law_tracks) (d__law_tracks.dvs K) [] (ga K "_law_tracks") fd := T.c.dfn 14 (d := d__law_tracks) rfl rfl
theorem f__law_refused (T : Tx K mg) : ∃ fd, FunD K "_law_refused" "_law_refused" (defArgs s__law_refused) (defBody s__law_refused) (defScope s__law_refused) (d__law_refused.dvs K) [] (ga K "_law_refused") fd := T.c.dfn 15 (d := d__law_refused) rfl rfl
theorem f__law_order (T : Tx K mg) : ∃ fd, FunD K "_law_order" "_law_order" (defArgs s__law_order) (defBody s__law_order) (defScope s__law_order) (d__law_order.dvs K) [] (ga K "_law_order") fd := T.c.dfn 16 (d := d__law_order) rfl rfl
theorem f__law_no_order (T : Tx K mg) : ∃ fd, FunD K "_law_no_order" "_law_no_order" (defArgs s__law_no_order) (defBody s__law_no_order) (defScope s__law_no_order) (d__law_no_order.dvs K) [] (ga K "_law_no_order") fd := T.c.dfn 17 (d := d__law_no_order) rfl rfl
theorem f__law_right (T : Tx K mg) : ∃ fd, FunD K "_law_right" "_law_right" (defArgs s__law_right) (defBody s__law_right) (defScope s__law_right) (d__law_right.dvs K) [] (ga K "_law_right") fd := T.c.dfn 18 (d := d__law_right) rfl rfl
theorem f_law (T : Tx K mg) : ∃ fd, FunD K "law" "law" (defArgs s_law) (defBody s_law) (defScope s_law) (d_law.dvs K) [] (ga K "law") fd := T.c.dfn 19 (d := d_law) rfl rfl
theorem g_InvalidOrder (T : Tx K mg) : mg "InvalidOrder" = some (.ref (ga K "InvalidOrder")) := let ⟨_, X, G⟩ := T.h; He.glo_ok X G (T.c.at 0 rfl)
theorem g_InvalidTracks (T : Tx K mg) : mg "InvalidTracks" = some (.ref (ga K "InvalidTracks")) := let ⟨_, X, G⟩ := T.h; He.glo_ok X G (T.c.at 1 rfl)
theorem g_MissingError (T : Tx K mg) : mg "MissingError" = some (.ref (ga K "MissingError")) := let ⟨_, X, G⟩ := T.h; He.glo_ok X G (T.c.at 2 rfl)
theorem g_RailError (T : Tx K mg) : mg "RailError" = some (.ref (ga K "RailError")) := let ⟨_, X, G⟩ := T.h; He.glo_ok X G (T.c.at 3 rfl)
theorem g_Railway (T : Tx K mg) : mg "Railway" = some (.ref (ga K "Railway")) := let ⟨_, X, G⟩ := T.h; He.glo_ok X G (T.c.at 4 rfl)
theorem g_RunError (T : Tx K mg) : mg "RunError" = some (.ref (ga K "RunError")) := let ⟨_, X, G⟩ := T.h; He.glo_ok X G (T.c.at 5 rfl)
theorem g__law_begin (T : Tx K mg) : mg "_law_begin" = some (.ref (ga K "_law_begin")) := let ⟨_, X, G⟩ := T.h; He.glo_ok X G (T.c.at 6 rfl)
theorem g__law_mixed (T : Tx K mg) : mg "_law_mixed" = some (.ref (ga K "_law_mixed")) := let ⟨_, X, G⟩ := T.h; He.glo_ok X G (T.c.at 7 rfl)
theorem g__law_next (T : Tx K mg) : mg "_law_next" = some (.ref (ga K "_law_next")) := let ⟨_, X, G⟩ := T.h; He.glo_ok X G (T.c.at 8 rfl)
theorem g__law_no_order (T : Tx K mg) : mg "_law_no_order" = some (.ref (ga K "_law_no_order")) := let ⟨_, X, G⟩ := T.h; He.glo_ok X G (T.c.at 9 rfl)
theorem g__law_order (T : Tx K mg) : mg "_law_order" = some (.ref (ga K "_law_order")) := let ⟨_, X, G⟩ := T.h; He.glo_ok X G (T.c.at 10 rfl)
theorem g__law_refused (T : Tx K mg) : mg "_law_refused" = some (.ref (ga K "_law_refused")) := let ⟨_, X, G⟩ := T.h; He.glo_ok X G (T.c.at 11 rfl)
theorem g__law_right (T : Tx K mg) : mg "_law_right" = some (.ref (ga K "_law_right")) := let ⟨_, X, G⟩ := T.h; He.glo_ok X G (T.c.at 12 rfl)
theorem g__law_tracks (T : Tx K mg) : mg "_law_tracks" = some (.ref (ga K "_law_tracks")) := let ⟨_, X, G⟩ := T.h; He.glo_ok X G (T.c.at 13 rfl)
theorem u_all (T : Tx K mg) : mg "all" = none := let ⟨_, X, G⟩ := T.h; He.free_ok X G (T.c.at 14 rfl)
theorem u_bool (T : Tx K mg) : mg "bool" = none := let ⟨_, X, G⟩ := T.h; He.free_ok X G (T.c.at 15 rfl)
theorem u_enumerate (T : Tx K mg) : mg "enumerate" = none := let ⟨_, X, G⟩ := T.h; He.free_ok X G (T.c.at 16 rfl)
theorem g_hops_from (T : Tx K mg) : mg "hops_from" = some (.ref (ga K "hops_from")) := let ⟨_, X, G⟩ := T.h; He.glo_ok X G (T.c.at 17 rfl)
theorem u_int (T : Tx K mg) : mg "int" = none := let ⟨_, X, G⟩ := T.h; He.free_ok X G (T.c.at 18 rfl)
theorem g_is_integer (T : Tx K mg) : mg "is_integer" = some (.ref (ga K "is_integer")) := let ⟨_, X, G⟩ := T.h; He.glo_ok X G (T.c.at 19 rfl)
theorem g_is_order (T : Tx K mg) : mg "is_order" = some (.ref (ga K "is_order")) := let ⟨_, X, G⟩ := T.h; He.glo_ok X G (T.c.at 20 rfl)
theorem g_is_track (T : Tx K mg) : mg "is_track" = some (.ref (ga K "is_track")) := let ⟨_, X, G⟩ := T.h; He.glo_ok X G (T.c.at 21 rfl)
theorem u_isinstance (T : Tx K mg) : mg "isinstance" = none := let ⟨_, X, G⟩ := T.h; He.free_ok X G (T.c.at 22 rfl)
theorem g_law (T : Tx K mg) : mg "law" = some (.ref (ga K "law")) := let ⟨_, X, G⟩ := T.h; He.glo_ok X G (T.c.at 23 rfl)
theorem u_len (T : Tx K mg) : mg "len" = none := let ⟨_, X, G⟩ := T.h; He.free_ok X G (T.c.at 24 rfl)
theorem u_list (T : Tx K mg) : mg "list" = none := let ⟨_, X, G⟩ := T.h; He.free_ok X G (T.c.at 25 rfl)
theorem u_max (T : Tx K mg) : mg "max" = none := let ⟨_, X, G⟩ := T.h; He.free_ok X G (T.c.at 26 rfl)
theorem u_min (T : Tx K mg) : mg "min" = none := let ⟨_, X, G⟩ := T.h; He.free_ok X G (T.c.at 27 rfl)
theorem u_range (T : Tx K mg) : mg "range" = none := let ⟨_, X, G⟩ := T.h; He.free_ok X G (T.c.at 28 rfl)
theorem g_renamed (T : Tx K mg) : mg "renamed" = some (.ref (ga K "renamed")) := let ⟨_, X, G⟩ := T.h; He.glo_ok X G (T.c.at 29 rfl)
theorem u_repr (T : Tx K mg) : mg "repr" = none := let ⟨_, X, G⟩ := T.h; He.free_ok X G (T.c.at 30 rfl)
theorem u_sorted (T : Tx K mg) : mg "sorted" = none := let ⟨_, X, G⟩ := T.h; He.free_ok X G (T.c.at 31 rfl)
theorem u_str (T : Tx K mg) : mg "str" = none := let ⟨_, X, G⟩ := T.h; He.free_ok X G (T.c.at 32 rfl)
theorem u_super (T : Tx K mg) : mg "super" = none := let ⟨_, X, G⟩ := T.h; He.free_ok X G (T.c.at 33 rfl)
theorem g_track_faults (T : Tx K mg) : mg "track_faults" = some (.ref (ga K "track_faults")) := let ⟨_, X, G⟩ := T.h; He.glo_ok X G (T.c.at 34 rfl)
theorem u_tuple (T : Tx K mg) : mg "tuple" = none := let ⟨_, X, G⟩ := T.h; He.free_ok X G (T.c.at 35 rfl)
theorem x_InvalidOrder (T : Tx K mg) : XcL K (ga K "InvalidOrder") := bLook_ok (T.c.at 36 rfl)
theorem t_InvalidOrder : XcT (defArgs s_InvalidOrder_init) (defBody s_InvalidOrder_init) (defScope s_InvalidOrder_init) "self" [("value" : Str)] ([("value" : Str)].map fun f => (f, f)) := by
  refine ⟨⟨_, _, _, _, _, _, _, _, _, rfl, fun _ _ _ _ _ => ⟨rfl, _, rfl⟩, _, _, _, _, rfl⟩, ⟨_, rfl, rfl⟩, rfl, rfl, by decide +kernel, rfl, rfl, rfl, by decide +kernel, by decide +kernel, ?_, by decide +kernel, by decide +kernel⟩
  intro _ _ _ _ _ _ _ _ _ us hl
  match us, hl with
  | [_, _], _ => rfl
theorem e_InvalidOrder (T : Tx K mg) : ErC PP K "InvalidOrder" ["value"] := ErC.of (d := d_InvalidOrder_init) (sf := "self") (T.c.at 37 rfl) rfl (T.c.obs (List.mem_of_getElem? (i := 20) rfl)) rfl rfl rfl t_InvalidOrder (by decide +kernel)
theorem x_InvalidTracks (T : Tx K mg) : XcL K (ga K "InvalidTracks") := bLook_ok (T.c.at 38 rfl)
theorem x_MissingError (T : Tx K mg) : XcL K (ga K "MissingError") := bLook_ok (T.c.at 39 rfl)
theorem x_RailError (T : Tx K mg) : XcL K (ga K "RailError") := bLook_ok (T.c.at 40 rfl)
theorem x_RunError (T : Tx K mg) : XcL K (ga K "RunError") := bLook_ok (T.c.at 41 rfl)
theorem c_Railway (T : Tx K mg) : Cls K (ga K "Railway") := He.cls_ok (T.c.at 42 rfl)
theorem r_Railway (T : Tx K mg) : ClX.CRead K (ga K "Railway") (.type "type") := bRead_ok (T.c.at 43 rfl)
theorem see_Railway (T : Tx K mg) : See K (ga K "Railway") := bSee_ok (T.c.at 44 rfl)
theorem n_Railway_gaps (T : Tx K mg) : NoAttr K (ga K "Railway") "gaps" := He.noat_ok (T.c.at 45 rfl)
theorem n_Railway_hops (T : Tx K mg) : NoAttr K (ga K "Railway") "hops" := He.noat_ok (T.c.at 46 rfl)
theorem n_Railway_links (T : Tx K mg) : NoAttr K (ga K "Railway") "links" := He.noat_ok (T.c.at 47 rfl)
theorem v_Railway_MOST_STATIONS (T : Tx K mg) : ∃ u, ClX.CVal K (ga K "Railway") (.type "type") "MOST_STATIONS" (.int 100) u := bConst_ok (T.c.at 48 rfl)
theorem m_Railway_init (T : Tx K mg) : Mk K (ga K "Railway") (ma K (ga K "Railway") "__init__") := He.mkr_ok (T.c.at 49 rfl)
theorem m_Railway_of (T : Tx K mg) : ClX.CMet K (ga K "Railway") (.type "type") "of" (ma K (ga K "Railway") "of") (ca K "Railway" "of") := bCM_ok (T.c.at 50 rfl)
theorem m_Railway_size (T : Tx K mg) : PropOf K (ga K "Railway") "size" (ma K (ga K "Railway") "size") (pa K "Railway" "size") := bProp_ok (T.c.at 51 rfl)
theorem m_Railway_tracks (T : Tx K mg) : PropOf K (ga K "Railway") "tracks" (ma K (ga K "Railway") "tracks") (pa K "Railway" "tracks") := bProp_ok (T.c.at 52 rfl)
theorem m_Railway_is_same (T : Tx K mg) : Meth K (ga K "Railway") "is_same" (ma K (ga K "Railway") "is_same") := He.meth_ok (T.c.at 53 rfl)
theorem x3_InvalidOrder (T : Tx K mg) : PySem.W.exmAny K (.ref (ga K "InvalidOrder")) [.ref (ga K "RailError"), .ref (ga K "RunError"), .ref (ga K "MissingError")] = some true := bExc_ok (T.c.at 54 rfl)
theorem y_InvalidOrder_RailError (T : Tx K mg) : PySem.W.kitOne K (.ref (ga K "InvalidOrder")) (.ref (ga K "RailError")) = some true := bKit_ok (T.c.at 55 rfl)
theorem na_InvalidOrder_value (T : Tx K mg) : NoAttr K (ga K "InvalidOrder") "value" := He.noat_ok (T.c.at 56 rfl)
end
end TT
namespace TT
open PySem PySem.Spec PyProof.Rows L2
open He (ga ma)
/-- a whole number, no truth -/
def isI : PyData → Bool
  | .int _ => true
  | _ => false
def sp_is_integer (K : PySem.W.Frag) : Sp := fun vs H Q E => ∃ (v : V) (d : PyData), vs = [v] ∧ Dp K H v d ∧ Q (.bl (isI d)) H
theorem sc_is_integer : FnScope ["value"] ["value"] (defScope s_is_integer) := ⟨rfl, rfl, rfl, by decide +kernel, rfl, by decide +kernel, by decide +kernel⟩
theorem a_is_integer {w : World} {K : PySem.W.Frag} {mg : Str → Option Value} {base : Heap} (T : Tx K mg) {fd : FuncData} (F : FunD K "is_integer" "is_integer" (defArgs s_is_integer) (defBody s_is_integer) (defScope s_is_integer) (d_is_integer.dvs K) [] (ga K "is_integer") fd) : FnA PP w K mg base 1 (ga K "is_integer") fd ["value"] (sp_is_integer K) := by
  refine fnA_of F sc_is_integer fun cdv A outer s H vs Q E hr h => ?_
  have nd := sc_is_integer.nd
  obtain ⟨v, d, rfl, h⟩ := h
  refine ⟨_, (pss_one (ps_ret (pe_and (zb (r := rIsD K "int") (call_isD "int") rfl (u_isinstance T) (pa_cons (pv 0) (pa_cons (zty "int" rfl (u_int T)) pa_nil))) (pe_one (pe_not (zb (r := rIsD K "bool") (call_isD "bool") rfl (u_isinstance T) (pa_cons (pv 0) (pa_cons (zty "bool" rfl (u_bool T)) pa_nil)))))))), ?_⟩
  obtain ⟨h, q⟩ := h
  have fin : ∀ b c : Bool, kitB (tyD d) "int" = some b → kitB (tyD d) "bool" = some c → (b && !c) = isI d → tRet (tAndV (tCB (rIsD K "int") (tCons (tVar 0) (tCons (tC (.ty "int")) tNil))) (tNotV (tCB (rIsD K "bool") (tCons (tVar 0) (tCons (tC (.ty "bool")) tNil))))) { nx := fun _ H' => Q .non H', rt := Q } (start ["value"] [v]) H := by
    intro b c hb hc e
    refine ⟨v, rfl, v, d, b, rfl, h, hb, b, rfl, ?_⟩
    cases b with
    | false => rw [← e] at q; exact q
    | true => exact ⟨v, rfl, v, d, c, rfl, h, hc, c, rfl, by rw [← e] at q; exact q⟩
  cases d with
  | none => exact fin false false kb_non_int kb_non_bool rfl
  | bool b => exact fin true true kb_bool_int kb_bool_bool rfl
  | int b => exact fin true false kb_int_int kb_int_bool rfl
  | str b => exact fin false false kb_str_int kb_str_bool rfl
  | list b => exact fin false false kb_list_int kb_list_bool rfl
  | tuple b => exact fin false false kb_tup_int kb_tup_bool rfl
  | dict b => cases h
theorem k_is_integer {w : World} {K : PySem.W.Frag} {mg : Str → Option Value} {base : Heap} (T : Tx K mg) : Cl PP w K mg base 1 "is_integer" (sp_is_integer K) := by
  obtain ⟨fd, F⟩ := f_is_integer T
  refine ⟨?_, g_is_integer T, F.kp⟩
  refine (a_is_integer T F).pos0 (FunD.bindsN F fun _ _ _ _ _ _ us hl => match us, hl with | [_], _ => rfl) (fun vs H Q E h => ?_)
  obtain ⟨_, _, rfl, _⟩ := h
  rfl
def sp_is_track (K : PySem.W.Frag) : Sp := fun vs H Q E => ∃ (v : V) (e : Nat × Nat) (n : Nat), vs = [v, .int n] ∧ Dp K H v (dE e) ∧ e.1 < n ∧ e.2 < n ∧ e.1 ≠ e.2 ∧ Q (.bl true) H
theorem sc_is_track : FnScope ["value", "count"] ["value", "count"] (defScope s_is_track) := ⟨rfl, rfl, rfl, by decide +kernel, rfl, by decide +kernel, by decide +kernel⟩
theorem a_is_track {w : World} {K : PySem.W.Frag} {mg : Str → Option Value} {base : Heap} (T : Tx K mg) {fd : FuncData} (F : FunD K "is_track" "is_track" (defArgs s_is_track) (defBody s_is_track) (defScope s_is_track) (d_is_track.dvs K) [] (ga K "is_track") fd) : FnA PP w K mg base 2 (ga K "is_track") fd ["value", "count"] (sp_is_track K) := by
  refine fnA_of F sc_is_track fun cdv A outer s H vs Q E hr h => ?_
  have nd := sc_is_track.nd
  obtain ⟨v, e, n, rfl, h⟩ := h
  refine ⟨_, (pss_cons (ps_if (PW.pt (pw_or (pt_not (pt_val (zb (r := rIsD K "tuple") (call_isD "tuple") rfl (u_isinstance T) (pa_cons (pv 0) (pa_cons (zty "tuple" rfl (u_tuple T)) pa_nil))))) (pw_or (pt_cmpR op_ne (zb (r := rLenD K) call_lenD rfl (u_len T) (pa_cons (pv 0) pa_nil)) pe_int (nomark _)) (pw_or (pt_not (pt_val (pc_call (k_is_integer T) (hr.mono (by decide)) rfl pX (pa_cons (pe_ix (r := rIxD K) ix_dp (pv 0) pe_int (fun _ _ => rfl)) pa_nil)))) (pw_or1 (pt_not (pt_val (pc_call (k_is_integer T) (hr.mono (by decide)) rfl pX (pa_cons (pe_ix (r := rIxD K) ix_dp (pv 0) pe_int (fun _ _ => rfl)) pa_nil))))))))) (pss_one (ps_ret pe_bl)) pss_nil)
      (pss_one (ps_ret (pe_and (pe_chain op_le op_lt pe_int (pe_ix (r := rIxD K) ix_dp (pv 0) pe_int (fun _ _ => rfl)) (pv 1)) (pe_and (pe_chain op_le op_lt pe_int (pe_ix (r := rIxD K) ix_dp (pv 0) pe_int (fun _ _ => rfl)) (pv 1)) (pe_one (pe_cmpR op_ne (pe_ix (r := rIxD K) ix_dp (pv 0) pe_int (fun _ _ => rfl)) (pe_ix (r := rIxD K) ix_dp (pv 0) pe_int (fun _ _ => rfl)) (nomark _)))))))), ?_⟩
  obtain ⟨h, h1, h2, h3, q⟩ := h
  have g0 : ([.int (e.1 : Int), .int (e.2 : Int)] : List PyData)[0]? = some (.int (e.1 : Int)) := rfl
  have g1 : ([.int (e.1 : Int), .int (e.2 : Int)] : List PyData)[1]? = some (.int (e.2 : Int)) := rfl
  refine ⟨v, rfl, v, _, true, rfl, h, kb_tup_tup, true, rfl, ?_⟩
  refine iff_f rfl ?_
  refine ⟨v, rfl, v, _, rfl, .inr h, rfl, _, rfl, ?_⟩
  refine iff_f (by simp [dI_eq]) ?_
  refine ⟨v, rfl, _, 0, _, .inr h, rfl, g0, fun v0 d0 => ?_⟩
  refine ⟨_, _, rfl, d0, true, rfl, ?_⟩
  refine iff_f rfl ?_
  refine ⟨v, rfl, _, 1, _, .inr h, rfl, g1, fun v1 d1 => ?_⟩
  refine ⟨_, _, rfl, d1, true, rfl, ?_⟩
  refine iff_f rfl ?_
  have z1 : (0 : Int) ≤ (e.1 : Int) := by omega
  have z2 : (0 : Int) ≤ (e.2 : Int) := by omega
  have z3 : (e.1 : Int) < (n : Int) := by omega
  have z4 : (e.2 : Int) < (n : Int) := by omega
  have z5 : ¬ (e.1 : Int) = (e.2 : Int) := by omega
  refine ⟨v, rfl, _, 0, _, .inr h, rfl, g0, fun v2 d2 => ?_⟩
  obtain rfl := dp_int d2
  refine ⟨_, _, rfl, rfl, _, rfl, iff_t (by simp [z1]) ?_⟩
  refine ⟨_, rfl, _, _, rfl, rfl, _, rfl, iff_t (by simp [z3]) ?_⟩
  refine ⟨v, rfl, _, 1, _, .inr h, rfl, g1, fun v2 d2 => ?_⟩
  obtain rfl := dp_int d2
  refine ⟨_, _, rfl, rfl, _, rfl, iff_t (by simp [z2]) ?_⟩
  refine ⟨_, rfl, _, _, rfl, rfl, _, rfl, iff_t (by simp [z4]) ?_⟩
  refine ⟨v, rfl, _, 0, _, .inr h, rfl, g0, fun v2 d2 => ?_⟩
  refine ⟨v, rfl, _, 1, _, .inr h, rfl, g1, fun v3 d3 => ?_⟩
  obtain rfl := dp_int d2
  obtain rfl := dp_int d3
  refine ⟨rfl, ?_⟩
  have ee : (!decide (V.int (e.1 : Int) = V.int (e.2 : Int))) = true := by simp [dI_eq, z5]
  show Q (.bl (!decide (V.int (e.1 : Int) = V.int (e.2 : Int)))) H
  rw [ee]
  exact q
theorem k_is_track {w : World} {K : PySem.W.Frag} {mg : Str → Option Value} {base : Heap} (T : Tx K mg) : Cl PP w K mg base 2 "is_track" (sp_is_track K) := by
  obtain ⟨fd, F⟩ := f_is_track T
  refine ⟨?_, g_is_track T, F.kp⟩
  refine (a_is_track T F).pos0 (FunD.bindsN F fun _ _ _ _ _ _ us hl => match us, hl with | [_, _], _ => rfl) (fun vs H Q E h => ?_)
  obtain ⟨_, _, _, rfl, _⟩ := h
  rfl
def sp_track_faults (K : PySem.W.Frag) : Sp := fun vs H Q E => ∃ (a : V) (n : Nat) (E0 : Tr), vs = [a] ∧ Dp K H a (dT E0) ∧ Tree n E0 ∧ ∀ H' p, Same H H' → H p = none → H' p = some (.lst []) → Q (.ref p) H'
theorem sc_track_faults : FnScope ["tracks", "count", "group", "position", "track", "kept", "gone", "one"] ["tracks"] (defScope s_track_faults) := ⟨rfl, rfl, rfl, by decide +kernel, rfl, by decide +kernel, by decide +kernel⟩
theorem a_track_faults {w : World} {K : PySem.W.Frag} {mg : Str → Option Value} {base : Heap} (T : Tx K mg) {fd : FuncData} (F : FunD K "track_faults" "track_faults" (defArgs s_track_faults) (defBody s_track_faults) (defScope s_track_faults) (d_track_faults.dvs K) [] (ga K "track_faults") fd) : FnA PP w K mg base 3 (ga K "track_faults") fd ["tracks"] (sp_track_faults K) := by
  refine fnA_of F sc_track_faults fun cdv A outer s H vs Q E hr h => ?_
  have nd := sc_track_faults.nd
  obtain ⟨a, n, E0, rfl, h⟩ := h
  refine ⟨_, (pss_cons (zset 1 nd (pe_op op_add (zb (r := rLenA K) call_len rfl (u_len T) (pa_cons (pv 0) pa_nil)) pe_int))
      (pss_cons (ps_if (pt_cmpR op_gt (pv 1) (zcv (zcl rfl (g_Railway T)) (r_Railway T) (v_Railway_MOST_STATIONS T)) (nomark _)) (pss_one (ps_ret (pe_lst (pa_cons pe_non pa_nil)))) pss_nil)
      (pss_cons (zset 2 nd (pe_listRg rfl rfl (u_list T) (prg_1 rfl (u_range T) (pv 1))))
      (pss_cons (ps_for poX rfl (qenumT (K := K) rfl (u_enumerate T) (pa_cons (pv 0) pa_nil)) (qgt (K := K) (n := 2) rfl (pgs_cons (zg 3 nd) (pgs_cons (zg 4 nd) pgs_nil))) (pss_cons (ps_if (PW.pt (pw_or (pt_not (pt_val (pc_call (k_is_track T) (hr.mono (by decide)) rfl pX (pa_cons (pv 4) (pa_cons (pv 1) pa_nil))))) (pw_or1 (pt_cmpR op_eq (pe_ix (r := rIxL K) ix_list (pv 2) (pe_ix (r := rIxD K) ix_dp (pv 4) pe_int (fun _ _ => rfl)) (fun _ _ => rfl)) (pe_ix (r := rIxL K) ix_list (pv 2) (pe_ix (r := rIxD K) ix_dp (pv 4) pe_int (fun _ _ => rfl)) (fun _ _ => rfl)) (nomark _))))) (pss_one (ps_ret (pe_lst (pa_cons (pv 3) pa_nil)))) pss_nil)
      (pss_cons (ps_asg (pe_tup (pa_cons (pe_ix (r := rIxL K) ix_list (pv 2) (pe_ix (r := rIxD K) ix_dp (pv 4) pe_int (fun _ _ => rfl)) (fun _ _ => rfl)) (pa_cons (pe_ix (r := rIxL K) ix_list (pv 2) (pe_ix (r := rIxD K) ix_dp (pv 4) pe_int (fun _ _ => rfl)) (fun _ _ => rfl)) pa_nil))) (qgt (K := K) (n := 2) rfl (pgs_cons (zg 5 nd) (pgs_cons (zg 6 nd) pgs_nil))))
      (pss_one (ps_setLc (i := 2) (own := [("one", 7)]) rfl nd rfl rfl (sw_true rfl rfl rfl (by decide +kernel)) (qlist (K := K) (pv 2)) (blkOk_by (N := ["tracks", "count", "group", "position", "track", "kept", "gone", "one"]) (sc := defScope s_track_faults) (by decide +kernel)) (fun _ _ _ _ _ => (zg 7 nd)) (fun _ _ _ _ _ => pts_nil) (fun _ _ _ _ _ => (pe_ifExp (pt_cmpR op_eq (pv 7) (pv 6) (nomark _)) (pv 5) (pv 7))))))))
      (pss_one (ps_ret (pe_lst pa_nil))))))), ?_⟩
  obtain ⟨h, t, q⟩ := h
  obtain ⟨a0, xs, rfl, hs, hd⟩ := dp_tup h
  have hl : xs.length = E0.length := by rw [dpa_len hd, List.length_map]
  refine ⟨_, rfl, _, xs.length, rfl, .inr ⟨xs, hs, rfl⟩, _, _, rfl, rfl, ?_⟩
  refine ⟨_, rfl, rfl, _, _, rfl, rfl, _, rfl, iff_f ?_ ?_⟩
  · have := t.len
    have := t.most
    simp
    omega
  have hn : (xs.length : Int) + 1 = (n : Int) := by have := t.len; omega
  have hm := t.most
  dsimp only
  rw [hn]
  refine ⟨_, rfl, _, rfl, RgOk.of_le (by omega) (by omega) (by omega) (by omega), fun pg hpg => ?_⟩
  rw [rgV_nat]
  have s0 : Same H (upd H pg (.lst (vN (List.range n)))) := same_upd hpg
  refine ⟨_, rfl, _, _, rfl, same_seqT s0 hs, for_it (n := xs.length) (fun i σ H' => ∃ (g : List Nat) (pg : Addr) (v3 v4 v5 v6 : Option V), σ = [some (.ref a0), some (.int (n : Int)), some (.ref pg), v3, v4, v5, v6, none] ∧ Same H H' ∧ H' pg = some (.lst (vN g)) ∧ GrpOk E0 i n g)
    ⟨_, pg, none, none, none, none, rfl, s0, upd_same, grp_start E0 n⟩ ?_ ?_ ?_ ?_⟩
  · rintro i σ H' hi ⟨g, pg, v3, v4, v5, v6, rfl, s1, _⟩
    exact ⟨xs, xs[i], same_seqT s1 hs, List.getElem?_eq_getElem hi⟩
  · rintro σ H' ⟨g, pg, v3, v4, v5, v6, rfl, s1, _⟩
    exact ⟨xs, same_seqT s1 hs, rfl⟩
  · rintro i x σ H1 H2 hi ⟨g, pg, v3, v4, v5, v6, rfl, s1, hg, G⟩ ⟨T0, y, rfl, hT, rfl, hy⟩
    have hy := hy xs (same_seqT s1 hs)
    have s2 : Same H1 (upd H1 T0 (.tup [.int (i : Nat), y])) := same_upd hT
    obtain ⟨e, he, hye⟩ : ∃ e, E0[i]? = some e ∧ Dp K H y (dE e) := by
      obtain ⟨d, hd1, hd2⟩ := dpa_at hd hy
      rw [List.getElem?_map] at hd1
      obtain ⟨e, he, rfl⟩ := Option.map_eq_some_iff.mp hd1
      exact ⟨e, he, hd2⟩
    have hm := List.mem_of_getElem? he
    have hr2 := t.rng e hm
    have hne := t.ne hm
    obtain ⟨ga0, hga⟩ : ∃ a, g[e.1]? = some a := ⟨_, List.getElem?_eq_getElem (by rw [G.1]; exact hr2.1)⟩
    obtain ⟨gb0, hgb⟩ : ∃ a, g[e.2]? = some a := ⟨_, List.getElem?_eq_getElem (by rw [G.1]; exact hr2.2)⟩
    have hab := grp_ne t.cut G he hga hgb
    have g0 : ([.int (e.1 : Int), .int (e.2 : Int)] : List PyData)[0]? = some (.int (e.1 : Int)) := rfl
    have g1 : ([.int (e.1 : Int), .int (e.2 : Int)] : List PyData)[1]? = some (.int (e.2 : Int)) := rfl
    refine ⟨T0, _, rfl, SqT.of upd_same, rfl, _, _, rfl, _, _, rfl, rfl, ?_⟩
    have dy := dp_same s2 (dp_same s1 hye)
    have hg2 := s2 _ _ hg
    -- not is_track(track, count) or group[..] == group[..]
    refine ⟨_, rfl, _, rfl, y, e, n, rfl, dy, hr2.1, hr2.2, hne, true, rfl, ?_⟩
    refine iff_f rfl ?_
    refine ⟨_, rfl, _, rfl, _, 0, _, .inr dy, rfl, g0, fun v d => ?_⟩
    obtain rfl := dp_int d
    refine ⟨pg, _, _, _, rfl, rfl, SqL.of hg2, atI_nat (vN_get hga), ?_⟩
    refine ⟨_, rfl, _, rfl, _, 1, _, .inr dy, rfl, g1, fun v d => ?_⟩
    obtain rfl := dp_int d
    refine ⟨pg, _, _, _, rfl, rfl, SqL.of hg2, atI_nat (vN_get hgb), ?_⟩
    refine ⟨rfl, _, rfl, ?_⟩
    refine iff_f (by simp [dI_eq]; omega) ?_
    -- kept, gone = ..
    refine ⟨_, rfl, _, rfl, _, 0, _, .inr dy, rfl, g0, fun v d => ?_⟩
    obtain rfl := dp_int d
    refine ⟨pg, _, _, _, rfl, rfl, SqL.of hg2, atI_nat (vN_get hga), ?_⟩
    refine ⟨_, rfl, _, rfl, _, 1, _, .inr dy, rfl, g1, fun v d => ?_⟩
    obtain rfl := dp_int d
    refine ⟨pg, _, _, _, rfl, rfl, SqL.of hg2, atI_nat (vN_get hgb), ?_⟩
    refine ⟨by show 2 ≤ sizeLine; decide, fun T1 hT1 => ?_⟩
    refine ⟨T1, _, rfl, SqT.of upd_same, rfl, _, _, rfl, _, _, rfl, rfl, ?_⟩
    have s3 := s2.trans (same_upd (o := .tup [V.int (ga0 : Nat), V.int (gb0 : Nat)]) hT1)
    have hg3 := s3 _ _ hg
    -- group = [..]
    refine ⟨_, rfl, pg, rfl, ⟨_, SqL.of hg3⟩, fun D hD => ?_⟩
    refine lc_list (xs := vN g) (LcP K _ D fun i => ((g.map fun one => if one = gb0 then ga0 else one).take i).map nI) (lcp_start hD rfl) (fun i H' _ I => SqL.of (I.1 _ _ hg3)) ?_ ?_
    · intro j x H' hx I
      obtain ⟨a, ha, rfl⟩ := vN_at hx
      have hj := (List.getElem?_eq_some_iff.mp ha).1
      have hF : ∀ b : Nat, (if a = gb0 then ga0 else a) = b → (((g.map fun one => if one = gb0 then ga0 else one).take (j + 1)).map nI) = (((g.map fun one => if one = gb0 then ga0 else one).take j).map nI) ++ [nI b] := fun b hb => by
        rw [List.take_add_one, List.map_append, List.getElem?_map, ha]
        simp [hb]
      have hz : ((((g.map fun one => if one = gb0 then ga0 else one).take j).map nI)).length < sizeLine := by
        have := G.1
        have := t.most
        rw [sizeLine_eq]
        simp
        omega
      refine ⟨rfl, _, rfl, _, rfl, rfl, _, rfl, iff_b (fun hc => ?_) fun hc => ?_⟩
      · have hab : (a : Int) = (gb0 : Int) := by simpa [dI_eq] using hc
        have hab : a = gb0 := by omega
        exact ⟨_, rfl, lcp_put0 hD I (Same.refl _) (Dp.int _) rfl (hF ga0 (by rw [if_pos hab])) hz⟩
      · have hab : ¬ (a : Int) = (gb0 : Int) := by simpa [dI_eq] using hc
        have hab : ¬ a = gb0 := by omega
        exact ⟨_, rfl, lcp_put0 hD I (Same.refl _) (Dp.int _) rfl (hF a (by rw [if_neg hab])) hz⟩
    · intro H' I
      obtain ⟨s4, _, acc, h1, h2⟩ := lcp_end I
      have e1 : (vN g).length = (g.map fun one => if one = gb0 then ga0 else one).length := by simp [vN]
      rw [e1, List.take_length] at h2
      rw [vN_of h2] at h1
      exact ⟨_, D, _, _, _, _, rfl, (s1.trans s3).trans s4, h1, grp_step G he hga hgb⟩
  · rintro σ H' ⟨g, pg, v3, v4, v5, v6, rfl, s1, _⟩
    exact ⟨by show 0 ≤ sizeLine; decide, fun p hp => q _ p (s1.trans (same_upd hp)) (s1.free hp) upd_same⟩
theorem k_track_faults {w : World} {K : PySem.W.Frag} {mg : Str → Option Value} {base : Heap} (T : Tx K mg) : Cl PP w K mg base 3 "track_faults" (sp_track_faults K) := by
  obtain ⟨fd, F⟩ := f_track_faults T
  refine ⟨?_, g_track_faults T, F.kp⟩
  refine (a_track_faults T F).pos0 (FunD.bindsN F fun _ _ _ _ _ _ us hl => match us, hl with | [_], _ => rfl) (fun vs H Q E h => ?_)
  obtain ⟨_, _, _, rfl, _⟩ := h
  rfl
def sp_hops_from (K : PySem.W.Frag) : Sp := fun vs H Q E => ∃ (l : Addr) (n r : Nat) (E0 : Tr), vs = [.ref l, .int (r : Int)] ∧ Dp K H (.ref l) (.list ((linksOf n E0).map dR)) ∧ Tree n E0 ∧ r < n ∧ ∀ H' t f b fs bs, Same H H' → H t = none → H f = none → H b = none → f ≠ b → H' t = some (.tup [.ref f, .ref b]) → H' f = some (.lst (vN fs)) → H' b = some (.lst (vN bs)) → Far n E0 r fs bs → Q (.ref t) H'
theorem sc_hops_from : FnScope ["links", "start", "far", "back", "waiting", "station", "other"] ["links", "start"] (defScope s_hops_from) := ⟨rfl, rfl, rfl, by decide +kernel, rfl, by decide +kernel, by decide +kernel⟩
theorem a_hops_from {w : World} {K : PySem.W.Frag} {mg : Str → Option Value} {base : Heap} (T : Tx K mg) {fd : FuncData} (F : FunD K "hops_from" "hops_from" (defArgs s_hops_from) (defBody s_hops_from) (defScope s_hops_from) (d_hops_from.dvs K) [] (ga K "hops_from") fd) : FnA PP w K mg base 1 (ga K "hops_from") fd ["links", "start"] (sp_hops_from K) := by
  refine fnA_of F sc_hops_from fun cdv A outer s H vs Q E hr h => ?_
  have nd := sc_hops_from.nd
  obtain ⟨l, n, r, E0, rfl, h⟩ := h
  refine ⟨_, (pss_cons (ps_par (i := 2) (j := 3) rfl nd rfl rfl (by decide) rfl rfl (pa_cons (pe_op op_rep (pe_lst (pa_cons pe_int pa_nil)) (zb (r := rLenA K) call_len rfl (u_len T) (pa_cons (pv 0) pa_nil))) (pa_cons (pe_op op_rep (pe_lst (pa_cons (pv 1) pa_nil)) (zb (r := rLenA K) call_len rfl (u_len T) (pa_cons (pv 0) pa_nil))) pa_nil)) rfl)
      (pss_cons (zset 4 nd (pe_lst (pa_cons (pv 1) pa_nil)))
      (pss_cons (ps_while poX (pt_cmpR (r := rNeD K) (op_neD (hr.r.units)) (pv 4) (pe_lst pa_nil) (nomark _)) (pss_cons (zset 5 nd (pe_bm0 PySem.F.plainAttrs_list PySem.F.slot_list_pop PySem.F.type_list_pop mt_pop (pv 4)))
      (pss_one (ps_for poX rfl (qtup (K := K) (pe_ix (r := rIxL K) ix_list (pv 0) (pv 5) (fun _ _ => rfl))) (zg 6 nd) (pss_one (ps_if (pt_cmpR op_ne (pv 6) (pe_ix (r := rIxL K) ix_list (pv 3) (pv 5) (fun _ _ => rfl)) (nomark _)) (pss_cons (ps_asg (pe_op op_add (pe_ix (r := rIxL K) ix_list (pv 2) (pv 5) (fun _ _ => rfl)) pe_int) (pg_sub (pv 2) (pv 6) set_list))
      (pss_cons (ps_asg (pv 5) (pg_sub (pv 3) (pv 6) set_list))
      (pss_one (ps_expr (pe_bm PySem.F.plainAttrs_list PySem.F.slot_list_append PySem.F.type_list_append mt_append (pv 4) (pa_cons (pv 6) pa_nil)))))) pss_nil))))))
      (pss_one (ps_ret (pe_tup (pa_cons (pv 2) (pa_cons (pv 3) pa_nil)))))))), ?_⟩
  obtain ⟨h, t, hr0, q⟩ := h
  obtain ⟨l0, ls, el, hls, hd⟩ := dp_lst h
  cases el
  have hlen : ls.length = n := by rw [dpa_len hd]; simp [linksOf]
  have hm := t.most
  have hn0 : (ls.length : Int) = (n : Int) := by rw [hlen]
  -- far, back = [0] * len(links), [start] * len(links)
  refine ⟨by show 1 ≤ sizeLine; decide, fun p1 hp1 => ?_⟩
  have s1 := same_upd (o := .lst [V.int 0]) hp1
  refine ⟨_, rfl, _, _, rfl, .inl ⟨ls, s1.seq hls, rfl⟩, ?_⟩
  rw [hn0]
  refine ⟨p1, _, _, rfl, rfl, upd_same, by omega, by omega, by simp [sizeLine_eq]; omega, ?_⟩
  rw [Int.toNat_natCast, show ([V.int 0] : List V) = [V.int ((0 : Nat) : Int)] from rfl, vN_rep n 0]
  intro f hf
  have s2 := s1.trans (same_upd (o := .lst (vN (List.replicate n 0))) hf)
  refine ⟨_, rfl, by show 1 ≤ sizeLine; decide, fun p2 hp2 => ?_⟩
  have s3 := s2.trans (same_upd (o := .lst [V.int (r : Int)]) hp2)
  refine ⟨_, rfl, _, _, rfl, .inl ⟨ls, s3.seq hls, rfl⟩, ?_⟩
  rw [hn0]
  refine ⟨p2, _, _, rfl, rfl, upd_same, by omega, by omega, by simp [sizeLine_eq]; omega, ?_⟩
  rw [Int.toNat_natCast, vN_rep n r]
  intro b hb
  have f2 : upd (upd H p1 (.lst [V.int ((0 : Nat) : Int)])) f (.lst (vN (List.replicate n 0))) f = some (.lst (vN (List.replicate n 0))) := upd_same
  have f3 := same_upd (o := .lst [V.int (r : Int)]) hp2 _ _ f2
  have s4 := s3.trans (same_upd (o := .lst (vN (List.replicate n r))) hb)
  have f4 := same_upd (o := .lst (vN (List.replicate n r))) hb _ _ f3
  have nfb : f ≠ b := ne_of_none f3 hb
  have hf0 : H f = none := s1.free hf
  have hb0 : H b = none := s3.free hb
  refine ⟨_, _, rfl, ?_⟩
  -- waiting = [start]
  refine ⟨_, rfl, by show 1 ≤ sizeLine; decide, fun wq hw => ?_⟩
  have hw0 : H wq = none := s4.free hw
  have nfw : f ≠ wq := ne_of_none f4 hw
  have nbw : b ≠ wq := ne_of_none upd_same hw
  have s5 := s4.trans (same_upd (o := .lst [V.int (r : Int)]) hw)
  have f5 := same_upd (o := .lst [V.int (r : Int)]) hw _ _ f4
  -- while waiting != []
  refine ⟨fun m σ H' => ∃ (P W fs bs : List Nat) (v5 v6 : Option V), m + P.length = n ∧ σ = [some (.ref l), some (.int (r : Int)), some (.ref f), some (.ref b), some (.ref wq), v5, v6] ∧ Same H H' ∧
    H' f = some (.lst (vN fs)) ∧ H' b = some (.lst (vN bs)) ∧ H' wq = some (.lst (vN W)) ∧ WkO n E0 r P W fs bs,
    ⟨n, [], [r], _, _, none, none, rfl, rfl, s5, f5, same_upd (o := .lst [V.int (r : Int)]) hw _ _ upd_same, upd_same, wk_start hr0⟩, ?_⟩
  rintro m σ H1 ⟨P, W, fs, bs, v5, v6, hm1, rfl, s6, h1, h2, h3, G⟩
  refine ⟨_, rfl, by show 0 ≤ sizeLine; decide, fun p5 hp5 => ?_⟩
  have s7 := same_upd (o := .lst []) hp5
  refine ⟨dN W, dN [], .lst (SqL.of (s7 _ _ h3)) (vN_dp W), .lst (SqL.of upd_same) .nil, shp_dN.ok (by decide), shp_dN.ok (by decide), _, rfl, ?_⟩
  rw [eqv_dN]
  refine iff_b (fun hc => ?_) fun hc => ?_
  · have hW : W ≠ [] := by simpa using hc
    obtain ⟨W0, st, hWc⟩ := (List.eq_nil_or_concat W).resolve_left hW
    obtain rfl : W = W0 ++ [st] := by rw [hWc]; simp
    have few := wk_few G
    simp at few
    have hst : st < n := G.rg st (by simp)
    refine ⟨fun σ' H' => ∃ (P' W' fs' bs' : List Nat) (v5 v6 : Option V), P'.length = P.length + 1 ∧ σ' = [some (.ref l), some (.int (r : Int)), some (.ref f), some (.ref b), some (.ref wq), v5, v6] ∧ Same H H' ∧
      H' f = some (.lst (vN fs')) ∧ H' b = some (.lst (vN bs')) ∧ H' wq = some (.lst (vN W')) ∧ WkO n E0 r P' W' fs' bs', ?_, ?_⟩
    · rintro σ' H' ⟨P', W', fs', bs', v5, v6, hP, rest⟩
      exact ⟨m - 1, by omega, P', W', fs', bs', v5, v6, by omega, rest⟩
    -- station = waiting.pop()
    have h3' := s7 _ _ h3
    have hlast : (vN (W0 ++ [st]))[(vN (W0 ++ [st])).length - 1]? = some (V.int (st : Int)) := by simp [vN]
    refine ⟨_, rfl, tyV_list h3', wq, _, _, rfl, rfl, h3', hlast, ?_⟩
    have hdl : (vN (W0 ++ [st])).dropLast = vN W0 := by rw [vN_app]; exact List.dropLast_concat
    rw [hdl]
    have s8 : Same H (upd (upd H1 p5 (.lst [])) wq (.lst (vN W0))) := same_upd2 (s6.trans s7) hw0
    have k1 : upd (upd H1 p5 (.lst [])) wq (.lst (vN W0)) f = some (.lst (vN fs)) := by rw [upd_ne nfw]; exact s7 _ _ h1
    have k2 : upd (upd H1 p5 (.lst [])) wq (.lst (vN W0)) b = some (.lst (vN bs)) := by rw [upd_ne nbw]; exact s7 _ _ h2
    -- for other in links[station]
    have hrow : ((linksOf n E0).map dR)[st]? = some (dR (row E0 st)) := by simp [linksOf, hst]
    obtain ⟨x0, hx0, hdx⟩ := dpa_get hd hrow
    obtain ⟨ra, rs, rfl, hrs, hrd⟩ := dp_tup hdx
    obtain rfl := vN_of hrd
    refine ⟨_, rfl, _, rfl, l, _, _, _, rfl, rfl, s8.seq hls, atI_nat hx0, ra, rfl, ⟨_, same_seqT s8 hrs⟩, for_tup (xs := vN (row E0 st)) (fun j σ' H' => ∃ (W fs bs : List Nat) (v6 : Option V),
      σ' = [some (.ref l), some (.int (r : Int)), some (.ref f), some (.ref b), some (.ref wq), some (.int (st : Int)), v6] ∧ Same H H' ∧
      H' f = some (.lst (vN fs)) ∧ H' b = some (.lst (vN bs)) ∧ H' wq = some (.lst (vN W)) ∧ WkI n E0 r P st W ((row E0 st).take j) fs bs) ⟨W0, fs, bs, v6, rfl, s8, k1, k2, upd_same, wk_pop G⟩ ?_ ?_ ?_⟩
    · rintro j σ' H' _ ⟨W, fs, bs, v6, rfl, s9, _⟩
      exact same_seqT s9 hrs
    · rintro j x σ' H2 hx ⟨W, fs, bs, v6, rfl, s9, k1, k2, k3, G2⟩
      obtain ⟨o, ho, rfl⟩ := vN_at hx
      have ho2 := (List.getElem?_eq_some_iff.mp ho).1
      have hmem := List.mem_of_getElem? ho
      have hadj := (mem_row fun e he => t.ne he).mp hmem
      have hon := row_lt t hmem
      have htk : (row E0 st).take (j + 1) = (row E0 st).take j ++ [o] := by rw [List.take_add_one, ho]; rfl
      have hbst : st < bs.length := by rw [G2.bl]; exact hst
      have hfst : st < fs.length := by rw [G2.fl]; exact hst
      refine ⟨_, rfl, _, rfl, _, rfl, b, _, _, _, rfl, rfl, SqL.of k2, atI_nat (vN_get (getD_some (d := 0) hbst)), rfl, _, rfl, iff_b (fun hc => ?_) fun hc => ?_⟩
      · have hne : ¬ (o : Int) = (bs.getD st 0 : Int) := by simpa [dI_eq] using hc
        have hne : o ≠ bs.getD st 0 := fun z => hne (by rw [z])
        have hnd : o ∉ (row E0 st).take j := fun z => by
          have nd2 := row_nodup (v := st) t
          rw [← List.take_append_drop j (row E0 st), List.nodup_append] at nd2
          refine nd2.2.2 o z o ?_ rfl
          rw [List.drop_eq_getElem_cons ho2]
          have := (List.getElem?_eq_some_iff.mp ho).2
          rw [this]; simp
        -- far[other] = far[station] + 1
        refine ⟨_, rfl, _, rfl, f, _, _, _, rfl, rfl, SqL.of k1, atI_nat (vN_get (getD_some (d := 0) hfst)), _, _, rfl, rfl, ?_⟩
        refine ⟨_, rfl, _, rfl, f, _, _, o, rfl, rfl, k1, ixN_nat (by rw [vN_len, G2.fl]; exact hon), ?_⟩
        have e1 : (vN fs).set o (V.int ((fs.getD st 0 : Int) + 1)) = vN (fs.set o (fs.getD st 0 + 1)) := vN_set
        rw [e1]
        -- back[other] = station
        refine ⟨_, rfl, _, rfl, _, rfl, b, _, _, o, rfl, rfl, (by rw [upd_ne nfb.symm]; exact k2), ixN_nat (by rw [vN_len, G2.bl]; exact hon), ?_⟩
        rw [vN_set]
        -- waiting.append(other)
        have k3' : upd (upd H2 f (.lst (vN (fs.set o (fs.getD st 0 + 1))))) b (.lst (vN (bs.set o st))) wq = some (.lst (vN W)) := by
          rw [upd_ne nbw.symm, upd_ne nfw.symm]; exact k3
        have hfew := nodup_lt n _ G2.nd G2.rg
        simp at hfew
        refine ⟨_, rfl, tyV_list k3', _, rfl, wq, _, _, rfl, rfl, k3', by rw [vN_len, sizeLine_eq]; omega, ?_⟩
        refine ⟨W ++ [o], fs.set o (fs.getD st 0 + 1), bs.set o st, _, rfl, same_upd2 (same_upd2 (same_upd2 s9 hf0) hb0) hw0, ?_, ?_, ?_, ?_⟩
        · rw [upd_ne nfw, upd_ne nfb, upd_same]
        · rw [upd_ne nbw, upd_same]
        · rw [upd_same, vN_app]; rfl
        · rw [htk]; exact wk_push t.cut G2 hadj hne hnd hon
      · have hne : (o : Int) = (bs.getD st 0 : Int) := by simpa [dI_eq] using hc
        refine ⟨W, fs, bs, _, rfl, s9, k1, k2, k3, ?_⟩
        rw [htk]
        exact wk_same G2 (by omega)
    · rintro σ' H2 ⟨W, fs, bs, v6, rfl, s9, k1, k2, k3, G2⟩
      refine ⟨st :: P, W, fs, bs, _, _, rfl, rfl, s9, k1, k2, k3, wk_out G2 fun y hy => ?_⟩
      rw [vN_len, List.take_length]
      exact (mem_row fun e he => t.ne he).mpr hy
  · have hW : W = [] := by simpa using hc
    subst hW
    refine ⟨_, rfl, _, rfl, by show 2 ≤ sizeLine; decide, fun tt htt => ?_⟩
    have s8 := s6.trans s7
    have s9 := same_upd (o := .tup [V.ref f, V.ref b]) htt
    exact q _ tt f b fs bs (s8.trans s9) (s8.free htt) hf0 hb0 nfb upd_same (s9 _ _ (s7 _ _ h1)) (s9 _ _ (s7 _ _ h2)) (wk_end t.conn hr0 G)
theorem k_hops_from {w : World} {K : PySem.W.Frag} {mg : Str → Option Value} {base : Heap} (T : Tx K mg) : Cl PP w K mg base 1 "hops_from" (sp_hops_from K) := by
  obtain ⟨fd, F⟩ := f_hops_from T
  refine ⟨?_, g_hops_from T, F.kp⟩
  refine (a_hops_from T F).pos0 (FunD.bindsN F fun _ _ _ _ _ _ us hl => match us, hl with | [_, _], _ => rfl) (fun vs H Q E h => ?_)
  obtain ⟨_, _, _, _, rfl, _⟩ := h
  rfl
end TT
namespace TT
open PySem PySem.Spec PyProof.Rows L2
open He (ga ma)
/-- a railway's attributes -/
def rwF (l g h : Addr) : List (Str × V) := [("links", .ref l), ("gaps", .ref g), ("hops", .ref h)]
/-- what a railway holds -/
structure RwD (K : PySem.W.Frag) (H : Hp) (l g h : Addr) (n : Nat) (E : Tr) (G B : List (List Nat)) : Prop where
  links : Dp K H (.ref l) (.list ((linksOf n E).map dR))
  gaps : Dp K H (.ref g) (.list (G.map dN))
  hops : Dp K H (.ref h) (.list (B.map dN))
  gl : G.length = n
  bl : B.length = n
  far : ∀ r, r < n → Far n E r (G.getD r []) (B.getD r [])
/-- a railway of n stations with these tracks stands at r -/
def RwAt (K : PySem.W.Frag) (H : Hp) (r : Addr) (n : Nat) (E : Tr) : Prop := Tree n E ∧ ∃ dx l g h G B, H r = some (.ins (ga K "Railway") dx (rwF l g h)) ∧ RwD K H l g h n E G B
section
variable {K : PySem.W.Frag} {H H' : Hp} {r l g h : Addr} {n : Nat} {E : Tr} {G B : List (List Nat)}
theorem RwD.kp (d : RwD K H l g h n E G B) (k : Kp H H') : RwD K H' l g h n E G B := ⟨dp_kp k d.links, dp_kp k d.gaps, dp_kp k d.hops, d.gl, d.bl, d.far⟩
theorem RwAt.kp (d : RwAt K H r n E) (k : Kp H H') (e : ∀ o, H r = some o → H' r = some o) : RwAt K H' r n E := by
  obtain ⟨t, dx, l, g, h, G, B, h1, h2⟩ := d
  exact ⟨t, dx, l, g, h, G, B, e _ h1, h2.kp k⟩
theorem RwAt.same (d : RwAt K H r n E) (s : Same H H') : RwAt K H' r n E := d.kp (Same.kp s) fun o h => s _ o h
end
/-- the addresses as: empty lists, all new -/
structure NewL (H1 H : Hp) (D : Addr) (as : List Addr) (f : Nat → List V) : Prop where
  nd : as.Nodup
  out : D ∉ as
  new : ∀ a ∈ as, H1 a = none
  at_ : ∀ i a, as[i]? = some a → H a = some (.lst (f i))
/-- what hops_from returned for station j: the pair at r.1, its lists at r.2.1, r.2.2.1 -/
def RowOk (H : Hp) (D n : Nat) (E : Tr) (j : Nat) (r : Addr × Addr × Addr × List Nat × List Nat) : Prop := r.1 ≠ D ∧ r.2.1 ≠ D ∧ r.2.2.1 ≠ D ∧ H r.1 = some (.tup [.ref r.2.1, .ref r.2.2.1]) ∧
  H r.2.1 = some (.lst (vN r.2.2.2.1)) ∧ H r.2.2.1 = some (.lst (vN r.2.2.2.2)) ∧ Far n E j r.2.2.2.1 r.2.2.2.2
theorem nbr_take {E : Tr} {i v : Nat} {e : Nat × Nat} (h : E[i]? = some e) : nbr (E.take (i + 1)) v = nbr (E.take i) v ++ (if e.1 = v then [e.2] else if e.2 = v then [e.1] else []) := by
  unfold nbr
  rw [List.take_add_one, h, List.filterMap_append]
  congr 1
  simp only [Option.toList, List.filterMap_cons, List.filterMap_nil]
  by_cases h1 : e.1 = v
  · simp [h1]
  · by_cases h2 : e.2 = v <;> simp [h1, h2]
def sp_Railway_init (K : PySem.W.Frag) : Sp := fun vs H Q E => ∃ (y dx p : Addr) (n : Nat) (E0 : Tr), vs = [.ref y, .ref p] ∧ H y = some (.ins (ga K "Railway") dx []) ∧ Dp K H (.ref p) (dT E0) ∧ Tree n E0 ∧ ∀ H', RwAt K H' y n E0 → (∀ b o, H b = some o → b ≠ y → H' b = some o) → Q .non H'
theorem sc_Railway_init : FnScope ["self", "tracks", "position", "links", "one", "other", "rows", "station", "some", "far", "back"] ["self", "tracks"] (defScope s_Railway_init) := ⟨rfl, rfl, rfl, by decide +kernel, rfl, by decide +kernel, by decide +kernel⟩
def sq_Railway_init (K : PySem.W.Frag) : Sp := fun vs H Q E => ∃ (ws rest : List V), vs = ws ++ rest ∧ ws.length = 1 ∧ rest.length ≤ sizeLine ∧ ∀ p, H p = Option.none → sp_Railway_init K (ws ++ [V.ref p]) (upd H p (.tup rest)) Q E
theorem k_Railway_init {w : World} {K : PySem.W.Frag} {mg : Str → Option Value} {base : Heap} (T : Tx K mg) : MkC PP w K mg base 4 (ga K "Railway") (ma K (ga K "Railway") "__init__") (sq_Railway_init K) := by
  obtain ⟨fd, F⟩ := f_Railway_init T
  refine ⟨?_, m_Railway_init T⟩
  refine fnP_star0 (ps := ["self"]) (pv := "tracks") (sp := sp_Railway_init K) F rfl sc_Railway_init (fun kV doc pm cdv ct an us hl => match us, hl with | [_], _ => rfl) (fun kV doc pm cdv ct an us rest r hl => match us, hl with | [_], _ => rfl) fun cdv A outer s H vs Q E hr h => ?_
  have nd := sc_Railway_init.nd
  obtain ⟨y, dx, p, n, E0, rfl, h⟩ := h
  refine ⟨_, (pss_cons (ps_for poX rfl (qlist (K := K) (pc_call (k_track_faults T) (hr.mono (by decide)) rfl pX (pa_cons (pv 1) pa_nil))) (zg 2 nd) (pss_one (ps_never)))
      (pss_cons (ps_setLc (i := 3) (own := [("station", 7)]) rfl nd rfl rfl (sw_true rfl rfl rfl (by decide +kernel)) (pi_range1 rfl (u_range T) (pa_cons (pe_op op_add (zb (r := rLenA K) call_len rfl (u_len T) (pa_cons (pv 1) pa_nil)) pe_int) pa_nil)) (blkOk_by (N := ["self", "tracks", "position", "links", "one", "other", "rows", "station", "some", "far", "back"]) (sc := defScope s_Railway_init) (by decide +kernel)) (fun _ _ _ _ _ => (zg 7 nd)) (fun _ _ _ _ _ => pts_nil) (fun _ _ _ _ _ => (pe_lst pa_nil)))
      (pss_cons (ps_for poX rfl (qtup (K := K) (pv 1)) (qgt (K := K) (n := 2) rfl (pgs_cons (zg 4 nd) (pgs_cons (zg 5 nd) pgs_nil))) (pss_cons (ps_expr (pe_bm PySem.F.plainAttrs_list PySem.F.slot_list_append PySem.F.type_list_append mt_append (pe_ix (r := rIxL K) ix_list (pv 3) (pv 4) (fun _ _ => rfl)) (pa_cons (pv 5) pa_nil)))
      (pss_one (ps_expr (pe_bm PySem.F.plainAttrs_list PySem.F.slot_list_append PySem.F.type_list_append mt_append (pe_ix (r := rIxL K) ix_list (pv 3) (pv 5) (fun _ _ => rfl)) (pa_cons (pv 4) pa_nil))))))
      (pss_cons (ps_fld (pv 0) (pe_lc (own := [("some", 8)]) rfl nd (qlist (K := K) (pv 3)) (blkOk_by (N := ["self", "tracks", "position", "links", "one", "other", "rows", "station", "some", "far", "back"]) (sc := defScope s_Railway_init) (by decide +kernel)) (fun _ _ _ _ _ => (zg 8 nd)) (fun _ _ _ _ _ => pts_nil) (fun _ _ _ _ _ => (zt (r := rTupOf K) call_tuple_of rfl (u_tuple T) (pa_cons (zb (r := rSortD K nI leN) (call_sortD nI leN hr) rfl (u_sorted T) (pa_cons (pv 8) pa_nil)) pa_nil)))) rfl)
      (pss_cons (ps_setLc (i := 6) (own := [("station", 7)]) rfl nd rfl rfl (sw_true rfl rfl rfl (by decide +kernel)) (pi_range1 rfl (u_range T) (pa_cons (zb (r := rLenA K) call_len rfl (u_len T) (pa_cons (pv 3) pa_nil)) pa_nil)) (blkOk_by (N := ["self", "tracks", "position", "links", "one", "other", "rows", "station", "some", "far", "back"]) (sc := defScope s_Railway_init) (by decide +kernel)) (fun _ _ _ _ _ => (zg 7 nd)) (fun _ _ _ _ _ => pts_nil) (fun _ _ _ _ _ => (pc_call (k_hops_from T) (hr.mono (by decide)) rfl passL (pa_cons (qfld (K := K) (pv 0)) (pa_cons (pv 7) pa_nil)))))
      (pss_cons (ps_fld (pv 0) (pe_lc (own := [("far", 9), ("back", 10)]) rfl nd (qlist (K := K) (pv 6)) (blkOk_by (N := ["self", "tracks", "position", "links", "one", "other", "rows", "station", "some", "far", "back"]) (sc := defScope s_Railway_init) (by decide +kernel)) (fun _ _ _ _ _ => (qgt (K := K) (n := 2) rfl (pgs_cons (zg 9 nd) (pgs_cons (zg 10 nd) pgs_nil)))) (fun _ _ _ _ _ => pts_nil) (fun _ _ _ _ _ => (pv 9))) rfl)
      (pss_one (ps_fld (pv 0) (pe_lc (own := [("far", 9), ("back", 10)]) rfl nd (qlist (K := K) (pv 6)) (blkOk_by (N := ["self", "tracks", "position", "links", "one", "other", "rows", "station", "some", "far", "back"]) (sc := defScope s_Railway_init) (by decide +kernel)) (fun _ _ _ _ _ => (qgt (K := K) (n := 2) rfl (pgs_cons (zg 9 nd) (pgs_cons (zg 10 nd) pgs_nil)))) (fun _ _ _ _ _ => pts_nil) (fun _ _ _ _ _ => (pv 10))) rfl)))))))), ?_⟩
  obtain ⟨hy, h, t, q⟩ := h
  obtain ⟨p0, xs, ep, hs, hd⟩ := dp_tup h
  cases ep
  have hl : xs.length = E0.length := by rw [dpa_len hd, List.length_map]
  have hm := t.most
  have htl := t.len
  -- for position in track_faults(tracks): raise ..
  refine ⟨_, rfl, .ref p, n, E0, rfl, h, t, fun H1 pf s1 hpf0 hpf => ⟨pf, rfl, ⟨[], SqL.of hpf⟩, for_list (xs := []) (fun i σ H' => σ = [some (.ref y), some (.ref p), none, none, none, none, none, none, none, none, none] ∧ H' = H1) ⟨rfl, rfl⟩
    (fun i σ H' _ e => by rw [e.2]; exact SqL.of hpf) (fun i x σ H' hx => by simp at hx) ?_⟩⟩
  rintro σ H1 ⟨rfl, rfl⟩
  -- links = [[] for station in range(len(tracks) + 1)]
  have hj : ((xs.length : Int) + 1).toNat = n := by omega
  refine ⟨_, rfl, _, xs.length, rfl, .inr ⟨xs, same_seqT s1 hs, rfl⟩, _, _, rfl, rfl, _, rfl, by omega, by omega, fun D hD => ?_⟩
  refine lc_range (fun i H2 => ∃ as : List Addr, as.length = i ∧ NewL H1 H2 D as (fun _ => []) ∧ Same H1 H2 ∧ H2 D = some (.lst (as.map V.ref)))
    ⟨[], rfl, ⟨by simp, by simp, by simp, by simp⟩, same_upd hD, upd_same⟩ ?_ ?_
  · rintro i H2 hi ⟨as, hal, N, s2, hD2⟩
    refine ⟨rfl, by show 0 ≤ sizeLine; decide, fun a ha => ?_⟩
    have neD := ne_of_none hD2 ha
    refine ⟨as.map V.ref, by rw [upd_ne neD]; exact hD2, by rw [List.length_map, sizeLine_eq]; omega, as ++ [a], by simp [hal], ⟨?_, ?_, ?_, ?_⟩, same_upd2 (same_upd2 s2 (s2.free ha)) hD, by simp [upd_same]⟩
    · rw [List.nodup_append]
      refine ⟨N.nd, by simp, fun b hb c hc => ?_⟩
      obtain ⟨k, hk⟩ := List.getElem?_of_mem hb
      have := N.at_ k b hk
      have hc' : c = a := by simpa using hc
      rw [hc']
      exact ne_of_none this ha
    · intro hm2
      rcases List.mem_append.mp hm2 with z | z
      · exact N.out z
      · have : D = a := by simpa using z
        exact neD this
    · intro b hb
      rcases List.mem_append.mp hb with z | z
      · exact N.new b z
      · have : b = a := by simpa using z
        rw [this]; exact s2.free ha
    · intro k b hk
      rw [List.getElem?_append] at hk
      split at hk
      · have z := N.at_ k b hk
        rw [upd_ne (fun e => N.out (by rw [← e]; exact List.mem_of_getElem? hk)), upd_ne (ne_of_none z ha)]
        exact z
      · have : b = a := by
          have := List.mem_of_getElem? hk
          simpa using this
        rw [this, upd_ne neD.symm, upd_same]
  rintro H2 ⟨as, hal, N, s2, hD2⟩
  rw [hj] at hal
  -- for one, other in tracks: ..
  have s12 := s1.trans s2
  have hD0 : H D = none := s1.free hD
  have hnew : ∀ a ∈ as, H a = none := fun a ha => s1.free (N.new a ha)
  refine ⟨_, rfl, p, rfl, ⟨_, same_seqT s12 hs⟩, for_tup (xs := xs) (fun i σ H3 => ∃ v4 v5 : Option V, σ = [some (.ref y), some (.ref p), none, some (.ref D), v4, v5, none, none, none, none, none] ∧ Same H H3 ∧ H3 D = some (.lst (as.map V.ref)) ∧
    ∀ v a, as[v]? = some a → H3 a = some (.lst (vN (nbr (E0.take i) v)))) ⟨none, none, rfl, s12, hD2, fun v a hv => N.at_ v a hv⟩ ?_ ?_ ?_⟩
  · rintro i σ H3 _ ⟨v4, v5, rfl, s3, _⟩
    exact same_seqT s3 hs
  · rintro i x σ H3 hx ⟨v4, v5, rfl, s3, hD3, hrows⟩
    obtain ⟨e, he, hxe⟩ : ∃ e, E0[i]? = some e ∧ Dp K H x (dE e) := by
      obtain ⟨d, hd1, hd2⟩ := dpa_at hd hx
      rw [List.getElem?_map] at hd1
      obtain ⟨e, he, rfl⟩ := Option.map_eq_some_iff.mp hd1
      exact ⟨e, he, hd2⟩
    have hme := List.mem_of_getElem? he
    have hre := t.rng e hme
    have hne := t.ne hme
    obtain ⟨xa, ys, rfl, hys, hyd⟩ := dp_tup hxe
    obtain rfl : ys = [.int (e.1 : Int), .int (e.2 : Int)] := by
      have z : DpAll K H ys ([e.1, e.2].map nI) := hyd
      exact vN_of z
    obtain ⟨a1, ha1⟩ : ∃ a, as[e.1]? = some a := ⟨_, List.getElem?_eq_getElem (by rw [hal]; exact hre.1)⟩
    obtain ⟨a2, ha2⟩ : ∃ a, as[e.2]? = some a := ⟨_, List.getElem?_eq_getElem (by rw [hal]; exact hre.2)⟩
    have n12 : a1 ≠ a2 := fun z => hne (nd_ix N.nd ha1 (by rw [z]; exact ha2))
    have nd1 : D ≠ a1 := fun z => N.out (by rw [z]; exact List.mem_of_getElem? ha1)
    have nd2 : D ≠ a2 := fun z => N.out (by rw [z]; exact List.mem_of_getElem? ha2)
    have hz : ∀ v, (vN (nbr (E0.take i) v)).length < sizeLine := fun v => by
      rw [vN_len, sizeLine_eq]
      have := List.length_filterMap_le (fun e : Nat × Nat => if e.1 = v then some e.2 else if e.2 = v then some e.1 else none) (E0.take i)
      have h2 : (E0.take i).length ≤ E0.length := by rw [List.length_take]; exact Nat.min_le_right _ _
      unfold nbr
      omega
    have h1 := hrows e.1 a1 ha1
    have h2 := hrows e.2 a2 ha2
    refine ⟨xa, _, rfl, same_seqT s3 hys, rfl, _, _, rfl, _, _, rfl, rfl, ?_⟩
    refine ⟨_, rfl, _, rfl, D, _, _, .ref a1, rfl, rfl, SqL.of hD3, atI_nat (by rw [List.getElem?_map, ha1]; rfl), tyV_list h1, _, rfl, a1, _, _, rfl, rfl, h1, hz _, ?_⟩
    have h2' : upd H3 a1 (.lst (vN (nbr (E0.take i) e.1) ++ [V.int (e.2 : Int)])) a2 = some (.lst (vN (nbr (E0.take i) e.2))) := by rw [upd_ne n12.symm]; exact h2
    have hD3' : upd H3 a1 (.lst (vN (nbr (E0.take i) e.1) ++ [V.int (e.2 : Int)])) D = some (.lst (as.map V.ref)) := by rw [upd_ne nd1]; exact hD3
    refine ⟨_, rfl, _, rfl, D, _, _, .ref a2, rfl, rfl, SqL.of hD3', atI_nat (by rw [List.getElem?_map, ha2]; rfl), tyV_list h2', _, rfl, a2, _, _, rfl, rfl, h2', hz _, ?_⟩
    refine ⟨_, _, rfl, same_upd2 (same_upd2 s3 (hnew a1 (List.mem_of_getElem? ha1))) (hnew a2 (List.mem_of_getElem? ha2)), by rw [upd_ne nd2]; exact hD3', fun v a hv => ?_⟩
    rw [nbr_take he]
    by_cases hv2 : v = e.2
    · subst hv2
      obtain rfl := Option.some.inj (hv.symm.trans ha2)
      rw [upd_same, if_neg hne, if_pos rfl, vN_app]
      rfl
    · have ha2' : a ≠ a2 := fun z => hv2 (nd_ix N.nd hv (by rw [z]; exact ha2))
      rw [upd_ne ha2']
      by_cases hv1 : v = e.1
      · subst hv1
        obtain rfl := Option.some.inj (hv.symm.trans ha1)
        rw [upd_same, if_pos rfl, vN_app]
        rfl
      · have ha1' : a ≠ a1 := fun z => hv1 (nd_ix N.nd hv (by rw [z]; exact ha1))
        rw [upd_ne ha1', if_neg (fun z => hv1 z.symm), if_neg (fun z => hv2 z.symm), List.append_nil]
        exact hrows v a hv
  rintro σ H3 ⟨v4, v5, rfl, s3, hD3, hrows⟩
  rw [hl, List.take_length] at hrows
  have hDy : D ≠ y := (ne_of_none hy hD0).symm
  -- self.links = [tuple(sorted(some)) for some in links]
  refine ⟨_, rfl, D, rfl, ⟨_, SqL.of hD3⟩, fun D1 hD1 => ?_⟩
  refine lc_list (xs := as.map V.ref) (LcP K H3 D1 fun i => ((linksOf n E0).take i).map dR) (lcp_start hD1 rfl) (fun i H' _ I => SqL.of (I.1 _ _ hD3)) ?_ ?_
  · intro i x H' hx I
    obtain ⟨a, ha, rfl⟩ : ∃ a, as[i]? = some a ∧ x = V.ref a := by
      rw [List.getElem?_map] at hx
      obtain ⟨a, ha, rfl⟩ := Option.map_eq_some_iff.mp hx
      exact ⟨a, ha, rfl⟩
    have hi : i < n := by rw [← hal]; exact (List.getElem?_eq_some_iff.mp ha).1
    have h1 := I.1 _ _ (hrows i a ha)
    refine ⟨rfl, _, rfl, _, nbr E0 i, rfl, .inl (.lst (SqL.of h1) (vN_dp _)), fun y _ z _ => dataLe_nI y z, alike_nI _, sortable_nI _, fun _ _ => Nat.zero_le _, fun ps ys hps hys => ?_⟩
    refine ⟨ps, ys, rfl, .inl ⟨SqL.of upd_same, fun pt hpt => ?_⟩⟩
    have hF : ((linksOf n E0).take (i + 1)).map dR = ((linksOf n E0).take i).map dR ++ [dR (row E0 i)] := by
      rw [List.take_add_one, List.map_append]
      simp [linksOf, hi]
    exact lcp_put0 hD1 I ((same_upd hps).trans (same_upd hpt)) (dp_newT hpt (dpa_same (same_upd hps) hys)) (noLs_map (fun _ => rfl) _) hF (by rw [List.length_map, List.length_take, sizeLine_eq]; omega)
  intro H4 I4
  obtain ⟨s4, dl, acc4, hacc4, _⟩ := lcp_end I4
  have e4 : (linksOf n E0).take (as.map V.ref).length = linksOf n E0 := by
    rw [List.take_of_length_le (by simp [linksOf, hal])]
  rw [e4] at dl
  have hD10 : H D1 = none := s3.free hD1
  have hD1y : D1 ≠ y := (ne_of_none hy hD10).symm
  have hy4 := s4 _ _ (s3 _ _ hy)
  refine ⟨_, rfl, y, _, dx, [], rfl, hy4, c_Railway T, n_Railway_links T, by show 0 < 1000; decide, ?_⟩
  have hn5 : ∀ b, b ≠ y → upd H4 y (.ins (ga K "Railway") dx (putF "links" (.ref D1) [])) b = H4 b := fun b hb => upd_ne hb
  have kp5 : Kp H4 (upd H4 y (.ins (ga K "Railway") dx (putF "links" (.ref D1) []))) := kp_upd fun u hu => by
    rw [hy4] at hu; cases hu; rfl
  have hy5 : upd H4 y (.ins (ga K "Railway") dx (putF "links" (.ref D1) [])) y = some (.ins (ga K "Railway") dx [("links", .ref D1)]) := by rw [upd_same]; rfl
  generalize upd H4 y (.ins (ga K "Railway") dx (putF "links" (.ref D1) [])) = H5 at hn5 kp5 hy5 ⊢
  have dl5 := dp_kp kp5 dl
  have out5 : ∀ b o, H b = some o → b ≠ y → H5 b = some o := fun b o hb hne => by rw [hn5 b hne]; exact s4 _ _ (s3 _ _ hb)
  have hD5 : H5 D = some (.lst (as.map V.ref)) := by rw [hn5 D hDy]; exact s4 _ _ hD3
  -- rows = [hops_from(self.links, station) for station in range(len(links))]
  have hasn : ((as.map V.ref).length : Int) = (n : Int) := by rw [List.length_map, hal]
  refine ⟨_, rfl, _, (as.map V.ref).length, rfl, .inl ⟨_, SqL.of hD5, rfl⟩, _, rfl, by omega, by omega, fun D2 hD2 => ?_⟩
  have hasn2 : (((as.map V.ref).length : Nat) : Int).toNat = n := by rw [hasn]; omega
  refine lc_range (fun i H' => ∃ rs : List (Addr × Addr × Addr × List Nat × List Nat), rs.length = i ∧ Same H5 H' ∧ H' D2 = some (.lst (rs.map fun r => V.ref r.1)) ∧ ∀ j r, rs[j]? = some r → RowOk H' D2 n E0 j r)
    ⟨[], rfl, same_upd hD2, upd_same, by simp⟩ ?_ ?_
  · rintro i H' hi ⟨rs, hrl, s5, hD2', hrs⟩
    have hi2 : i < n := by omega
    refine ⟨rfl, _, rfl, y, _, dx, _, _, rfl, s5 _ _ hy5, c_Railway T, n_Railway_links T, rfl, _, rfl, D1, n, i, E0, by simp, dp_same s5 dl5, t, hi2, fun H6 tt f b fs bs s6 ht hf hb nfb h1 h2 h3 hFar => ?_⟩
    have z1 := s6 _ _ hD2'
    have n1 := ne_of_none hD2' ht
    have n2 := ne_of_none hD2' hf
    have n3 := ne_of_none hD2' hb
    refine ⟨_, z1, by rw [List.length_map, sizeLine_eq]; omega, rs ++ [(tt, f, b, fs, bs)], by simp [hrl], same_upd2 (s5.trans s6) hD2, by simp [upd_same], fun j r hj => ?_⟩
    rw [List.getElem?_append] at hj
    split at hj
    · obtain ⟨m1, m2, m3, q1, q2, q3, q4⟩ := hrs j r hj
      exact ⟨m1, m2, m3, by rw [upd_ne m1]; exact s6 _ _ q1, by rw [upd_ne m2]; exact s6 _ _ q2, by rw [upd_ne m3]; exact s6 _ _ q3, q4⟩
    · rename_i hge
      have hj2 : j = i := by
        have := (List.getElem?_eq_some_iff.mp hj).1
        simp at this
        omega
      subst hj2
      have : r = (tt, f, b, fs, bs) := by
        have := List.mem_of_getElem? hj
        simpa using this
      subst this
      exact ⟨n1.symm, n2.symm, n3.symm, by rw [upd_ne n1.symm]; exact h1, by rw [upd_ne n2.symm]; exact h2, by rw [upd_ne n3.symm]; exact h3, hFar⟩
  rintro H6 ⟨rs, hrl, s6, hD2', hrs⟩
  rw [hasn2] at hrl
  have hD20 : ∀ o, H D2 = some o → D2 = y := fun o ho => Classical.byContradiction fun hne => by
    have := out5 _ _ ho hne
    rw [hD2] at this; cases this
  -- self.gaps = [far for far, back in rows]
  refine ⟨_, rfl, D2, rfl, ⟨_, SqL.of hD2'⟩, fun D3 hD3 => ?_⟩
  refine lc_list (xs := rs.map fun r => V.ref r.1) (LcP K H6 D3 fun i => ((rs.map fun r => r.2.2.2.1).take i).map dN) (lcp_start hD3 rfl) (fun i H' _ I => SqL.of (I.1 _ _ hD2')) ?_ ?_
  · intro i x H' hx I
    obtain ⟨r, hr2, rfl⟩ : ∃ r, rs[i]? = some r ∧ x = V.ref r.1 := by
      rw [List.getElem?_map] at hx
      obtain ⟨a, ha, rfl⟩ := Option.map_eq_some_iff.mp hx
      exact ⟨a, ha, rfl⟩
    have hi : i < n := by rw [← hrl]; exact (List.getElem?_eq_some_iff.mp hr2).1
    obtain ⟨m1, m2, m3, q1, q2, q3, q4⟩ := hrs i r hr2
    refine ⟨r.1, _, rfl, SqT.of (I.1 _ _ q1), rfl, _, _, rfl, _, _, rfl, rfl, rfl, _, rfl, ?_⟩
    refine lcp_put hD3 I (Same.refl _) (dp_same (del_of I.1 hD3) (.lst (SqL.of q2) (vN_dp _))) (?_ : _ = _ ++ [dN r.2.2.2.1]) (by rw [List.length_map, List.length_take, sizeLine_eq]; omega)
    rw [List.take_add_one, List.map_append, List.getElem?_map, hr2]
    rfl
  intro H7 I7
  obtain ⟨s7, dg, acc7, hacc7, _⟩ := lcp_end I7
  have eg : (rs.map fun r => r.2.2.2.1).take (rs.map fun r => V.ref r.1).length = rs.map fun r => r.2.2.2.1 := by
    rw [List.take_of_length_le (by simp)]
  rw [eg] at dg
  have hy7 := s7 _ _ (s6 _ _ hy5)
  refine ⟨_, rfl, y, _, dx, _, rfl, hy7, c_Railway T, n_Railway_gaps T, by show 1 < 1000; decide, ?_⟩
  have hD3y : D3 ≠ y := (ne_of_none (s6 _ _ hy5) hD3).symm
  have hD2y : D2 ≠ y := (ne_of_none hy5 hD2).symm
  have hn8 : ∀ b, b ≠ y → upd H7 y (.ins (ga K "Railway") dx (putF "gaps" (.ref D3) [("links", .ref D1)])) b = H7 b := fun b hb => upd_ne hb
  have kp8 : Kp H7 (upd H7 y (.ins (ga K "Railway") dx (putF "gaps" (.ref D3) [("links", .ref D1)]))) := kp_upd fun u hu => by
    rw [hy7] at hu; cases hu; rfl
  have hy8 : upd H7 y (.ins (ga K "Railway") dx (putF "gaps" (.ref D3) [("links", .ref D1)])) y = some (.ins (ga K "Railway") dx [("links", .ref D1), ("gaps", .ref D3)]) := by rw [upd_same]; rfl
  generalize upd H7 y (.ins (ga K "Railway") dx (putF "gaps" (.ref D3) [("links", .ref D1)])) = H8 at hn8 kp8 hy8 ⊢
  have dg8 := dp_kp kp8 dg
  have dl8 := dp_kp kp8 (dp_same (s6.trans s7) dl5)
  have out8 : ∀ b o, H b = some o → b ≠ y → H8 b = some o := fun b o hb hne => by rw [hn8 b hne]; exact s7 _ _ (s6 _ _ (out5 b o hb hne))
  have hD28 : H8 D2 = some (.lst (rs.map fun r => V.ref r.1)) := by rw [hn8 D2 hD2y]; exact s7 _ _ hD2'
  have hrs8 : ∀ (j : Nat) (r : Addr × Addr × Addr × List Nat × List Nat), rs[j]? = some r → H8 r.1 = some (.tup [.ref r.2.1, .ref r.2.2.1]) ∧ H8 r.2.2.1 = some (.lst (vN r.2.2.2.2)) := fun j r hj => by
    obtain ⟨m1, m2, m3, q1, q2, q3, q4⟩ := hrs j r hj
    exact ⟨kp8 _ _ (s7 _ _ q1) rfl, kp8 _ _ (s7 _ _ q3) rfl⟩
  -- self.hops = [back for far, back in rows]
  refine ⟨_, rfl, D2, rfl, ⟨_, SqL.of hD28⟩, fun D4 hD4 => ?_⟩
  refine lc_list (xs := rs.map fun r => V.ref r.1) (LcP K H8 D4 fun i => ((rs.map fun r => r.2.2.2.2).take i).map dN) (lcp_start hD4 rfl) (fun i H' _ I => SqL.of (I.1 _ _ hD28)) ?_ ?_
  · intro i x H' hx I
    obtain ⟨r, hr2, rfl⟩ : ∃ r, rs[i]? = some r ∧ x = V.ref r.1 := by
      rw [List.getElem?_map] at hx
      obtain ⟨a, ha, rfl⟩ := Option.map_eq_some_iff.mp hx
      exact ⟨a, ha, rfl⟩
    have hi : i < n := by rw [← hrl]; exact (List.getElem?_eq_some_iff.mp hr2).1
    obtain ⟨q1, q3⟩ := hrs8 i r hr2
    refine ⟨r.1, _, rfl, SqT.of (I.1 _ _ q1), rfl, _, _, rfl, _, _, rfl, rfl, rfl, _, rfl, ?_⟩
    refine lcp_put hD4 I (Same.refl _) (dp_same (del_of I.1 hD4) (.lst (SqL.of q3) (vN_dp _))) (?_ : _ = _ ++ [dN r.2.2.2.2]) (by rw [List.length_map, List.length_take, sizeLine_eq]; omega)
    rw [List.take_add_one, List.map_append, List.getElem?_map, hr2]
    rfl
  intro H9 I9
  obtain ⟨s9, dh, acc9, hacc9, _⟩ := lcp_end I9
  have eh : (rs.map fun r => r.2.2.2.2).take (rs.map fun r => V.ref r.1).length = rs.map fun r => r.2.2.2.2 := by
    rw [List.take_of_length_le (by simp)]
  rw [eh] at dh
  have hy9 := s9 _ _ hy8
  refine ⟨_, rfl, y, _, dx, _, rfl, hy9, c_Railway T, n_Railway_hops T, by show 2 < 1000; decide, ?_⟩
  have kp10 : Kp H9 (upd H9 y (.ins (ga K "Railway") dx (putF "hops" (.ref D4) [("links", .ref D1), ("gaps", .ref D3)]))) := kp_upd fun u hu => by
    rw [hy9] at hu; cases hu; rfl
  refine q _ ⟨t, dx, D1, D3, D4, rs.map fun r => r.2.2.2.1, rs.map fun r => r.2.2.2.2, by rw [upd_same]; rfl, dp_kp kp10 (dp_same s9 dl8), dp_kp kp10 (dp_same s9 dg8), dp_kp kp10 dh, by rw [List.length_map, hrl], by rw [List.length_map, hrl], fun r hr2 => ?_⟩
    fun b o hb hne => by rw [upd_ne hne]; exact s9 _ _ (out8 b o hb hne)
  obtain ⟨z, hz⟩ : ∃ z, rs[r]? = some z := ⟨_, List.getElem?_eq_getElem (by rw [hrl]; exact hr2)⟩
  have e1 : (rs.map fun r => r.2.2.2.1).getD r [] = z.2.2.2.1 := by rw [List.getD_eq_getElem?_getD, List.getElem?_map, hz]; rfl
  have e2 : (rs.map fun r => r.2.2.2.2).getD r [] = z.2.2.2.2 := by rw [List.getD_eq_getElem?_getD, List.getElem?_map, hz]; rfl
  rw [e1, e2]
  exact (hrs r z hz).2.2.2.2.2.2
end TT
namespace TT
open PySem PySem.Spec PyProof.Rows L2
open He (ga ma)
theorem lsR_get {K : PySem.W.Frag} {H : Hp} {n v : Nat} {E : Tr} {ls : List V} (hd : DpAll K H ls ((linksOf n E).map dR)) (hv : v < n) : ∃ a, ls[v]? = some (.ref a) ∧ SqT K H a (vN (row E v)) := by
  have hrow : ((linksOf n E).map dR)[v]? = some (dR (row E v)) := by simp [linksOf, hv]
  obtain ⟨x, hx, hdx⟩ := dpa_get hd hrow
  obtain ⟨a, rs, rfl, hrs, hrd⟩ := dp_tup hdx
  obtain rfl := vN_of hrd
  exact ⟨a, hx, hrs⟩
/-- the rows of the tracks -/
def trRow (E : Tr) (v : Nat) : Tr := ((row E v).filter fun y => decide (v < y)).map fun y => (v, y)
theorem tracksOf_eq (n : Nat) (E : Tr) : tracksOf n E = (List.range n).flatMap (trRow E) := rfl
def sp_Railway_of (K : PySem.W.Frag) : Sp := fun vs H Q E => ∃ (p : Addr) (n : Nat) (E0 : Tr), vs = [.ref (ga K "Railway"), .ref p] ∧ Dp K H (.ref p) (dT E0) ∧ Tree n E0 ∧ ∀ H' r, Same H H' → H r = none → RwAt K H' r n E0 → Q (.ref r) H'
theorem sc_Railway_of : FnScope ["cls", "tracks"] ["cls", "tracks"] (defScope s_Railway_of) := ⟨rfl, rfl, rfl, by decide +kernel, rfl, by decide +kernel, by decide +kernel⟩
theorem a_Railway_of {w : World} {K : PySem.W.Frag} {mg : Str → Option Value} {base : Heap} (T : Tx K mg) {fd : FuncData} (F : FunD K "of" "Railway.of" (defArgs s_Railway_of) (defBody s_Railway_of) (defScope s_Railway_of) (d_Railway_of.dvs K) [] (ca K "Railway" "of") fd) : FnA PP w K mg base 6 (ca K "Railway" "of") fd ["cls", "tracks"] (sp_Railway_of K) := by
  refine fnA_of F sc_Railway_of fun cdv A outer s H vs Q E hr h => ?_
  have nd := sc_Railway_of.nd
  obtain ⟨p, n, E0, rfl, h⟩ := h
  refine ⟨_, (pss_cons (ps_if (pt_not (pt_val (zb (r := rIsD K "tuple") (call_isD "tuple") rfl (u_isinstance T) (pa_cons (pv 1) (pa_cons (zty "tuple" rfl (u_tuple T)) pa_nil))))) (pss_one (ps_never)) pss_nil)
      (pss_one (ps_ret (pc_makeS (pv 0) (k_Railway_init T) (hr.mono (by decide)) pX (pv 1))))), ?_⟩
  obtain ⟨h, t, q⟩ := h
  obtain ⟨p0, xs, ep, hs, hd⟩ := dp_tup h
  cases ep
  have hl : xs.length = E0.length := by rw [dpa_len hd, List.length_map]
  have hm := t.most
  have htl := t.len
  refine ⟨_, rfl, _, _, true, rfl, h, kb_tup_tup, _, rfl, iff_f rfl ?_⟩
  refine ⟨_, rfl, rfl, _, rfl, p, xs, rfl, .inl hs, fun y dy hy hdy hne => ?_⟩
  refine ⟨[.ref y], xs, rfl, rfl, by rw [sizeLine_eq]; omega, fun p' hp' => ?_⟩
  have s1 : Same H (upd (upd H dy (.own y)) y (.ins (ga K "Railway") dy [])) := same_upd2 (same_upd hdy) hy
  have s2 := s1.trans (same_upd (o := .tup xs) hp')
  have hyy := same_upd (o := .tup xs) hp' _ _ (upd_same (H := upd H dy (.own y)) (a := y) (o := .ins (ga K "Railway") dy []))
  refine ⟨y, dy, p', n, E0, rfl, hyy, .tup (SqT.of upd_same) (dpa_same s2 hd), t, fun H' hR ho => ⟨rfl, q H' y (fun b o hb => ?_) hy hR⟩⟩
  exact ho b o (s2 _ _ hb) (ne_of_none hb hy)
theorem k_Railway_of {w : World} {K : PySem.W.Frag} {mg : Str → Option Value} {base : Heap} (T : Tx K mg) : CM PP w K mg base 6 (ga K "Railway") (.type "type") "of" (ma K (ga K "Railway") "of") (ca K "Railway" "of") (sp_Railway_of K) := by
  obtain ⟨fd, F⟩ := f_Railway_of T
  refine ⟨?_, r_Railway T, m_Railway_of T⟩
  refine (a_Railway_of T F).pos0 (FunD.bindsN F fun _ _ _ _ _ _ us hl => match us, hl with | [_, _], _ => rfl) (fun vs H Q E h => ?_)
  obtain ⟨_, _, _, rfl, _⟩ := h
  rfl
def sp_Railway_size (K : PySem.W.Frag) : Sp := fun vs H Q E => ∃ (r : Addr) (n : Nat) (E0 : Tr), vs = [.ref r] ∧ RwAt K H r n E0 ∧ Q (.int (n : Int)) H
theorem sc_Railway_size : FnScope ["self"] ["self"] (defScope s_Railway_size) := ⟨rfl, rfl, rfl, by decide +kernel, rfl, by decide +kernel, by decide +kernel⟩
theorem a_Railway_size {w : World} {K : PySem.W.Frag} {mg : Str → Option Value} {base : Heap} (T : Tx K mg) {fd : FuncData} (F : FunD K "size" "Railway.size" (defArgs s_Railway_size) (defBody s_Railway_size) (defScope s_Railway_size) (d_Railway_size.dvs K) [] (pa K "Railway" "size") fd) : FnA PP w K mg base 1 (pa K "Railway" "size") fd ["self"] (sp_Railway_size K) := by
  refine fnA_of F sc_Railway_size fun cdv A outer s H vs Q E hr h => ?_
  have nd := sc_Railway_size.nd
  obtain ⟨r, n, E0, rfl, h⟩ := h
  refine ⟨_, (pss_one (ps_ret (zb (r := rLenA K) call_len rfl (u_len T) (pa_cons (qfld (K := K) (pv 0)) pa_nil)))), ?_⟩
  obtain ⟨⟨t, dx, l, g, h, G, B, hr0, d⟩, q⟩ := h
  obtain ⟨l0, ls, el, hls, hd⟩ := dp_lst d.links
  cases el
  have hlen : ls.length = n := by rw [dpa_len hd]; simp [linksOf]
  rw [← hlen] at q
  exact ⟨_, rfl, r, _, dx, _, _, rfl, hr0, c_Railway T, n_Railway_links T, rfl, _, ls.length, rfl, .inl ⟨ls, hls, rfl⟩, q⟩
theorem k_Railway_size {w : World} {K : PySem.W.Frag} {mg : Str → Option Value} {base : Heap} (T : Tx K mg) : Pr PP w K mg base 1 (ga K "Railway") "size" (ma K (ga K "Railway") "size") (pa K "Railway" "size") (sp_Railway_size K) := by
  obtain ⟨fd, F⟩ := f_Railway_size T
  refine ⟨?_, c_Railway T, m_Railway_size T⟩
  refine (a_Railway_size T F).pos0 (FunD.bindsN F fun _ _ _ _ _ _ us hl => match us, hl with | [_], _ => rfl) (fun vs H Q E h => ?_)
  obtain ⟨_, _, _, rfl, _⟩ := h
  rfl
def sp_Railway_tracks (K : PySem.W.Frag) : Sp := fun vs H Q E => ∃ (r : Addr) (n : Nat) (E0 : Tr), vs = [.ref r] ∧ RwAt K H r n E0 ∧ ∀ H' v, Same H H' → Dp K H' v (dT (tracksOf n E0)) → Q v H'
theorem sc_Railway_tracks : FnScope ["self", "one", "some", "other"] ["self"] (defScope s_Railway_tracks) := ⟨rfl, rfl, rfl, by decide +kernel, rfl, by decide +kernel, by decide +kernel⟩
theorem a_Railway_tracks {w : World} {K : PySem.W.Frag} {mg : Str → Option Value} {base : Heap} (T : Tx K mg) {fd : FuncData} (F : FunD K "tracks" "Railway.tracks" (defArgs s_Railway_tracks) (defBody s_Railway_tracks) (defScope s_Railway_tracks) (d_Railway_tracks.dvs K) [] (pa K "Railway" "tracks") fd) : FnA PP w K mg base 1 (pa K "Railway" "tracks") fd ["self"] (sp_Railway_tracks K) := by
  refine fnA_of F sc_Railway_tracks fun cdv A outer s H vs Q E hr h => ?_
  have nd := sc_Railway_tracks.nd
  obtain ⟨r, n, E0, rfl, h⟩ := h
  refine ⟨_, (pss_one (ps_ret (zt (r := rTupOf K) call_tuple_of rfl (u_tuple T) (pa_cons (pe_lc2 (own := [("one", 1), ("some", 2), ("other", 3)]) (vs1 := [3]) rfl nd (qenum (K := K) rfl (u_enumerate T) (pa_cons (qfld (K := K) (pv 0)) pa_nil)) (blkOk_by (N := ["self", "one", "some", "other"]) (sc := defScope s_Railway_tracks) (by decide +kernel)) (by decide) (fun _ _ _ _ _ => (qgt (K := K) (n := 2) rfl (pgs_cons (zg 1 nd) (pgs_cons (zg 2 nd) pgs_nil)))) (fun _ _ _ _ _ => pts_nil) (fun _ _ _ _ _ => (qtup (K := K) (pv 2))) (fun _ _ _ _ _ => (zg 3 nd)) (fun _ _ _ _ _ => (pts_one (pt_cmpR op_lt (pv 1) (pv 3) (nomark _)))) (fun _ _ _ _ _ => (pe_tup (pa_cons (pv 1) (pa_cons (pv 3) pa_nil))))) pa_nil)))), ?_⟩
  obtain ⟨⟨t, dx, l, g, h, G, B, hr0, d⟩, q⟩ := h
  obtain ⟨l0, ls, el, hls, hd⟩ := dp_lst d.links
  cases el
  have hlen : ls.length = n := by rw [dpa_len hd]; simp [linksOf]
  have hm := t.most
  refine ⟨_, rfl, r, _, dx, _, _, rfl, hr0, c_Railway T, n_Railway_links T, rfl, l, ls, rfl, hls, fun D hD => ?_⟩
  have hfew : ∀ v, (trRow E0 v).length ≤ 100 := fun v => by
    unfold trRow
    have h1 := nodup_lt n (row E0 v) (row_nodup t) fun y hy => row_lt t hy
    have h2 := List.length_filter_le (fun y => decide (v < y)) (row E0 v)
    rw [List.length_map]
    omega
  have hsum : ∀ i, ((List.range i).flatMap (trRow E0)).length ≤ i * 100 := fun i => by
    induction i with
    | zero => simp
    | succ i ih =>
      have := hfew i
      rw [List.range_succ, List.flatMap_append, List.length_append, List.flatMap_cons, List.flatMap_nil, List.append_nil]
      omega
  refine lc2_it (n := n) (fun i H' => Lc K H D (((List.range i).flatMap (trRow E0)).map dE) H') (Lc.start hD) (fun i H' hi I => ite_go (I.1.seq hls) (by omega)) (fun H' I => ⟨ls, I.1.seq hls, by omega⟩) ?_ ?_
  · rintro i x H1 H2 hi I ⟨T0, z, rfl, hT, rfl, hz⟩
    obtain ⟨a, ha, hra⟩ := lsR_get hd hi
    have hz := hz ls (I.1.seq hls)
    rw [ha] at hz
    obtain rfl := Option.some.inj hz
    have s2 := same_upd (o := .tup [V.int (i : Nat), V.ref a]) hT
    refine ⟨T0, _, rfl, SqT.of upd_same, rfl, _, _, rfl, _, _, rfl, rfl, rfl, ?_⟩
    have I2 := I.skip s2
    refine ⟨_, rfl, a, rfl, ⟨_, same_seqT I2.1 hra⟩, in_it (n := (row E0 i).length) (fun j H' => Lc K H D ((((List.range i).flatMap (trRow E0)) ++ (((row E0 i).take j).filter fun y => decide (i < y)).map fun y => (i, y)).map dE) H') (by simpa using I2)
      (fun j H' hj I => ⟨_, _, same_seqT I.1 hra, List.getElem?_eq_getElem (by rw [vN_len]; exact hj)⟩) (fun H' I => ⟨_, same_seqT I.1 hra, by rw [vN_len]; exact Nat.le_refl _⟩) ?_ ?_⟩
    · rintro j x H3 H4 hj I3 ⟨rfl, hx⟩
      have hx := hx _ (same_seqT I3.1 hra)
      obtain ⟨b, hb, rfl⟩ := vN_at hx
      have htk : (row E0 i).take (j + 1) = (row E0 i).take j ++ [b] := by rw [List.take_add_one, hb]; rfl
      refine ⟨rfl, _, rfl, _, rfl, _, _, rfl, rfl, _, rfl, iff_b (fun hc => ?_) fun hc => ?_⟩
      · have hlt : i < b := by
          have : (i : Int) < (b : Int) := by simpa using hc
          omega
        refine ⟨_, rfl, _, rfl, by show 2 ≤ sizeLine; decide, fun pt hpt => ?_⟩
        have e1 : ((List.range i).flatMap (trRow E0) ++ ((((row E0 i).take (j + 1)).filter fun y => decide (i < y)).map fun y => (i, y))).map dE =
            ((List.range i).flatMap (trRow E0) ++ ((((row E0 i).take j).filter fun y => decide (i < y)).map fun y => (i, y))).map dE ++ [dE (i, b)] := by
          rw [htk, List.filter_append]
          simp [hlt]
        rw [e1]
        refine Lc.put0 hD I3 (same_upd hpt) (dp_newT hpt (.cons (.int _) (.cons (.int _) .nil))) rfl ?_
        have h1 := hsum i
        have h2 := List.length_filter_le (fun y => decide (i < y)) ((row E0 i).take j)
        have h3 := nodup_lt n (row E0 i) (row_nodup t) fun y hy => row_lt t hy
        simp [sizeLine_eq] at *
        omega
      · have hlt : ¬ i < b := by
          have : ¬ (i : Int) < (b : Int) := by simpa using hc
          omega
        have e1 : (((row E0 i).take (j + 1)).filter fun y => decide (i < y)) = (((row E0 i).take j).filter fun y => decide (i < y)) := by
          rw [htk, List.filter_append]
          simp [hlt]
        show Lc K H D (((List.range i).flatMap (trRow E0) ++ ((((row E0 i).take (j + 1)).filter fun y => decide (i < y)).map fun y => (i, y))).map dE) H4
        rw [e1]
        exact I3
    · intro H3 I3
      rw [List.take_length] at I3
      show Lc K H D (((List.range (i + 1)).flatMap (trRow E0)).map dE) H3
      rw [List.range_succ, List.flatMap_append]
      simpa [trRow] using I3
  · intro H' I
    obtain ⟨s1, d1, acc, h1, h2⟩ := I.end_
    exact ⟨D, acc, rfl, .inl ⟨SqL.of h1, fun pt hpt => q _ _ (s1.trans (same_upd hpt)) (dp_newT hpt h2)⟩⟩
theorem k_Railway_tracks {w : World} {K : PySem.W.Frag} {mg : Str → Option Value} {base : Heap} (T : Tx K mg) : Pr PP w K mg base 1 (ga K "Railway") "tracks" (ma K (ga K "Railway") "tracks") (pa K "Railway" "tracks") (sp_Railway_tracks K) := by
  obtain ⟨fd, F⟩ := f_Railway_tracks T
  refine ⟨?_, c_Railway T, m_Railway_tracks T⟩
  refine (a_Railway_tracks T F).pos0 (FunD.bindsN F fun _ _ _ _ _ _ us hl => match us, hl with | [_], _ => rfl) (fun vs H Q E h => ?_)
  obtain ⟨_, _, _, rfl, _⟩ := h
  rfl
def sp_Railway_is_same (K : PySem.W.Frag) : Sp := fun vs H Q E => ∃ (r r2 : Addr) (n n2 : Nat) (E0 E2 : Tr), vs = [.ref r, .ref r2] ∧ RwAt K H r n E0 ∧ RwAt K H r2 n2 E2 ∧ ∀ H', Same H H' → Q (.bl (decide (tracksOf n E0 = tracksOf n2 E2))) H'
theorem sc_Railway_is_same : FnScope ["self", "other"] ["self", "other"] (defScope s_Railway_is_same) := ⟨rfl, rfl, rfl, by decide +kernel, rfl, by decide +kernel, by decide +kernel⟩
theorem a_Railway_is_same {w : World} {K : PySem.W.Frag} {mg : Str → Option Value} {base : Heap} (T : Tx K mg) {fd : FuncData} (F : FunD K "is_same" "Railway.is_same" (defArgs s_Railway_is_same) (defBody s_Railway_is_same) (defScope s_Railway_is_same) (d_Railway_is_same.dvs K) [] (ma K (ga K "Railway") "is_same") fd) : FnA PP w K mg base 3 (ma K (ga K "Railway") "is_same") fd ["self", "other"] (sp_Railway_is_same K) := by
  refine fnA_of F sc_Railway_is_same fun cdv A outer s H vs Q E hr h => ?_
  have nd := sc_Railway_is_same.nd
  obtain ⟨r, r2, n, n2, E0, E2, rfl, h⟩ := h
  refine ⟨_, (pss_one (ps_ret (pe_and (zb (r := rIsZ K) call_isZ rfl (u_isinstance T) (pa_cons (pv 1) (pa_cons (zcl rfl (g_Railway T)) pa_nil))) (pe_one (pe_cmpR (r := rEqD K) (op_eqD (hr.r.units)) (pc_prop (pv 0) (k_Railway_tracks T) (hr.mono (by decide)) passL) (pc_prop (pv 1) (k_Railway_tracks T) (hr.mono (by decide)) passL) (nomark _)))))), ?_⟩
  obtain ⟨h1, h2, q⟩ := h
  obtain ⟨t2, dx2, l2, g2, hh2, G2, B2, hr2, d2⟩ := id h2
  refine ⟨_, rfl, _, _, _, _, true, rfl, .own _, (see_Railway T).ty (c_Railway T) hr2, kit_self, true, rfl, ?_⟩
  refine ⟨_, rfl, r, _, _, rfl, h1.2.choose_spec.choose_spec.choose_spec.choose_spec.choose_spec.choose_spec.1, r, n, E0, rfl, h1, fun H1 v s1 dv => ?_⟩
  refine ⟨_, rfl, r2, _, _, rfl, s1 _ _ hr2, r2, n2, E2, rfl, h2.same s1, fun H2 v2 s2 dv2 => ?_⟩
  refine ⟨dT (tracksOf n E0), dT (tracksOf n2 E2), dp_same s2 dv, dv2, shp_dT.ok (by decide), shp_dT.ok (by decide), ?_⟩
  rw [eqv_dT]
  exact q _ (s1.trans s2)
theorem k_Railway_is_same {w : World} {K : PySem.W.Frag} {mg : Str → Option Value} {base : Heap} (T : Tx K mg) : Mt PP w K mg base 3 (ga K "Railway") "is_same" (ma K (ga K "Railway") "is_same") (sp_Railway_is_same K) := by
  obtain ⟨fd, F⟩ := f_Railway_is_same T
  refine ⟨?_, c_Railway T, m_Railway_is_same T⟩
  refine (a_Railway_is_same T F).pos0 (FunD.bindsN F fun _ _ _ _ _ _ us hl => match us, hl with | [_, _], _ => rfl) (fun vs H Q E h => ?_)
  obtain ⟨_, _, _, _, _, _, rfl, _⟩ := h
  rfl
end TT
namespace TT
open PySem PySem.Spec PyProof.Rows L2
open He (ga ma)
def leZ (a b : Int) : Bool := decide (a ≤ b)
def intsOf (ds : List PyData) : List Int := ds.filterMap fun d => match d with | .int i => some i | _ => none
def isOrd (n : Nat) : PyData → Bool
  | .tuple ds => decide (ds.length = n) && (ds.all isI && decide ((intsOf ds).mergeSort leZ = (List.range n).map fun k : Nat => (k : Int)))
  | _ => false
theorem intsOf_all : ∀ {ds : List PyData}, ds.all isI = true → ds = (intsOf ds).map PyData.int
  | [], _ => rfl
  | d :: ds, h => by
    simp only [List.all_cons, Bool.and_eq_true] at h
    obtain ⟨h1, h2⟩ := h
    cases d with
    | int i =>
      have := intsOf_all h2
      simp only [intsOf, List.filterMap_cons] at this ⊢
      simp only [List.map_cons]
      rw [← this]
    | _ => cases h1
theorem isOrd_yes {n : Nat} {d : PyData} (h : isOrd n d = true) : ∃ os : List Nat, d = dR os ∧ os.Perm (List.range n) := by
  cases d with
  | tuple ds =>
    have h' : (decide (ds.length = n) && (ds.all isI && decide ((intsOf ds).mergeSort leZ = (List.range n).map fun k : Nat => (k : Int)))) = true := h
    simp only [Bool.and_eq_true, decide_eq_true_eq] at h'
    obtain ⟨_, h2, h3⟩ := h'
    have p : (intsOf ds).Perm ((List.range n).map fun k : Nat => (k : Int)) := by rw [← h3]; exact (List.mergeSort_perm _ _).symm
    have hp : ∀ i ∈ intsOf ds, ((i.toNat : Nat) : Int) = i := fun i hi => by
      obtain ⟨k, _, rfl⟩ := List.mem_map.mp (p.mem_iff.mp hi)
      simp
    refine ⟨(intsOf ds).map Int.toNat, ?_, ?_⟩
    · unfold dR
      rw [List.map_map]
      have e : (intsOf ds).map (nI ∘ Int.toNat) = (intsOf ds).map PyData.int := List.map_congr_left fun i hi => by
        show PyData.int ((i.toNat : Nat) : Int) = PyData.int i
        rw [hp i hi]
      rw [e, ← intsOf_all h2]
    · have := p.map Int.toNat
      rw [List.map_map] at this
      have e : (List.range n).map (Int.toNat ∘ fun k : Nat => (k : Int)) = List.range n := by
        have : (Int.toNat ∘ fun k : Nat => (k : Int)) = id := by funext k; simp
        rw [this, List.map_id]
      rw [e] at this
      exact this
  | _ => cases h
theorem intsOf_nI : ∀ os : List Nat, intsOf (os.map nI) = os.map fun k : Nat => (k : Int)
  | [] => rfl
  | a :: os => by
    have := intsOf_nI os
    simp only [intsOf, List.map_cons, List.filterMap_cons, nI] at *
    rw [this]
theorem isOrd_of {n : Nat} {os : List Nat} (p : os.Perm (List.range n)) : isOrd n (dR os) = true := by
  have hl : os.length = n := by rw [p.length_eq]; simp
  have h1 : (os.map nI).all isI = true := by
    rw [List.all_eq_true]
    intro d hd
    obtain ⟨k, _, rfl⟩ := List.mem_map.mp hd
    rfl
  have h2 := intsOf_nI os
  have tot : ∀ a b : Int, (leZ a b || leZ b a) = true := fun a b => by unfold leZ; simp; omega
  have tr : ∀ a b c : Int, leZ a b = true → leZ b c = true → leZ a c = true := fun a b c h1 h2 => by unfold leZ at *; simp at *; omega
  have h3 : (os.map fun k : Nat => (k : Int)).mergeSort leZ = (List.range n).map fun k : Nat => (k : Int) := by
    refine List.Perm.eq_of_pairwise (le := fun a b : Int => a ≤ b) (fun a b _ _ h1 h2 => by omega) ?_ ?_ ((List.mergeSort_perm _ _).trans (p.map _))
    · exact (List.pairwise_mergeSort tr tot _).imp fun h => by simpa [leZ] using h
    · rw [List.pairwise_map]
      exact (List.pairwise_lt_range (n := n)).imp fun h => by omega
  show (decide ((os.map nI).length = n) && ((os.map nI).all isI && decide ((intsOf (os.map nI)).mergeSort leZ = (List.range n).map fun k : Nat => (k : Int)))) = true
  rw [h1, h2, h3]
  simp [hl]
theorem dataLe_int' (y z : Int) : PySem.W.dataLe false PyData.int y z = leZ y z := congrFun (congrFun (PySem.W.dataLe_int (fun n : Int => n)) y) z
theorem alike_int (l : List Int) : PySem.W.AllAlike (l.map PyData.int) := by
  intro d hd d' hd'
  obtain ⟨a, _, rfl⟩ := List.mem_map.mp hd
  obtain ⟨b, _, rfl⟩ := List.mem_map.mp hd'
  rfl
theorem sortable_int (l : List Int) : PySem.W.Sortable (l.map PyData.int) := .inr fun d hd => by
  obtain ⟨a, _, rfl⟩ := List.mem_map.mp hd
  exact ⟨fun z => (by cases z), fun xs z => (by cases z)⟩
theorem dpa_bools {K : PySem.W.Frag} {H : Hp} : ∀ {bs : List Bool} {xs : List V}, DpAll K H xs (bs.map PyData.bool) → xs = bs.map V.bl
  | [], xs, h => by cases h; rfl
  | b :: bs, xs, h => by
    cases h with
    | cons h1 h2 =>
      obtain rfl := dp_bl h1
      rw [dpa_bools h2]
      rfl
/-- the stations renamed -/
def ren (os : List Nat) (e : Nat × Nat) : Nat × Nat := (os.getD e.1 0, os.getD e.2 0)
theorem ren_tree {n : Nat} {E : Tr} {os : List Nat} (t : Tree n E) (p : os.Perm (List.range n)) : Tree n (E.map (ren os)) := by
  have hl : os.length = n := by rw [p.length_eq]; simp
  have nd : os.Nodup := p.nodup_iff.mpr List.nodup_range
  refine t.map (ren os) (fun x => os.getD x 0) (fun x => os.idxOf x) (fun x hx => ?_) (fun x hx => ?_) fun e _ => .inl rfl
  · have h1 := getD_some (l := os) (d := 0) (i := x) (by omega)
    have hm := List.mem_of_getElem? h1
    refine ⟨List.mem_range.mp (p.mem_iff.mp hm), ?_⟩
    have hi := List.idxOf_lt_length_iff.mpr hm
    have h2 : os[os.idxOf (os.getD x 0)]? = some (os.getD x 0) := by
      rw [List.getElem?_eq_getElem hi, List.getElem_idxOf]
    exact nd_ix nd h2 h1
  · have hm := p.mem_iff.mpr (List.mem_range.mpr hx)
    have hi := List.idxOf_lt_length_iff.mpr hm
    refine ⟨by omega, ?_⟩
    rw [List.getD_eq_getElem?_getD, List.getElem?_eq_getElem hi, List.getElem_idxOf]
    rfl
def sp_is_order (K : PySem.W.Frag) : Sp := fun vs H Q E => ∃ (r : Addr) (n : Nat) (E0 : Tr) (v : V) (d : PyData), vs = [.ref r, v] ∧ RwAt K H r n E0 ∧ Dp K H v d ∧ ∀ H', Same H H' → Q (.bl (isOrd n d)) H'
theorem sc_is_order : FnScope ["railway", "thing", "one"] ["railway", "thing"] (defScope s_is_order) := ⟨rfl, rfl, rfl, by decide +kernel, rfl, by decide +kernel, by decide +kernel⟩
theorem a_is_order {w : World} {K : PySem.W.Frag} {mg : Str → Option Value} {base : Heap} (T : Tx K mg) {fd : FuncData} (F : FunD K "is_order" "is_order" (defArgs s_is_order) (defBody s_is_order) (defScope s_is_order) (d_is_order.dvs K) [] (ga K "is_order") fd) : FnA PP w K mg base 4 (ga K "is_order") fd ["railway", "thing"] (sp_is_order K) := by
  refine fnA_of F sc_is_order fun cdv A outer s H vs Q E hr h => ?_
  have nd := sc_is_order.nd
  obtain ⟨r, n, E0, v, d, rfl, h⟩ := h
  refine ⟨_, (pss_cons (ps_if (PW.pt (pw_or (pt_not (pt_val (zb (r := rIsD K "tuple") (call_isD "tuple") rfl (u_isinstance T) (pa_cons (pv 1) (pa_cons (zty "tuple" rfl (u_tuple T)) pa_nil))))) (pw_or1 (pt_cmpR op_ne (zb (r := rLenD K) call_lenD rfl (u_len T) (pa_cons (pv 1) pa_nil)) (pc_prop (pv 0) (k_Railway_size T) (hr.mono (by decide)) passL) (nomark _))))) (pss_one (ps_ret pe_bl)) pss_nil)
      (pss_one (ps_ret (pe_and (zb (r := rAll K) (cr_all rfl) rfl (u_all T) (pa_cons (pe_lc (own := [("one", 2)]) rfl nd (qtup (K := K) (pv 1)) (blkOk_by (N := ["railway", "thing", "one"]) (sc := defScope s_is_order) (by decide +kernel)) (fun _ _ _ _ _ => (zg 2 nd)) (fun _ _ _ _ _ => pts_nil) (fun _ _ _ _ _ => (pc_call (k_is_integer T) (hr.mono (by decide)) rfl passL (pa_cons (pv 2) pa_nil)))) pa_nil)) (pe_one (pe_cmpR (r := rEqD K) (op_eqD (hr.r.units)) (zb (r := rSortD K PyData.int leZ) (call_sortD PyData.int leZ hr) rfl (u_sorted T) (pa_cons (pv 1) pa_nil)) (pe_listRg rfl rfl (u_list T) (prg_1 rfl (u_range T) (pc_prop (pv 0) (k_Railway_size T) (hr.mono (by decide)) passL))) (nomark _))))))), ?_⟩
  obtain ⟨hR, h, q⟩ := h
  obtain ⟨t, dx, l, g, hh, G, B, hr0, dd⟩ := id hR
  have hm := t.most
  by_cases hT : ∃ ds, d = .tuple ds
  · obtain ⟨ds, rfl⟩ := hT
    obtain ⟨a, xs, rfl, hs, hd⟩ := dp_tup h
    have hl := dpa_len hd
    refine ⟨_, rfl, _, _, true, rfl, h, kb_tup_tup, _, rfl, iff_f rfl ?_⟩
    refine ⟨_, rfl, _, ds, rfl, .inr h, _, rfl, r, dx, _, rfl, hr0, r, n, E0, rfl, hR, rfl, _, rfl, iff_b (fun hc => ?_) fun hc => ?_⟩
    · have hne : ¬ ds.length = n := by
        have : ¬ (ds.length : Int) = (n : Int) := by simpa [dI_eq] using hc
        omega
      have e : isOrd n (.tuple ds) = false := by simp [isOrd, hne]
      rw [e] at q
      exact q H (Same.refl H)
    · have hne : ds.length = n := by
        have : (ds.length : Int) = (n : Int) := by simpa [dI_eq] using hc
        omega
      have hk : isOrd n (.tuple ds) = (ds.all isI && decide ((intsOf ds).mergeSort leZ = (List.range n).map fun k : Nat => (k : Int))) := by simp [isOrd, hne]
      rw [hk] at q
      refine ⟨_, rfl, a, rfl, ⟨_, hs⟩, fun D hD => ?_⟩
      refine lc_tup (xs := xs) (LcP K H D fun i => (ds.take i).map fun d => PyData.bool (isI d)) (lcp_start hD rfl) (fun i H' _ I => same_seqT I.1 hs) ?_ ?_
      · intro i x H' hx I
        obtain ⟨di, hdi, hxi⟩ := dpa_at hd hx
        have hF : (ds.take (i + 1)).map (fun d => PyData.bool (isI d)) = (ds.take i).map (fun d => PyData.bool (isI d)) ++ [PyData.bool (isI di)] := by
          rw [List.take_add_one, hdi]; simp
        exact ⟨rfl, _, rfl, x, di, rfl, dp_same I.1 hxi, lcp_put0 hD I (Same.refl _) (.bl _) rfl hF (by rw [List.length_map, List.length_take, sizeLine_eq]; omega)⟩
      intro H1 I1
      obtain ⟨s1, _, acc, h1, h2⟩ := lcp_end I1
      rw [hl, List.take_length] at h2
      have ebs : ds.map (fun d => PyData.bool (isI d)) = (ds.map isI).map PyData.bool := by rw [List.map_map]; rfl
      rw [ebs] at h2
      rw [dpa_bools h2] at h1
      refine ⟨D, _, rfl, SqL.of h1, _, rfl, ?_⟩
      have eall : (ds.map isI).all id = ds.all isI := by rw [List.all_map]; rfl
      rw [eall]
      refine iff_b (fun hc2 => ?_) fun hc2 => ?_
      · have hds := intsOf_all hc2
        have h' := dp_same s1 h
        rw [hds] at h'
        rw [hc2, Bool.true_and] at q
        refine ⟨_, rfl, _, intsOf ds, rfl, .inr h', fun y _ z _ => dataLe_int' y z, alike_int _, sortable_int _, fun _ _ => Nat.zero_le _, fun ps ys hps hys => ?_⟩
        have s2 := same_upd (o := .lst ys) hps
        have s3 := s1.trans s2
        refine ⟨_, rfl, r, dx, _, rfl, s3 _ _ hr0, r, n, E0, rfl, hR.same s3, _, rfl, RgOk.of_le (by omega) (by omega) (by omega) (by omega), fun pr hpr => ?_⟩
        rw [rgV_nat]
        have s4 := same_upd (o := .lst (vN (List.range n))) hpr
        refine ⟨.list (((intsOf ds).mergeSort leZ).map PyData.int), .list ((List.range n).map nI), dp_same s4 (dp_newL hps hys), dp_newL hpr (vN_dp _), (shp_list (shpA_map fun _ _ => shp_int) : Shp 1 _).ok (by decide), (shp_list (shpA_map fun _ _ => shp_int) : Shp 1 _).ok (by decide), ?_⟩
        have er : (List.range n).map nI = ((List.range n).map fun k : Nat => (k : Int)).map PyData.int := by rw [List.map_map]; rfl
        rw [er]
        simp only [PyData.eqv]
        rw [eqv_ints]
        exact q _ (s3.trans s4)
      · rw [hc2, Bool.false_and] at q
        exact q _ s1
  · have hk : kitB (tyD d) "tuple" = some false ∧ isOrd n d = false := by
      cases d with
      | none => exact ⟨kb_non_tup, rfl⟩
      | bool b => exact ⟨kb_bool_tup, rfl⟩
      | int b => exact ⟨kb_int_tup, rfl⟩
      | str b => exact ⟨kb_str_tup, rfl⟩
      | list b => exact ⟨kb_list_tup, rfl⟩
      | tuple b => exact absurd ⟨b, rfl⟩ hT
      | dict b => cases h
    rw [hk.2] at q
    exact ⟨_, rfl, _, _, false, rfl, h, hk.1, _, rfl, q H (Same.refl H)⟩
theorem k_is_order {w : World} {K : PySem.W.Frag} {mg : Str → Option Value} {base : Heap} (T : Tx K mg) : Cl PP w K mg base 4 "is_order" (sp_is_order K) := by
  obtain ⟨fd, F⟩ := f_is_order T
  refine ⟨?_, g_is_order T, F.kp⟩
  refine (a_is_order T F).pos0 (FunD.bindsN F fun _ _ _ _ _ _ us hl => match us, hl with | [_, _], _ => rfl) (fun vs H Q E h => ?_)
  obtain ⟨_, _, _, _, _, rfl, _⟩ := h
  rfl
def sp_renamed (K : PySem.W.Frag) : Sp := fun vs H Q E => ∃ (r : Addr) (n : Nat) (E0 : Tr) (v : V) (d : PyData), vs = [.ref r, v] ∧ RwAt K H r n E0 ∧ Dp K H v d ∧ (isOrd n d = false → ∀ H' dx, Same H H' → H dx = none → H' dx = some (.xd [("value", v)]) → E (.ref (ga K "InvalidOrder")) (some dx) H') ∧ (∀ os : List Nat, isOrd n d = true → d = dR os → os.Perm (List.range n) → ∀ H' r', Same H H' → H r' = none → RwAt K H' r' n ((tracksOf n E0).map (ren os)) → Q (.ref r') H')
theorem sc_renamed : FnScope ["railway", "order", "a", "b"] ["railway", "order"] (defScope s_renamed) := ⟨rfl, rfl, rfl, by decide +kernel, rfl, by decide +kernel, by decide +kernel⟩
theorem a_renamed {w : World} {K : PySem.W.Frag} {mg : Str → Option Value} {base : Heap} (T : Tx K mg) {fd : FuncData} (F : FunD K "renamed" "renamed" (defArgs s_renamed) (defBody s_renamed) (defScope s_renamed) (d_renamed.dvs K) [] (ga K "renamed") fd) : FnA PP w K mg base 7 (ga K "renamed") fd ["railway", "order"] (sp_renamed K) := by
  refine fnA_of F sc_renamed fun cdv A outer s H vs Q E hr h => ?_
  have nd := sc_renamed.nd
  obtain ⟨r, n, E0, v, d, rfl, h⟩ := h
  refine ⟨_, (pss_cons (ps_if (pt_not (pt_val (pc_call (k_is_order T) (hr.mono (by decide)) rfl pX (pa_cons (pv 0) (pa_cons (pv 1) pa_nil))))) (pss_one (ps_raise rfl tkX (pmk_e1 (k := 0) (e_InvalidOrder T) (hr.mono (by decide)) rfl (g_InvalidOrder T) (pv 1)))) pss_nil)
      (pss_one (ps_ret (pc_cm (zcl rfl (g_Railway T)) (k_Railway_of T) (hr.mono (by decide)) pX (pa_cons (zt (r := rTupOf K) call_tuple_of rfl (u_tuple T) (pa_cons (pe_lc (own := [("a", 2), ("b", 3)]) rfl nd (qtup (K := K) (pc_prop (pv 0) (k_Railway_tracks T) (hr.mono (by decide)) passL)) (blkOk_by (N := ["railway", "order", "a", "b"]) (sc := defScope s_renamed) (by decide +kernel)) (fun _ _ _ _ _ => (qgt (K := K) (n := 2) rfl (pgs_cons (zg 2 nd) (pgs_cons (zg 3 nd) pgs_nil)))) (fun _ _ _ _ _ => pts_nil) (fun _ _ _ _ _ => (pe_tup (pa_cons (pe_ix (r := rIxD K) ix_dp (pv 1) (pv 2) (fun _ _ => rfl)) (pa_cons (pe_ix (r := rIxD K) ix_dp (pv 1) (pv 3) (fun _ _ => rfl)) pa_nil))))) pa_nil)) pa_nil))))), ?_⟩
  obtain ⟨hR, h, q1, q2⟩ := h
  refine ⟨_, rfl, _, rfl, r, n, E0, v, d, rfl, hR, h, fun H1 s1 => ⟨_, rfl, iff_b (fun hc => ?_) fun hc => ?_⟩⟩
  · have hc : isOrd n d = false := by simpa using hc
    exact ⟨_, rfl, fun dx hdx => q1 hc _ dx (s1.trans (same_upd hdx)) (s1.free hdx) upd_same⟩
  · have hc : isOrd n d = true := by simpa using hc
    obtain ⟨os, hos, hp⟩ := isOrd_yes hc
    obtain ⟨t, dx, l, g, hh, G, B, hr0, dd⟩ := id (hR.same s1)
    have hm := t.most
    have hol : os.length = n := by rw [hp.length_eq]; simp
    refine ⟨rfl, _, rfl, r, dx, _, rfl, hr0, r, n, E0, rfl, hR.same s1, fun H2 tv s2 dv => ?_⟩
    obtain ⟨ta, tx, rfl, hts, htd⟩ := dp_tup dv
    have htl : tx.length = (tracksOf n E0).length := by rw [dpa_len htd, List.length_map]
    have htr : (tracksOf n E0).length + 1 = n := by rw [tracks_normed t]; exact t.normed.len
    refine ⟨ta, rfl, ⟨_, hts⟩, fun D hD => ?_⟩
    refine lc_tup (xs := tx) (LcP K H2 D fun i => (((tracksOf n E0).map (ren os)).take i).map dE) (lcp_start hD rfl) (fun i H' _ I => same_seqT I.1 hts) ?_ ?_
    · intro i x H' hx I
      obtain ⟨e, he, hxe⟩ : ∃ e, (tracksOf n E0)[i]? = some e ∧ Dp K H2 x (dE e) := by
        obtain ⟨d1, hd1, hd2⟩ := dpa_at htd hx
        rw [List.getElem?_map] at hd1
        obtain ⟨e, he, rfl⟩ := Option.map_eq_some_iff.mp hd1
        exact ⟨e, he, hd2⟩
      have hre : e.1 < n ∧ e.2 < n := by
        have := t.normed.rng e (by rw [← tracks_normed t]; exact List.mem_of_getElem? he)
        exact this
      obtain ⟨xa, ys, rfl, hys, hyd⟩ := dp_tup hxe
      obtain rfl : ys = [.int (e.1 : Int), .int (e.2 : Int)] := by
        have z : DpAll K H2 ys ([e.1, e.2].map nI) := hyd
        exact vN_of z
      have dor := dp_same ((s1.trans s2).trans I.1) h
      rw [hos] at dor
      have g1 : (os.map nI)[e.1]? = some (nI (os.getD e.1 0)) := by rw [List.getElem?_map, getD_some (d := 0) (by omega)]; rfl
      have g2 : (os.map nI)[e.2]? = some (nI (os.getD e.2 0)) := by rw [List.getElem?_map, getD_some (d := 0) (by omega)]; rfl
      refine ⟨xa, _, rfl, same_seqT I.1 hys, rfl, _, _, rfl, _, _, rfl, rfl, rfl, ?_⟩
      refine ⟨_, rfl, _, rfl, _, e.1, _, .inr dor, rfl, g1, fun v1 d1 => ?_⟩
      refine ⟨_, rfl, _, rfl, _, e.2, _, .inr dor, rfl, g2, fun v2 d2 => ?_⟩
      refine ⟨by show 2 ≤ sizeLine; decide, fun pt hpt => ?_⟩
      have hF : (((tracksOf n E0).map (ren os)).take (i + 1)).map dE = (((tracksOf n E0).map (ren os)).take i).map dE ++ [dE (ren os e)] := by
        rw [List.take_add_one, List.map_append, List.getElem?_map, he]; rfl
      exact lcp_put0 hD I (same_upd hpt) (dp_newT hpt (.cons d1 (.cons d2 .nil))) rfl hF (by rw [List.length_map, List.length_take, List.length_map, sizeLine_eq]; omega)
    intro H3 I3
    obtain ⟨s3, _, acc, h1, h2⟩ := lcp_end I3
    have et : ((tracksOf n E0).map (ren os)).take tx.length = (tracksOf n E0).map (ren os) := by rw [List.take_of_length_le (by rw [List.length_map]; omega)]
    rw [et] at h2
    refine ⟨D, acc, rfl, .inl ⟨SqL.of h1, fun pt hpt => ?_⟩⟩
    have s4 := same_upd (o := .tup acc) hpt
    have s04 := ((s1.trans s2).trans s3).trans s4
    refine ⟨pt, n, _, rfl, dp_newT hpt h2, ren_tree ?_ hp, fun H5 r' s5 hr' hR' => q2 os hc hos hp H5 r' (s04.trans s5) (s04.free hr') hR'⟩
    rw [tracks_normed t]; exact t.normed
theorem k_renamed {w : World} {K : PySem.W.Frag} {mg : Str → Option Value} {base : Heap} (T : Tx K mg) : Cl PP w K mg base 7 "renamed" (sp_renamed K) := by
  obtain ⟨fd, F⟩ := f_renamed T
  refine ⟨?_, g_renamed T, F.kp⟩
  refine (a_renamed T F).pos0 (FunD.bindsN F fun _ _ _ _ _ _ us hl => match us, hl with | [_, _], _ => rfl) (fun vs H Q E h => ?_)
  obtain ⟨_, _, _, _, _, rfl, _⟩ := h
  rfl
theorem kk_renamed_0_order_railway {w : World} {K : PySem.W.Frag} {mg : Str → Option Value} {base : Heap} (T : Tx K mg) : ClK PP w K mg base 7 "renamed" 0 ["order", "railway"] (fun xs H Q E => [1, 0].length = 2 ∧ sp_renamed K (pick .non [1, 0] xs) H Q E) := by
  obtain ⟨fd, F⟩ := f_renamed T
  refine ⟨(a_renamed T F).kw 0 ["order", "railway"] [1, 0] (fun s us ws h1 h2 => ?_), g_renamed T, F.kp⟩
  obtain ⟨oc, od, dV, kV, doc, pm, an, cdv, ct, osl, rfl, _, _, hD, _⟩ := F.ex
  obtain rfl : dV = Value.none := by
    rcases hD with ⟨_, z⟩ | ⟨z, _⟩
    · exact z
    · exact absurd rfl z
  match us, ws, h1, h2 with
  | [], [w0, w1], _, _ => exact .of_eq rfl
end TT
namespace TT
open PySem PySem.Spec PyProof.Rows L2
open He (ga ma)
def drKV (c : Addr) (a l u : Int) : List (Key × V) := [(.inr "cells", .ref c), (.inr "at", .int a), (.inr "left", .int l), (.inr "used", .int u)]
/-- the drawing's state: at most m cells read -/
def Drw (H : Hp) (d c : Addr) (m : Nat) : Prop := ∃ (ns : List Int) (a l u : Int), H d = some (.dK (drKV c a l u)) ∧ H c = some (.lst (ns.map V.int)) ∧ ns ≠ [] ∧ ns.length ≤ 64 ∧ 0 ≤ a ∧ a ≤ m ∧ 0 ≤ l ∧ 0 ≤ u ∧ u ≤ m
/-- all but what stands at d stays -/
def ExD (d : Addr) (H H' : Hp) : Prop := ∀ b o, H b = some o → b ≠ d → H' b = some o
section
variable {K : PySem.W.Frag} {H H' H'' : Hp} {d : Addr} {m : Nat}
theorem ExD.refl (d : Addr) (H : Hp) : ExD d H H := fun _ _ h _ => h
theorem ExD.trans (s : ExD d H H') (t : ExD d H' H'') : ExD d H H'' := fun b o h n => t b o (s b o h n) n
theorem ExD.of (s : Same H H') : ExD d H H' := fun b o h _ => s b o h
theorem exD_upd {o : HO} : ExD d H (upd H d o) := fun b u h n => by rw [upd_ne n]; exact h
theorem ExD.kp (s : ExD d H H') (e : ∀ o, H d = some o → isSq o = false) : Kp H H' := fun b o h q => s b o h fun z => by
  rw [z] at h
  rw [e o h] at q; cases q
theorem Drw.no {c : Addr} (r : Drw H d c m) : ∀ o, H d = some o → isSq o = false := by
  obtain ⟨ns, a, l, u, h, _⟩ := r
  intro o ho
  rw [h] at ho; cases ho; rfl
theorem Drw.ne {c : Addr} (r : Drw H d c m) : d ≠ c := by
  obtain ⟨ns, a, l, u, h, h1, _⟩ := r
  intro z
  rw [z, h1] at h; cases h
theorem Drw.there {c : Addr} (r : Drw H d c m) : (∃ o, H d = some o) ∧ ∃ o, H c = some o := by
  obtain ⟨ns, a, l, u, h, h1, _⟩ := r
  exact ⟨⟨_, h⟩, _, h1⟩
theorem Drw.same {c : Addr} (r : Drw H d c m) (s : Same H H') : Drw H' d c m := by
  obtain ⟨ns, a, l, u, h, h1, h2⟩ := r
  exact ⟨ns, a, l, u, s _ _ h, s _ _ h1, h2⟩
theorem Drw.off {c p : Addr} {o : HO} (r : Drw H d c m) (h1 : d ≠ p) (h2 : c ≠ p) : Drw (upd H p o) d c m := by
  obtain ⟨ns, a, l, u, h, hc, r⟩ := r
  exact ⟨ns, a, l, u, by rw [upd_ne h1]; exact h, by rw [upd_ne h2]; exact hc, r⟩
theorem Drw.mono {c : Addr} {j : Nat} (r : Drw H d c j) (h : j ≤ m) : Drw H d c m := by
  obtain ⟨ns, a, l, u, h0, h1, h2, h3, h4, h5, h6, h7, h8⟩ := r
  exact ⟨ns, a, l, u, h0, h1, h2, h3, h4, by omega, h6, h7, by omega⟩
end
theorem put_at (c : Addr) (a l u x : Int) : putK (drKV c a l u) (.inr "at") (.int x) = drKV c x l u := rfl
theorem put_left (c : Addr) (a l u x : Int) : putK (drKV c a l u) (.inr "left") (.int x) = drKV c a x u := rfl
theorem put_used (c : Addr) (a l u x : Int) : putK (drKV c a l u) (.inr "used") (.int x) = drKV c a l x := rfl
theorem few4 {c : Addr} {a l u : Int} : (drKV c a l u).length < sizeLine := by show 4 < sizeLine; decide
theorem g_cells {H : Hp} {d c : Addr} {a l u : Int} (h : H d = some (.dK (drKV c a l u))) : DGet H d (.str "cells") (some (.ref c)) := DGet.k (k := .inr "cells") h
theorem g_at {H : Hp} {d c : Addr} {a l u : Int} (h : H d = some (.dK (drKV c a l u))) : DGet H d (.str "at") (some (.int a)) := DGet.k (k := .inr "at") h
theorem g_left {H : Hp} {d c : Addr} {a l u : Int} (h : H d = some (.dK (drKV c a l u))) : DGet H d (.str "left") (some (.int l)) := DGet.k (k := .inr "left") h
theorem g_used {H : Hp} {d c : Addr} {a l u : Int} (h : H d = some (.dK (drKV c a l u))) : DGet H d (.str "used") (some (.int u)) := DGet.k (k := .inr "used") h
theorem p_at {H : Hp} {d c : Addr} {a l u : Int} (x : Int) (h : H d = some (.dK (drKV c a l u))) : DPut H d (.str "at") (.int x) (upd H d (.dK (drKV c x l u))) := DPut.k (k := .inr "at") h few4
theorem p_left {H : Hp} {d c : Addr} {a l u : Int} (x : Int) (h : H d = some (.dK (drKV c a l u))) : DPut H d (.str "left") (.int x) (upd H d (.dK (drKV c a x u))) := DPut.k (k := .inr "left") h few4
theorem p_used {H : Hp} {d c : Addr} {a l u : Int} (x : Int) (h : H d = some (.dK (drKV c a l u))) : DPut H d (.str "used") (.int x) (upd H d (.dK (drKV c a l x))) := DPut.k (k := .inr "used") h few4
def sp__law_begin (K : PySem.W.Frag) : Sp := fun vs H Q E => ∃ (a : Addr) (ns : List Int), vs = [.ref a] ∧ SqL K H a (ns.map V.int) ∧ ns.length ≤ 63 ∧ ∀ H' d c, Same H H' → H d = none → H c = none → Drw H' d c 0 → Q (.ref d) H'
theorem sc__law_begin : FnScope ["script"] ["script"] (defScope s__law_begin) := ⟨rfl, rfl, rfl, by decide +kernel, rfl, by decide +kernel, by decide +kernel⟩
theorem a__law_begin {w : World} {K : PySem.W.Frag} {mg : Str → Option Value} {base : Heap} (T : Tx K mg) {fd : FuncData} (F : FunD K "_law_begin" "_law_begin" (defArgs s__law_begin) (defBody s__law_begin) (defScope s__law_begin) (d__law_begin.dvs K) [] (ga K "_law_begin") fd) : FnA PP w K mg base 1 (ga K "_law_begin") fd ["script"] (sp__law_begin K) := by
  refine fnA_of F sc__law_begin fun cdv A outer s H vs Q E hr h => ?_
  have nd := sc__law_begin.nd
  obtain ⟨a, ns, rfl, h⟩ := h
  refine ⟨_, (pss_one (ps_ret (pe_disp (pps_cons pe_str (pe_op (r := rCatL K) op_catL (pv 0) (pe_lst (pa_cons pe_int pa_nil))) (pps_cons pe_str pe_int (pps_cons pe_str pe_int (pps_cons pe_str pe_int pps_nil)))) rfl rfl (by simp) (by decide)))), ?_⟩
  obtain ⟨h, hl, q⟩ := h
  intro d hd
  have s1 := same_upd (o := .dK []) hd
  refine ⟨_, rfl, by show 1 ≤ sizeLine; decide, fun z hz => ?_⟩
  have s2 := s1.trans (same_upd (o := .lst [V.int 0]) hz)
  have hd2 := same_upd (o := .lst [V.int 0]) hz _ _ (upd_same (H := H) (a := d) (o := .dK []))
  refine ⟨a, z, _, _, rfl, rfl, s2.seq h, SqL.of upd_same, by rw [List.length_map, sizeLine_eq]; simp; omega, fun c hc => ?_⟩
  have s3 := s2.trans (same_upd (o := .lst (ns.map V.int ++ [V.int 0])) hc)
  have hd3 := same_upd (o := .lst (ns.map V.int ++ [V.int 0])) hc _ _ hd2
  refine ⟨hd3, drKV c 0 0 0, rfl, by show 4 ≤ 15; decide, ?_⟩
  have e : mergeK [] (drKV c 0 0 0) = drKV c 0 0 0 := rfl
  rw [e]
  refine q _ d c (same_upd2 s3 hd) hd (s2.free hc) ⟨ns ++ [0], 0, 0, 0, upd_same, ?_, by simp, by simp; omega, by omega, by omega, by omega, by omega, by omega⟩
  rw [upd_ne (ne_of_none hd2 hc).symm, upd_same]
  simp
theorem k__law_begin {w : World} {K : PySem.W.Frag} {mg : Str → Option Value} {base : Heap} (T : Tx K mg) : Cl PP w K mg base 1 "_law_begin" (sp__law_begin K) := by
  obtain ⟨fd, F⟩ := f__law_begin T
  refine ⟨?_, g__law_begin T, F.kp⟩
  refine (a__law_begin T F).pos0 (FunD.bindsN F fun _ _ _ _ _ _ us hl => match us, hl with | [_], _ => rfl) (fun vs H Q E h => ?_)
  obtain ⟨_, _, rfl, _⟩ := h
  rfl
def sp__law_mixed (K : PySem.W.Frag) : Sp := fun vs H Q E => ∃ (c k : Int), vs = [.int c, .int k] ∧ 0 ≤ k ∧ k < 2 ^ 60 ∧ ∀ r : Int, 0 ≤ r → Q (.int r) H
theorem sc__law_mixed : FnScope ["cell", "k", "mixed"] ["cell", "k"] (defScope s__law_mixed) := ⟨rfl, rfl, rfl, by decide +kernel, rfl, by decide +kernel, by decide +kernel⟩
theorem a__law_mixed {w : World} {K : PySem.W.Frag} {mg : Str → Option Value} {base : Heap} (T : Tx K mg) {fd : FuncData} (F : FunD K "_law_mixed" "_law_mixed" (defArgs s__law_mixed) (defBody s__law_mixed) (defScope s__law_mixed) (d__law_mixed.dvs K) [] (ga K "_law_mixed") fd) : FnA PP w K mg base 1 (ga K "_law_mixed") fd ["cell", "k"] (sp__law_mixed K) := by
  refine fnA_of F sc__law_mixed fun cdv A outer s H vs Q E hr h => ?_
  have nd := sc__law_mixed.nd
  obtain ⟨c, k, rfl, h⟩ := h
  refine ⟨_, (pss_cons (zset 2 nd (pe_op op_mod (pe_op op_add (pe_op op_add (pe_op op_add (pe_op op_mod (pv 0) pe_int) (pe_op op_mul (pe_op op_mul pe_int (pv 1)) (pv 1))) (pe_op op_mul pe_int (pv 1))) pe_int) pe_int))
      (pss_cons (zset 2 nd (pe_op op_mod (pe_op op_mul (pe_op op_mod (pe_op op_mul (pv 2) (pv 2)) pe_int) (pv 2)) pe_int))
      (pss_one (ps_ret (pe_op op_fdiv (pe_op op_mod (pe_op op_mul (pv 2) (pe_op op_add pe_int (pe_op op_mul pe_int (pe_op op_mod (pv 1) pe_int)))) pe_int) pe_int))))), ?_⟩
  obtain ⟨h0, h1, q⟩ := h
  have p2 : (2 : Int) ^ 64 = 18446744073709551616 := by decide
  have p3 : (2 : Int) ^ 60 = 1152921504606846976 := by decide
  refine ⟨_, rfl, _, _, rfl, rfl, (by show (0 : Int) < 1000000007; decide), _, rfl, _, _, rfl, rfl, .inl (by constructor <;> decide), _, rfl, _, _, rfl, rfl, .inr (by constructor <;> omega), _, _, rfl, rfl, _, rfl, _, _, rfl, rfl, .inl (by constructor <;> decide), _, _, rfl, rfl, _, _, rfl, rfl, _, _, rfl, rfl, (by show (0 : Int) < 2147483647; decide), ?_⟩
  dsimp only
  generalize hM : (c % 1000000007 + 7919 * k * k + 31 * k + 7) % 2147483647 = M1
  have m1 : 0 ≤ M1 ∧ M1 < 2147483647 := by rw [← hM]; exact ⟨Int.emod_nonneg _ (by decide), Int.emod_lt_of_pos _ (by decide)⟩
  refine ⟨_, rfl, _, rfl, _, _, rfl, rfl, .inl (by constructor <;> omega), _, _, rfl, rfl, (by show (0 : Int) < 2147483647; decide), _, rfl, ?_⟩
  dsimp only
  generalize hP : M1 * M1 % 2147483647 = M2
  have m2 : 0 ≤ M2 ∧ M2 < 2147483647 := by rw [← hP]; exact ⟨Int.emod_nonneg _ (by decide), Int.emod_lt_of_pos _ (by decide)⟩
  refine ⟨_, _, rfl, rfl, .inl (by constructor <;> omega), _, _, rfl, rfl, (by show (0 : Int) < 2147483629; decide), ?_⟩
  dsimp only
  generalize hR : M2 * M1 % 2147483629 = M3
  have m3 : 0 ≤ M3 ∧ M3 < 2147483629 := by rw [← hR]; exact ⟨Int.emod_nonneg _ (by decide), Int.emod_lt_of_pos _ (by decide)⟩
  refine ⟨_, rfl, _, rfl, _, _, rfl, rfl, (by show (0 : Int) < 1000; decide), _, _, rfl, rfl, .inl (by constructor <;> decide), _, _, rfl, rfl, _, _, rfl, rfl, .inl (by constructor <;> omega), _, _, rfl, rfl, (by show (0 : Int) < 2147483647; decide), _, _, rfl, rfl, ⟨by decide, by decide⟩, ?_⟩
  exact q _ (Int.ediv_nonneg (Int.emod_nonneg _ (by decide)) (by decide))
theorem k__law_mixed {w : World} {K : PySem.W.Frag} {mg : Str → Option Value} {base : Heap} (T : Tx K mg) : Cl PP w K mg base 1 "_law_mixed" (sp__law_mixed K) := by
  obtain ⟨fd, F⟩ := f__law_mixed T
  refine ⟨?_, g__law_mixed T, F.kp⟩
  refine (a__law_mixed T F).pos0 (FunD.bindsN F fun _ _ _ _ _ _ us hl => match us, hl with | [_, _], _ => rfl) (fun vs H Q E h => ?_)
  obtain ⟨_, _, rfl, _⟩ := h
  rfl
def sp__law_next (K : PySem.W.Frag) : Sp := fun vs H Q E => ∃ (d c : Addr) (b : Int) (m : Nat), vs = [.ref d, .int b] ∧ Drw H d c m ∧ 0 < b ∧ b < 1073741824 ∧ m < 2 ^ 59 ∧ ∀ H' (r : Int), ExD d H H' → Drw H' d c (m + 1) → 0 ≤ r → r < b → Q (.int r) H'
theorem sc__law_next : FnScope ["draw", "bound", "found", "cells", "cell"] ["draw", "bound"] (defScope s__law_next) := ⟨rfl, rfl, rfl, by decide +kernel, rfl, by decide +kernel, by decide +kernel⟩
theorem a__law_next {w : World} {K : PySem.W.Frag} {mg : Str → Option Value} {base : Heap} (T : Tx K mg) {fd : FuncData} (F : FunD K "_law_next" "_law_next" (defArgs s__law_next) (defBody s__law_next) (defScope s__law_next) (d__law_next.dvs K) [] (ga K "_law_next") fd) : FnA PP w K mg base 2 (ga K "_law_next") fd ["draw", "bound"] (sp__law_next K) := by
  refine fnA_of F sc__law_next fun cdv A outer s H vs Q E hr h => ?_
  have nd := sc__law_next.nd
  obtain ⟨d, c, b, m, rfl, h⟩ := h
  refine ⟨_, (pss_cons (ps_if (pt_cmpR op_gt (pe_dget (hu_of hr.r) (pv 0) pe_str (fun _ _ => rfl)) pe_int (nomark _)) (pss_cons (zset 2 nd (pe_op op_mod (pe_dget (hu_of hr.r) (pv 0) pe_str (fun _ _ => rfl)) (pv 1)))
      (pss_cons (ps_dput (hu_of hr.r) (pv 0) pe_str (pe_op op_fdiv (pe_dget (hu_of hr.r) (pv 0) pe_str (fun _ _ => rfl)) (pv 1)) rfl)
      (pss_one (ps_ret (pv 2))))) pss_nil)
      (pss_cons (zset 3 nd (pe_dget (hu_of hr.r) (pv 0) pe_str (fun _ _ => rfl)))
      (pss_cons (zset 4 nd (pe_ix (r := rIxL K) ix_list (pv 3) (pe_op op_mod (pe_dget (hu_of hr.r) (pv 0) pe_str (fun _ _ => rfl)) (zb (r := rLenA K) call_len rfl (u_len T) (pa_cons (pv 3) pa_nil))) (fun _ _ => rfl)))
      (pss_cons (ps_dput (hu_of hr.r) (pv 0) pe_str (pe_op op_add (pe_dget (hu_of hr.r) (pv 0) pe_str (fun _ _ => rfl)) pe_int) rfl)
      (pss_cons (ps_if (PW.pt (pw_and (pt_cmpR op_ge (pv 4) (pe_op op_pow pe_int pe_int) (nomark _)) (pw_and1 (pt_cmpR op_le (pe_dget (hu_of hr.r) (pv 0) pe_str (fun _ _ => rfl)) (zb (r := rLenA K) call_len rfl (u_len T) (pa_cons (pv 3) pa_nil)) (nomark _))))) (pss_cons (ps_dput (hu_of hr.r) (pv 0) pe_str (pe_op op_fdiv (pv 4) (pv 1)) rfl)
      (pss_one (ps_ret (pe_op op_mod (pv 4) (pv 1))))) pss_nil)
      (pss_cons (ps_dput (hu_of hr.r) (pv 0) pe_str (pe_op op_add (pe_dget (hu_of hr.r) (pv 0) pe_str (fun _ _ => rfl)) pe_int) rfl)
      (pss_one (ps_ret (pe_op op_mod (pc_call (k__law_mixed T) (hr.mono (by decide)) rfl pX (pa_cons (pc_call (k__law_mixed T) (hr.mono (by decide)) rfl pX (pa_cons (pv 4) (pa_cons (pe_dget (hu_of hr.r) (pv 0) pe_str (fun _ _ => rfl)) pa_nil))) (pa_cons (pe_dget (hu_of hr.r) (pv 0) pe_str (fun _ _ => rfl)) pa_nil))) (pv 1)))))))))), ?_⟩
  obtain ⟨hD, hb0, hb1, hm, q⟩ := h
  have hdc := hD.ne
  obtain ⟨ns, a, l, u, h0, h1, h2, h3, h4, h5, h6, h7, h8⟩ := id hD
  have p59 : (2 : Nat) ^ 59 = 576460752303423488 := by decide
  have p60 : (2 : Int) ^ 60 = 1152921504606846976 := by decide
  have hmod : ∀ x : Int, 0 ≤ x % b ∧ x % b < b := fun x => ⟨Int.emod_nonneg _ (by omega), Int.emod_lt_of_pos _ hb0⟩
  have kpd : ∀ o, Kp H (upd H d o) := fun o => kp_upd fun u hu => by rw [h0] at hu; cases hu; rfl
  refine ⟨_, rfl, d, _, rfl, g_left h0, _, _, rfl, rfl, _, rfl, iff_b (fun hc => ?_) fun hc => ?_⟩
  · have hl : 0 < l := by simpa using hc
    refine ⟨_, rfl, d, _, rfl, g_left h0, _, rfl, _, _, rfl, rfl, hb0, ?_⟩
    refine ⟨_, rfl, d, _, rfl, g_left h0, _, rfl, _, _, rfl, rfl, ⟨hb0, hb1⟩, _, rfl, d, _, rfl, p_left _ h0, _, rfl, ?_⟩
    have hl2 : 0 ≤ l / b := Int.ediv_nonneg h6 (by omega)
    exact q _ _ exD_upd ⟨ns, a, l / b, u, upd_same, kpd _ _ _ h1 rfl, h2, h3, h4, by omega, hl2, h7, by omega⟩ (hmod l).1 (hmod l).2
  · refine ⟨_, rfl, d, _, rfl, g_cells h0, ?_⟩
    have hlen : 0 < ns.length := List.length_pos_iff.mpr h2
    refine ⟨_, rfl, _, rfl, d, _, rfl, g_at h0, _, rfl, _, _, rfl, .inl ⟨_, SqL.of h1, rfl⟩, _, _, rfl, rfl, (by rw [List.length_map]; omega), ?_⟩
    have hx1 : 0 ≤ a % (((ns.map V.int).length : Nat) : Int) := Int.emod_nonneg _ (by rw [List.length_map]; omega)
    have hx2 : a % (((ns.map V.int).length : Nat) : Int) < (((ns.map V.int).length : Nat) : Int) := Int.emod_lt_of_pos _ (by rw [List.length_map]; omega)
    rw [List.length_map] at hx1 hx2
    obtain ⟨j, hj⟩ : ∃ j : Nat, a % (((ns.map V.int).length : Nat) : Int) = (j : Int) := ⟨(a % (ns.length : Int)).toNat, by rw [List.length_map]; omega⟩
    have hjl : j < ns.length := by rw [List.length_map] at hj; omega
    have hcell : (ns.map V.int)[j]? = some (V.int ns[j]) := by rw [List.getElem?_map, List.getElem?_eq_getElem hjl]; rfl
    refine ⟨c, _, _, _, rfl, rfl, SqL.of h1, at_of hj hcell, ?_⟩
    generalize ns[j] = x
    -- draw["at"] = draw["at"] + 1
    refine ⟨_, rfl, d, _, rfl, g_at h0, _, _, rfl, rfl, _, rfl, d, _, rfl, p_at _ h0, ?_⟩
    have k0 : upd H d (.dK (drKV c (a + 1) l u)) d = some (.dK (drKV c (a + 1) l u)) := upd_same
    have k1 := kpd (.dK (drKV c (a + 1) l u)) _ _ h1 rfl
    have kd : Drw (upd H d (.dK (drKV c (a + 1) l u))) d c (m + 1) := ⟨ns, a + 1, l, u, k0, k1, h2, h3, by omega, by omega, h6, h7, by omega⟩
    have ex : ExD d H (upd H d (.dK (drKV c (a + 1) l u))) := exD_upd
    generalize upd H d (.dK (drKV c (a + 1) l u)) = H1 at k0 k1 kd ex ⊢
    have kpd1 : ∀ o, Kp H1 (upd H1 d o) := fun o => kp_upd fun u hu => by rw [k0] at hu; cases hu; rfl
    have used : (tSeq (sDPut (tVar 0) (tC (.str "used")) (tOp (rI0 fun i j => .int (i + j)) (tDGet (tVar 0) (tC (.str "used"))) (tC (.int 1)))) (tRet (tOp (rI (fun _ j => 0 < j) fun i j => .int (i % j)) (tCl (sp__law_mixed K) E (tCons (tCl (sp__law_mixed K) E (tCons (tVar 4) (tCons (tDGet (tVar 0) (tC (.str "at"))) tNil))) (tCons (tDGet (tVar 0) (tC (.str "used"))) tNil))) (tVar 1)))) { nx := fun _ H' => Q .non H', rt := Q } [some (.ref d), some (.int b), none, some (.ref c), some (.int x)] H1 := by
      refine ⟨_, rfl, d, _, rfl, g_used k0, _, _, rfl, rfl, _, rfl, d, _, rfl, p_used _ k0, ?_⟩
      have z0 : upd H1 d (.dK (drKV c (a + 1) l (u + 1))) d = some (.dK (drKV c (a + 1) l (u + 1))) := upd_same
      refine ⟨_, rfl, _, rfl, d, _, rfl, g_at z0, x, a + 1, rfl, by omega, by omega, fun r1 hr1 => ?_⟩
      refine ⟨_, rfl, d, _, rfl, g_used z0, r1, u + 1, rfl, by omega, by omega, fun r2 hr2 => ?_⟩
      refine ⟨_, rfl, _, _, rfl, rfl, hb0, ?_⟩
      exact q _ _ (ex.trans exD_upd) ⟨ns, a + 1, l, u + 1, z0, kpd1 _ _ _ k1 rfl, h2, h3, by omega, by omega, h6, by omega, by omega⟩ (hmod _).1 (hmod _).2
    have p10 : ∀ z : Int, CPow 10 18 := fun _ => ⟨by decide, by decide, by decide⟩
    refine ⟨_, rfl, _, _, rfl, rfl, p10 0, _, _, rfl, rfl, _, rfl, iff_b (fun hc1 => ?_) fun hc1 => ?_⟩
    · refine ⟨_, rfl, d, _, rfl, g_at k0, _, rfl, _, _, rfl, .inl ⟨_, SqL.of k1, rfl⟩, _, _, rfl, rfl, _, rfl, iff_b (fun hc2 => ?_) fun hc2 => ?_⟩
      · have hx : (10 : Int) ^ (18 : Int).toNat ≤ x := by simpa using hc1
        have hx0 : 0 ≤ x := Int.le_trans (by decide) hx
        refine ⟨_, rfl, _, rfl, _, _, rfl, rfl, ⟨hb0, hb1⟩, _, rfl, d, _, rfl, p_left _ k0, _, rfl, _, rfl, _, _, rfl, rfl, hb0, ?_⟩
        exact q _ _ (ex.trans exD_upd) ⟨ns, a + 1, x / b, u, upd_same, kpd1 _ _ _ k1 rfl, h2, h3, by omega, by omega, Int.ediv_nonneg hx0 (by omega), h7, by omega⟩ (hmod _).1 (hmod _).2
      · exact used
    · exact used
theorem k__law_next {w : World} {K : PySem.W.Frag} {mg : Str → Option Value} {base : Heap} (T : Tx K mg) : Cl PP w K mg base 2 "_law_next" (sp__law_next K) := by
  obtain ⟨fd, F⟩ := f__law_next T
  refine ⟨?_, g__law_next T, F.kp⟩
  refine (a__law_next T F).pos0 (FunD.bindsN F fun _ _ _ _ _ _ us hl => match us, hl with | [_, _], _ => rfl) (fun vs H Q E h => ?_)
  obtain ⟨_, _, _, _, rfl, _⟩ := h
  rfl
end TT
namespace TT
open PySem PySem.Spec PyProof.Rows L2
open He (ga ma)
theorem tree_one : Tree 1 [] := by
  refine ⟨rfl, by decide, fun e he => (by cases he), fun i hi => absurd hi (by simp), fun χ _ x y hx hy => ?_⟩
  obtain rfl : x = 0 := by omega
  obtain rfl : y = 0 := by omega
  rfl
/-- a leaf more -/
theorem tree_grow {n o : Nat} {E : Tr} {e : Nat × Nat} (t : Tree n E) (hn : n < 100) (ho : o < n) (he : e = (o, n) ∨ e = (n, o)) : Tree (n + 1) (E ++ [e]) := by
  have hE : ∀ (χ : Nat → Bool) (b : Bool) (d : Nat × Nat), d ∈ E → ((fun z => if z = n then b else χ z) d.1 = χ d.1 ∧ (fun z => if z = n then b else χ z) d.2 = χ d.2) := fun χ b d hd => by
    have := t.rng d hd
    simp only
    rw [if_neg (by omega), if_neg (by omega)]
    exact ⟨rfl, rfl⟩
  have hsep : ∀ χ : Nat → Bool, χ e.1 ≠ χ e.2 ↔ χ o ≠ χ n := fun χ => by
    rcases he with rfl | rfl
    · exact Iff.rfl
    · exact ⟨fun h z => h z.symm, fun h z => h z.symm⟩
  refine ⟨by rw [List.length_append]; have := t.len; simp; omega, by omega, fun d hd => ?_, fun i hi => ?_, fun χ h x y hx hy => ?_⟩
  · rcases List.mem_append.mp hd with z | z
    · have := t.rng d z
      omega
    · have : d = e := by simpa using z
      rw [this]
      rcases he with rfl | rfl <;> simp <;> omega
  · rw [List.length_append] at hi
    simp at hi
    by_cases hi2 : i < E.length
    · obtain ⟨χ, hχ⟩ := t.cut i hi2
      refine ⟨fun z => if z = n then χ o else χ z, fun j d hd => ?_⟩
      rw [List.getElem?_append] at hd
      split at hd
      · obtain ⟨h1, h2⟩ := hE χ (χ o) d (List.mem_of_getElem? hd)
        rw [h1, h2]
        exact hχ j d hd
      · rename_i hge
        have hde : d = e := by simpa using List.mem_of_getElem? hd
        rw [hde]
        refine (hsep (fun z => if z = n then χ o else χ z)).trans ?_
        have hon : o ≠ n := by omega
        show (if o = n then χ o else χ o) ≠ (if n = n then χ o else χ n) ↔ j = i
        rw [if_neg hon, if_pos rfl]
        constructor
        · intro z; exact absurd rfl z
        · intro z; omega
    · refine ⟨fun z => decide (z = n), fun j d hd => ?_⟩
      rw [List.getElem?_append] at hd
      split at hd
      · rename_i hlt
        have := t.rng d (List.mem_of_getElem? hd)
        have h1 : decide (d.1 = n) = false := by simp; omega
        have h2 : decide (d.2 = n) = false := by simp; omega
        show decide (d.1 = n) ≠ decide (d.2 = n) ↔ j = i
        rw [h1, h2]
        constructor
        · intro z; exact absurd rfl z
        · intro z; omega
      · rename_i hge
        have hj : j = E.length := by
          have := (List.getElem?_eq_some_iff.mp hd).1
          simp at this
          omega
        have hde : d = e := by simpa using List.mem_of_getElem? hd
        rw [hde]
        refine (hsep (fun z => decide (z = n))).trans ?_
        have h1 : decide (o = n) = false := by simp; omega
        have h2 : decide (n = n) = true := by simp
        show decide (o = n) ≠ decide (n = n) ↔ j = i
        rw [h1, h2]
        constructor
        · intro z; omega
        · intro z; simp
  · have h1 := t.conn χ (fun d hd => h d (List.mem_append_left _ hd))
    have h2 : χ o = χ n := by
      have := h e (by simp)
      by_cases z : χ o = χ n
      · exact z
      · exact absurd this ((hsep χ).mpr z)
    have all : ∀ z, z < n + 1 → χ z = χ o := fun z hz => by
      by_cases hzn : z = n
      · rw [hzn]; exact h2.symm
      · exact h1 z o (by omega) ho
    rw [all x hx, all y hy]
theorem noL_dEs (E : Tr) : noLs (E.map dE) = true := noLs_map (fun _ => rfl) E
theorem kp_tups {H H' : Hp} (k : Kp H H') : TupsStay H H' := fun b ys h => by
  rcases h with h | ⟨o, h⟩
  · exact .inl (k _ _ h rfl)
  · exact .inr ⟨o, k _ _ h rfl⟩
theorem cutV_from {xs : List V} {k : Nat} (h : k ≤ xs.length) : cutV xs (some (k : Int)) none = xs.drop k := by
  have e1 : HT.sIx xs.length 0 (some (k : Int)) = k := by
    show (if (k : Int) < 0 then ((k : Int) + (xs.length : Int)).toNat else min (k : Int).toNat xs.length) = k
    rw [if_neg (by omega)]
    omega
  have e2 : HT.sIx xs.length xs.length none = xs.length := rfl
  unfold cutV
  rw [e1, e2, List.take_of_length_le (by rw [List.length_drop]; exact Nat.le_refl _)]
theorem cutV_to {xs : List V} {k : Nat} (h : k ≤ xs.length) : cutV xs none (some (k : Int)) = xs.take k := by
  have e1 : HT.sIx xs.length xs.length (some (k : Int)) = k := by
    show (if (k : Int) < 0 then ((k : Int) + (xs.length : Int)).toNat else min (k : Int).toNat xs.length) = k
    rw [if_neg (by omega)]
    omega
  have e2 : HT.sIx xs.length 0 none = 0 := rfl
  unfold cutV
  rw [e1, e2]
  rfl
def sp__law_tracks (K : PySem.W.Frag) : Sp := fun vs H Q E => ∃ (d c : Addr) (mo m : Nat), vs = [.ref d, .int (mo : Int)] ∧ Drw H d c m ∧ 0 < mo ∧ mo ≤ 100 ∧ m < 2 ^ 58 ∧ ∀ H' p n E0, ExD d H H' → H p = none → Dp K H' (.ref p) (dT E0) → Tree n E0 → n ≤ mo → Drw H' d c (m + 400) → Q (.ref p) H'
theorem sc__law_tracks : FnScope ["draw", "most", "count", "shape", "found", "spot", "back", "other", "at"] ["draw", "most"] (defScope s__law_tracks) := ⟨rfl, rfl, rfl, by decide +kernel, rfl, by decide +kernel, by decide +kernel⟩
theorem a__law_tracks {w : World} {K : PySem.W.Frag} {mg : Str → Option Value} {base : Heap} (T : Tx K mg) {fd : FuncData} (F : FunD K "_law_tracks" "_law_tracks" (defArgs s__law_tracks) (defBody s__law_tracks) (defScope s__law_tracks) (d__law_tracks.dvs K) [] (ga K "_law_tracks") fd) : FnA PP w K mg base 3 (ga K "_law_tracks") fd ["draw", "most"] (sp__law_tracks K) := by
  refine fnA_of F sc__law_tracks fun cdv A outer s H vs Q E hr h => ?_
  have nd := sc__law_tracks.nd
  obtain ⟨d, c, mo, m, rfl, h⟩ := h
  refine ⟨_, (pss_cons (ps_par3 (i := 2) (j := 3) (l := 4) rfl nd rfl rfl rfl (by decide) (by decide) (by decide) rfl rfl rfl (pa_cons (pe_op op_add pe_int (pc_call (k__law_next T) (hr.mono (by decide)) rfl pX (pa_cons (pv 0) (pa_cons (pv 1) pa_nil)))) (pa_cons (pc_call (k__law_next T) (hr.mono (by decide)) rfl pX (pa_cons (pv 0) (pa_cons pe_int pa_nil))) (pa_cons (pe_lst pa_nil) pa_nil))) rfl)
      (pss_cons (ps_for poX rfl (pi_range2 rfl (u_range T) (pa_cons pe_int (pa_cons (pv 2) pa_nil))) (zg 5 nd) (pss_cons (zset 6 nd (pe_ix (r := rIxL K) ix_list (pe_lst (pa_cons (pe_op op_sub (pv 5) pe_int) (pa_cons pe_int (pa_cons (zb (call_max2 rfl) rfl (u_max T) (pa_cons pe_int (pa_cons (pe_op op_sub (pv 5) pe_int) pa_nil))) (pa_cons (zb (call_max2 rfl) rfl (u_max T) (pa_cons pe_int (pa_cons (pe_op op_sub (pv 5) pe_int) pa_nil))) (pa_cons (pe_op op_fdiv (pv 5) pe_int) pa_nil)))))) (pv 3) (fun _ _ => rfl)))
      (pss_cons (zset 7 nd (pe_ifExp (pt_cmpR op_gt (pc_call (k__law_next T) (hr.mono (by decide)) rfl pX (pa_cons (pv 0) (pa_cons pe_int pa_nil))) pe_int (nomark _)) (pv 6) (pc_call (k__law_next T) (hr.mono (by decide)) rfl pX (pa_cons (pv 0) (pa_cons (pv 5) pa_nil)))))
      (pss_one (ps_expr (pe_bm PySem.F.plainAttrs_list PySem.F.slot_list_append PySem.F.type_list_append mt_append (pv 4) (pa_cons (pe_ifExp (pt_cmpR op_eq (pc_call (k__law_next T) (hr.mono (by decide)) rfl pX (pa_cons (pv 0) (pa_cons pe_int pa_nil))) pe_int (nomark _)) (pe_tup (pa_cons (pv 7) (pa_cons (pv 5) pa_nil))) (pe_tup (pa_cons (pv 5) (pa_cons (pv 7) pa_nil)))) pa_nil)))))))
      (pss_cons (zset 8 nd (pc_call (k__law_next T) (hr.mono (by decide)) rfl pX (pa_cons (pv 0) (pa_cons (pe_op op_add (zb (r := rLenA K) call_len rfl (u_len T) (pa_cons (pv 4) pa_nil)) pe_int) pa_nil))))
      (pss_one (ps_ret (zt (r := rTupOf K) call_tuple_of rfl (u_tuple T) (pa_cons (pe_op op_cat (pe_slice (r := rSlL K) sl_list (pv 4) (po_some (pv 8)) po_none) (pe_slice (r := rSlL K) sl_list (pv 4) po_none (po_some (pv 8)))) pa_nil))))))), ?_⟩
  obtain ⟨hD, hm0, hm1, hm, q⟩ := h
  have p59 : (2 : Nat) ^ 59 = 576460752303423488 := by decide
  have p58 : (2 : Nat) ^ 58 = 288230376151711744 := by decide
  refine ⟨_, rfl, _, rfl, d, c, _, m, rfl, hD, by omega, by omega, by omega, fun H1 r1 x1 D1 l1 u1 => ?_⟩
  refine ⟨_, _, rfl, rfl, _, rfl, d, c, _, m + 1, rfl, D1, by decide, by decide, by omega, fun H2 r2 x2 D2 l2 u2 => ?_⟩
  refine ⟨by show 0 ≤ sizeLine; decide, fun fp hfp => ⟨_, _, _, rfl, ?_⟩⟩
  obtain ⟨c1, hc1⟩ : ∃ c : Nat, r1 = (c : Int) := ⟨r1.toNat, by omega⟩
  subst hc1
  dsimp only
  have D1 : Drw H1 d c (m + 1) := D1
  have D2 : Drw H2 d c (m + 1 + 1) := D2
  have x02 := x1.trans x2
  obtain ⟨⟨od, hod⟩, oc, hoc⟩ := hD.there
  obtain ⟨⟨od2, hod2⟩, oc2, hoc2⟩ := D2.there
  have nfd : d ≠ fp := ne_of_none hod2 hfp
  have nfc : c ≠ fp := ne_of_none hoc2 hfp
  have hfp0 : H fp = none := by
    cases z : H fp with
    | none => rfl
    | some o =>
      have := x02 _ _ z nfd.symm
      rw [hfp] at this; cases this
  have hfe : Drw (upd H2 fp (.lst [])) d c (m + 2) := D2.same (same_upd hfp)
  have xfe : ExD d H (upd H2 fp (.lst [])) := x02.trans (ExD.of (same_upd hfp))
  refine ⟨_, rfl, _, _, rfl, by omega, for_range (fun i σ H' => ∃ (E1 : Tr) (xs : List V) (v5 v6 v7 : Option V), σ = [some (.ref d), some (.int (mo : Int)), some (.int (1 + (c1 : Int))), some (.int r2), some (.ref fp), v5, v6, v7, none] ∧
    ExD d H H' ∧ Drw H' d c (m + 2 + 3 * i) ∧ H' fp = some (.lst xs) ∧ DpAll K H' xs (E1.map dE) ∧ Tree (i + 1) E1) ⟨[], [], none, none, none, rfl, xfe, hfe, upd_same, .nil, tree_one⟩ ?_ ?_⟩
  · rintro i σ H3 hi ⟨E1, xs, v5, v6, v7, rfl, x3, D3, hf3, hxs, t⟩
    have hi2 : i < c1 := by omega
    have e1 : (1 + (i : Int)) = ((i + 1 : Nat) : Int) := by omega
    rw [e1]
    -- back = [..][shape]
    obtain ⟨j, hj⟩ : ∃ j : Nat, r2 = (j : Int) := ⟨r2.toNat, by omega⟩
    subst hj
    refine ⟨_, rfl, _, _, rfl, rfl, _, rfl, _, _, rfl, rfl, _, _, rfl, _, rfl, _, _, rfl, rfl, _, _, rfl, _, rfl, _, _, rfl, rfl, ⟨by decide, by decide⟩, by show 5 ≤ sizeLine; decide, fun p5 hp5 => ?_⟩
    dsimp only
    generalize hl5 : ([V.int (((i + 1 : Nat) : Int) - 1), V.int 0, V.int (if ((i + 1 : Nat) : Int) - 2 > 0 then ((i + 1 : Nat) : Int) - 2 else 0), V.int (if ((i + 1 : Nat) : Int) - 3 > 0 then ((i + 1 : Nat) : Int) - 3 else 0), V.int (((i + 1 : Nat) : Int) / 2)] : List V) = l5
    have s4 := same_upd (o := .lst l5) hp5
    obtain ⟨bk, hbk, b1⟩ : ∃ bk : Nat, l5[j]? = some (V.int (bk : Int)) ∧ bk < i + 1 := by
      have key : ∀ z : Int, 0 ≤ z → z < ((i + 1 : Nat) : Int) → ∃ bk : Nat, some (V.int z) = some (V.int (bk : Int)) ∧ bk < i + 1 := fun z h1 h2 => ⟨z.toNat, by rw [Int.toNat_of_nonneg h1], by omega⟩
      have hj5 : j = 0 ∨ j = 1 ∨ j = 2 ∨ j = 3 ∨ j = 4 := by omega
      rw [← hl5]
      rcases hj5 with rfl | rfl | rfl | rfl | rfl
      · exact key _ (by omega) (by omega)
      · exact key _ (by omega) (by omega)
      · exact key _ (by split <;> omega) (by split <;> omega)
      · exact key _ (by split <;> omega) (by split <;> omega)
      · exact key _ (by omega) (by omega)
    refine ⟨_, rfl, p5, _, _, _, rfl, rfl, SqL.of upd_same, atI_nat hbk, ?_⟩
    have x4 := x3.trans (ExD.of s4)
    have D4 := D3.same s4
    have hf4 := s4 _ _ hf3
    have hxs4 := dpa_same s4 hxs
    generalize upd H3 p5 (.lst l5) = H4 at x4 D4 hf4 hxs4 ⊢
    -- a call of _law_next leaves the tracks
    have keepE : ∀ {Ha Hb : Hp} {k : Nat}, ExD d Ha Hb → Drw Ha d c k → Ha fp = some (.lst xs) → DpAll K Ha xs (E1.map dE) → Hb fp = some (.lst xs) ∧ DpAll K Hb xs (E1.map dE) := fun xab Dab h1 h2 =>
      ⟨xab _ _ h1 nfd.symm, dpa_kp (xab.kp Dab.no) h2⟩
    have rest : ∀ (on : Nat) (Ha : Hp), on < i + 1 → ExD d H Ha → Drw Ha d c (m + 2 + 3 * i + 2) → Ha fp = some (.lst xs) → DpAll K Ha xs (E1.map dE) →
        tDrop (tBM K "list" rAppend (tVar 4) (tCons (tIf (tTest (tOp rEq (tCl (sp__law_next K) E (tCons (tVar 0) (tCons (tC (.int 2)) tNil))) (tC (.int 0)))) (tTup (tCons (tVar 7) (tCons (tVar 5) tNil))) (tTup (tCons (tVar 5) (tCons (tVar 7) tNil)))) tNil))
          { nx := fun σ H' => ∃ (E1 : Tr) (xs : List V) (v5 v6 v7 : Option V), σ = [some (.ref d), some (.int (mo : Int)), some (.int (1 + (c1 : Int))), some (.int (j : Int)), some (.ref fp), v5, v6, v7, none] ∧
            ExD d H H' ∧ Drw H' d c (m + 2 + 3 * (i + 1)) ∧ H' fp = some (.lst xs) ∧ DpAll K H' xs (E1.map dE) ∧ Tree (i + 1 + 1) E1, rt := fun _ _ => False }
          [some (.ref d), some (.int (mo : Int)), some (.int (1 + (c1 : Int))), some (.int (j : Int)), some (.ref fp), some (.int ((i + 1 : Nat) : Int)), some (.int (bk : Int)), some (.int (on : Int)), none] Ha := by
      intro on Ha hon xa Da hfa hxa
      refine ⟨_, rfl, tyV_list hfa, _, rfl, d, c, 2, _, rfl, Da, by decide, by decide, by omega, fun Hb r xb Db l0 u0 => ?_⟩
      obtain ⟨hfb, hxb⟩ := keepE xb Da hfa hxa
      have hlen := dpa_len hxb
      have htl := t.len
      have xab := xa.trans xb
      have fin : ∀ (e : Nat × Nat) (pt : Addr), (e = (on, i + 1) ∨ e = (i + 1, on)) → Hb pt = none → ∃ (E1 : Tr) (xs' : List V) (v5 v6 v7 : Option V), [some (.ref d), some (.int (mo : Int)), some (.int (1 + (c1 : Int))), some (.int (j : Int)), some (.ref fp), some (.int ((i + 1 : Nat) : Int)), some (.int (bk : Int)), some (.int (on : Int)), none] = [some (.ref d), some (.int (mo : Int)), some (.int (1 + (c1 : Int))), some (.int (j : Int)), some (.ref fp), v5, v6, v7, none] ∧
            ExD d H (upd (upd Hb pt (.tup [.int (e.1 : Int), .int (e.2 : Int)])) fp (.lst (xs ++ [.ref pt]))) ∧ Drw (upd (upd Hb pt (.tup [.int (e.1 : Int), .int (e.2 : Int)])) fp (.lst (xs ++ [.ref pt]))) d c (m + 2 + 3 * (i + 1)) ∧
            upd (upd Hb pt (.tup [.int (e.1 : Int), .int (e.2 : Int)])) fp (.lst (xs ++ [.ref pt])) fp = some (.lst xs') ∧ DpAll K (upd (upd Hb pt (.tup [.int (e.1 : Int), .int (e.2 : Int)])) fp (.lst (xs ++ [.ref pt]))) xs' (E1.map dE) ∧ Tree (i + 1 + 1) E1 := by
        intro e pt he hpt
        have s5 := same_upd (o := .tup [.int (e.1 : Int), .int (e.2 : Int)]) hpt
        have hf5 := s5 _ _ hfb
        refine ⟨E1 ++ [e], xs ++ [.ref pt], _, _, _, rfl, fun b o hb hbd => ?_, ?_, upd_same, ?_, tree_grow t (by omega) hon he⟩
        · rw [upd_ne (fun z => by rw [z, hfp0] at hb; cases hb)]
          exact s5 _ _ (xab b o hb hbd)
        · have D5 := Db.same s5
          exact (D5.off nfd nfc).mono (by omega)
        · rw [List.map_append]
          refine dpa_app (dpa_tups (tups_upd hf5) _ _ (noL_dEs E1) (dpa_same s5 hxb)) (dpa_one (dp_upd hf5 rfl (dp_newT hpt (.cons (.int _) (.cons (.int _) .nil)))))
      refine ⟨rfl, _, rfl, iff_b (fun hc => ?_) fun hc => ?_⟩
      · refine ⟨_, rfl, _, rfl, by show 2 ≤ sizeLine; decide, fun pt hpt => ?_⟩
        exact ⟨fp, xs, _, rfl, rfl, same_upd hpt _ _ hfb, by rw [hlen, List.length_map, sizeLine_eq]; omega, fin (on, i + 1) pt (.inl rfl) hpt⟩
      · refine ⟨_, rfl, _, rfl, by show 2 ≤ sizeLine; decide, fun pt hpt => ?_⟩
        exact ⟨fp, xs, _, rfl, rfl, same_upd hpt _ _ hfb, by rw [hlen, List.length_map, sizeLine_eq]; omega, fin (i + 1, on) pt (.inr rfl) hpt⟩
    -- other = back if _law_next(draw, 4) > 0 else _law_next(draw, spot)
    refine ⟨_, rfl, d, c, 4, _, rfl, D4, by decide, by decide, by omega, fun H5 r5 x5 D5 l5 u5 => ⟨_, _, rfl, rfl, _, rfl, iff_b (fun hc => ?_) fun hc => ?_⟩⟩
    · obtain ⟨hf5, hxs5⟩ := keepE x5 D4 hf4 hxs4
      exact ⟨_, rfl, rest bk H5 b1 (x4.trans x5) (D5.mono (by omega)) hf5 hxs5⟩
    · obtain ⟨hf5, hxs5⟩ := keepE x5 D4 hf4 hxs4
      refine ⟨_, rfl, _, rfl, d, c, _, _, rfl, D5, by omega, by omega, by omega, fun H6 r6 x6 D6 l6 u6 => ?_⟩
      obtain ⟨hf6, hxs6⟩ := keepE x6 D5 hf5 hxs5
      obtain ⟨on, rfl⟩ : ∃ on : Nat, r6 = (on : Int) := ⟨r6.toNat, by omega⟩
      exact rest on H6 (by omega) ((x4.trans x5).trans x6) (D6.mono (by omega)) hf6 hxs6
  · rintro σ H3 ⟨E1, xs, v5, v6, v7, rfl, x3, D3, hf3, hxs, t⟩
    have hcn : (1 + (c1 : Int) - 1).toNat = c1 := by omega
    rw [hcn] at D3 t
    have hlen := dpa_len hxs
    rw [List.length_map] at hlen
    have htl := t.len
    -- at = _law_next(draw, len(found) + 1)
    refine ⟨_, rfl, _, rfl, _, xs.length, rfl, .inl ⟨xs, SqL.of hf3, rfl⟩, _, _, rfl, rfl, d, c, _, _, rfl, D3, by omega, by omega, by omega, fun H4 r4 x4 D4 l4 u4 => ?_⟩
    have hf4 := x4 _ _ hf3 nfd.symm
    have hxs4 := dpa_kp (x4.kp D3.no) hxs
    obtain ⟨k, rfl⟩ : ∃ k : Nat, r4 = (k : Int) := ⟨r4.toNat, by omega⟩
    have hkl : k ≤ xs.length := by omega
    refine ⟨_, rfl, _, rfl, _, rfl, fp, xs, rfl, SqL.of hf4, fun p1 hp1 => ?_⟩
    have s5 := same_upd (o := .lst (cutV xs (some (k : Int)) none)) hp1
    refine ⟨_, rfl, _, rfl, _, rfl, fp, xs, rfl, SqL.of (s5 _ _ hf4), fun p2 hp2 => ?_⟩
    have s6 := s5.trans (same_upd (o := .lst (cutV xs none (some (k : Int)))) hp2)
    have q1 := same_upd (o := .lst (cutV xs none (some (k : Int)))) hp2 _ _ (upd_same (H := H4) (a := p1) (o := .lst (cutV xs (some (k : Int)) none)))
    refine ⟨p1, p2, _, _, rfl, rfl, q1, upd_same, ?_, fun p3 hp3 => ?_⟩
    · have z1 := cutV_length xs (some (k : Int)) none
      have z2 := cutV_length xs none (some (k : Int))
      rw [sizeLine_eq]; omega
    rw [cutV_from hkl, cutV_to hkl] at *
    have s7 := s6.trans (same_upd (o := .lst (xs.drop k ++ xs.take k)) hp3)
    refine ⟨p3, _, rfl, .inl ⟨SqL.of upd_same, fun pt hpt => ?_⟩⟩
    have s8 := s7.trans (same_upd (o := .tup (xs.drop k ++ xs.take k)) hpt)
    have hd0 : DpAll K H4 (xs.drop k ++ xs.take k) ((E1.drop k ++ E1.take k).map dE) := by
      rw [List.map_append, List.map_drop, List.map_take]
      exact dpa_app (dpa_drop k hxs4) (dpa_take k hxs4)
    have hpt0 : H pt = none := by
      cases z : H pt with
      | none => rfl
      | some o =>
        have h1 := s7.free hpt
        by_cases zd : pt = d
        · obtain ⟨⟨o4, ho4⟩, _⟩ := D4.there
          rw [zd, ho4] at h1; cases h1
        · have := (x3.trans x4) _ _ z zd
          rw [h1] at this; cases this
    refine q _ pt (c1 + 1) (E1.drop k ++ E1.take k) ((x3.trans x4).trans (ExD.of s8)) hpt0 (dp_newT hpt (dpa_same s7 hd0)) (t.perm ?_) (by omega) ((D4.same s8).mono (by omega))
    exact (List.perm_append_comm.trans (by rw [List.take_append_drop])).symm
theorem k__law_tracks {w : World} {K : PySem.W.Frag} {mg : Str → Option Value} {base : Heap} (T : Tx K mg) : Cl PP w K mg base 3 "_law_tracks" (sp__law_tracks K) := by
  obtain ⟨fd, F⟩ := f__law_tracks T
  refine ⟨?_, g__law_tracks T, F.kp⟩
  refine (a__law_tracks T F).pos0 (FunD.bindsN F fun _ _ _ _ _ _ us hl => match us, hl with | [_, _], _ => rfl) (fun vs H Q E h => ?_)
  obtain ⟨_, _, _, _, rfl, _⟩ := h
  rfl
end TT
namespace TT
open PySem PySem.Spec PyProof.Rows L2
open He (ga ma)
theorem vN_erase : ∀ (l : List Nat) (j : Nat), (vN l).eraseIdx j = vN (l.eraseIdx j)
  | [], _ => rfl
  | _ :: _, 0 => rfl
  | a :: l, j + 1 => by
    have := vN_erase l j
    unfold vN at *
    simp [List.eraseIdx, this]
theorem perm_erase : ∀ (l : List Nat) (j : Nat) (h : j < l.length), ([l[j]] ++ l.eraseIdx j).Perm l
  | [], _, h => absurd h (by simp)
  | _ :: _, 0, _ => List.Perm.refl _
  | a :: l, j + 1, h => by
    have := perm_erase l j (by simpa using h)
    simp only [List.getElem_cons_succ, List.eraseIdx_cons_succ, List.cons_append, List.nil_append] at *
    exact (List.Perm.swap _ _ _).trans (this.cons a)
def sp__law_refused (K : PySem.W.Frag) : Sp := fun vs H Q E => ∃ (r : Addr) (n : Nat) (E0 : Tr) (v : V) (d : PyData) (k w' : Nat), vs = [.ref r, v] ∧ RwAt K H r n E0 ∧ Dp K H v d ∧ isOrd n d = false ∧ Rp k w' d ∧ k ≤ 64 ∧ w' ≤ 1048576 ∧ ∀ H', Same H H' → Q (.bl true) H'
theorem sc__law_refused : FnScope ["net", "thing", "caught", "e"] ["net", "thing"] (defScope s__law_refused) := ⟨rfl, rfl, rfl, by decide +kernel, rfl, by decide +kernel, by decide +kernel⟩
theorem a__law_refused {w : World} {K : PySem.W.Frag} {mg : Str → Option Value} {base : Heap} (T : Tx K mg) {fd : FuncData} (F : FunD K "_law_refused" "_law_refused" (defArgs s__law_refused) (defBody s__law_refused) (defScope s__law_refused) (d__law_refused.dvs K) [] (ga K "_law_refused") fd) : FnA PP w K mg base 8 (ga K "_law_refused") fd ["net", "thing"] (sp__law_refused K) := by
  refine fnA_of F sc__law_refused fun cdv A outer s H vs Q E hr h => ?_
  have nd := sc__law_refused.nd
  obtain ⟨r, n, E0, v, d, k, w', rfl, h⟩ := h
  refine ⟨_, (pss_cons (zset 2 nd pe_non)
      (pss_cons (ps_try_keep (i := 3) (j := 2) rfl rfl rfl nd rfl rfl rfl rfl tkX (htest3 ⟨rfl, by decide, .inl (g_RailError T)⟩ ⟨rfl, by decide, .inl (g_RunError T)⟩ ⟨rfl, by decide, .inl (g_MissingError T)⟩) (fun W pn xe tk po => (pss_one (ps_expr (pc_callA (k_renamed T) (hr.mono (by decide)) rfl (fun σ => passAt tk σ) (pa_cons (pv 0) (pa_cons (pv 1) pa_nil)))))) (fun _ _ _ => pss_one (zset 2 nd (pv 3))))
      (pss_one (ps_ret (pe_and (zb (r := rIsZ K) call_isZ rfl (u_isinstance T) (pa_cons (pv 2) (pa_cons (zcl rfl (g_InvalidOrder T)) pa_nil))) (pe_and (zb (r := rIsZ K) call_isZ rfl (u_isinstance T) (pa_cons (pv 2) (pa_cons (zcl rfl (g_RailError T)) pa_nil))) (pe_one (pe_cmpR op_eq (zb (r := rReprD K) (call_reprD hr) rfl (u_repr T) (pa_cons (pe_xfd (pv 2)) pa_nil)) (zb (r := rReprD K) (call_reprD hr) rfl (u_repr T) (pa_cons (pv 1) pa_nil)) (nomark _))))))))), ?_⟩
  obtain ⟨hR, h, hno, hrp, hk1, hk2, q⟩ := h
  refine ⟨_, rfl, _, rfl, r, n, E0, v, d, rfl, hR, h, fun _ H1 dx s1 hdx hx => ?_, fun os hy => ?_⟩
  · refine ⟨true, x3_InvalidOrder T, fun _ a ha => ?_, fun z => by cases z⟩
    have s2 := s1.trans (same_upd (o := exv a (.ref (ga K "InvalidOrder")) (some dx)) ha)
    have hxa := same_upd (o := exv a (.ref (ga K "InvalidOrder")) (some dx)) ha _ _ hx
    have hea : upd H1 a (exv a (.ref (ga K "InvalidOrder")) (some dx)) a = some (exv a (.ref (ga K "InvalidOrder")) (some dx)) := upd_same
    generalize upd H1 a (exv a (.ref (ga K "InvalidOrder")) (some dx)) = H2 at s2 hxa hea ⊢
    have ty : TyZ K H2 (.ref a) (.ref (ga K "InvalidOrder")) := .exc hea hxa (x_InvalidOrder T)
    refine ⟨_, rfl, _, _, _, _, true, rfl, .own _, ty, kit_self, true, rfl, ?_⟩
    refine ⟨_, rfl, _, _, _, _, true, rfl, .own _, ty, y_InvalidOrder_RailError T, true, rfl, ?_⟩
    refine ⟨_, rfl, a, _, dx, _, v, rfl, hea, hxa, x_InvalidOrder T, na_InvalidOrder_value T, by simp [List.lookup], v, d, rfl, dp_same s2 h, ⟨k, w', hrp, hk1, hk2⟩, ?_⟩
    refine ⟨_, rfl, v, d, rfl, dp_same s2 h, ⟨k, w', hrp, hk1, hk2⟩, rfl, ?_⟩
    have e : decide (V.str d.shown = V.str d.shown) = true := decide_eq_true rfl
    show Q (.bl (decide (V.str d.shown = V.str d.shown))) H2
    rw [e]
    exact q _ s2
  · rw [hno] at hy; cases hy
theorem k__law_refused {w : World} {K : PySem.W.Frag} {mg : Str → Option Value} {base : Heap} (T : Tx K mg) : Cl PP w K mg base 8 "_law_refused" (sp__law_refused K) := by
  obtain ⟨fd, F⟩ := f__law_refused T
  refine ⟨?_, g__law_refused T, F.kp⟩
  refine (a__law_refused T F).pos0 (FunD.bindsN F fun _ _ _ _ _ _ us hl => match us, hl with | [_, _], _ => rfl) (fun vs H Q E h => ?_)
  obtain ⟨_, _, _, _, _, _, _, rfl, _⟩ := h
  rfl
def sp__law_order (K : PySem.W.Frag) : Sp := fun vs H Q E => ∃ (d c : Addr) (n m : Nat), vs = [.ref d, .int (n : Int)] ∧ Drw H d c m ∧ n ≤ 100 ∧ m < 2 ^ 58 ∧ ∀ H' p os o, ExD d H H' → H p = none → H' p = some (.frz o (.tup (vN os))) → o.dict = none → os.Perm (List.range n) → Drw H' d c (m + 200) → Q (.ref p) H'
theorem sc__law_order : FnScope ["draw", "count", "rest", "found"] ["draw", "count"] (defScope s__law_order) := ⟨rfl, rfl, rfl, by decide +kernel, rfl, by decide +kernel, by decide +kernel⟩
theorem a__law_order {w : World} {K : PySem.W.Frag} {mg : Str → Option Value} {base : Heap} (T : Tx K mg) {fd : FuncData} (F : FunD K "_law_order" "_law_order" (defArgs s__law_order) (defBody s__law_order) (defScope s__law_order) (d__law_order.dvs K) [] (ga K "_law_order") fd) : FnA PP w K mg base 3 (ga K "_law_order") fd ["draw", "count"] (sp__law_order K) := by
  refine fnA_of F sc__law_order fun cdv A outer s H vs Q E hr h => ?_
  have nd := sc__law_order.nd
  obtain ⟨d, c, n, m, rfl, h⟩ := h
  refine ⟨_, (pss_cons (ps_par (i := 2) (j := 3) rfl nd rfl rfl (by decide) rfl rfl (pa_cons (pe_listRg rfl rfl (u_list T) (prg_1 rfl (u_range T) (pv 1))) (pa_cons (pe_lst pa_nil) pa_nil)) rfl)
      (pss_cons (ps_while poX (pt_cmpR (r := rNeD K) (op_neD (hr.r.units)) (pv 2) (pe_lst pa_nil) (nomark _)) (pss_one (ps_expr (pe_bm PySem.F.plainAttrs_list PySem.F.slot_list_append PySem.F.type_list_append mt_append (pv 3) (pa_cons (pe_bm PySem.F.plainAttrs_list PySem.F.slot_list_pop PySem.F.type_list_pop mt_popAt (pv 2) (pa_cons (pc_call (k__law_next T) (hr.mono (by decide)) rfl pX (pa_cons (pv 0) (pa_cons (zb (r := rLenA K) call_len rfl (u_len T) (pa_cons (pv 2) pa_nil)) pa_nil))) pa_nil)) pa_nil)))))
      (pss_one (ps_ret (zt (r := rTupF K) call_tuple_frz rfl (u_tuple T) (pa_cons (pv 3) pa_nil)))))), ?_⟩
  obtain ⟨hD, hn, hm, q⟩ := h
  have p59 : (2 : Nat) ^ 59 = 576460752303423488 := by decide
  have p58 : (2 : Nat) ^ 58 = 288230376151711744 := by decide
  refine ⟨_, rfl, _, rfl, RgOk.of_le (by omega) (by omega) (by omega) (by omega), fun rp hrp => ?_⟩
  rw [rgV_nat]
  have s1 := same_upd (o := .lst (vN (List.range n))) hrp
  refine ⟨by show 0 ≤ sizeLine; decide, fun fp hfp => ⟨_, _, rfl, ?_⟩⟩
  have s2 := s1.trans (same_upd (o := .lst []) hfp)
  obtain ⟨⟨od, hod⟩, oc, hoc⟩ := hD.there
  have hfp0 : H fp = none := s1.free hfp
  have ndr : d ≠ rp := ne_of_none hod hrp
  have ncr : c ≠ rp := ne_of_none hoc hrp
  have ndf : d ≠ fp := ne_of_none hod hfp0
  have ncf : c ≠ fp := ne_of_none hoc hfp0
  have nrf : rp ≠ fp := ne_of_none (upd_same (H := H) (a := rp) (o := .lst (vN (List.range n)))) hfp
  refine ⟨fun μ σ H' => ∃ rs fs : List Nat, μ = rs.length ∧ σ = [some (.ref d), some (.int (n : Int)), some (.ref rp), some (.ref fp)] ∧ ExD d H H' ∧ Drw H' d c (m + fs.length) ∧ H' rp = some (.lst (vN rs)) ∧ H' fp = some (.lst (vN fs)) ∧ (fs ++ rs).Perm (List.range n),
    ⟨_, List.range n, [], rfl, rfl, ExD.of s2, hD.same s2, same_upd (o := .lst []) hfp _ _ upd_same, upd_same, by simp⟩, ?_⟩
  rintro μ σ H1 ⟨rs, fs, rfl, rfl, x1, D1, h1, h2, hp⟩
  have hlen := hp.length_eq
  rw [List.length_append, List.length_range] at hlen
  refine ⟨_, rfl, by show 0 ≤ sizeLine; decide, fun p5 hp5 => ?_⟩
  have s7 := same_upd (o := .lst []) hp5
  refine ⟨dN rs, dN [], .lst (SqL.of (s7 _ _ h1)) (vN_dp rs), .lst (SqL.of upd_same) .nil, shp_dN.ok (by decide), shp_dN.ok (by decide), _, rfl, ?_⟩
  rw [eqv_dN]
  have x7 := x1.trans (ExD.of s7)
  have D7 := D1.same s7
  have h17 := s7 _ _ h1
  have h27 := s7 _ _ h2
  generalize upd H1 p5 (.lst []) = H2 at x7 D7 h17 h27 ⊢
  refine iff_b (fun hc => ?_) fun hc => ?_
  · have hW : rs ≠ [] := by simpa using hc
    have hpos : 0 < rs.length := List.length_pos_iff.mpr hW
    refine ⟨fun σ' H' => ∃ rs' fs' : List Nat, rs'.length + 1 = rs.length ∧ σ' = [some (.ref d), some (.int (n : Int)), some (.ref rp), some (.ref fp)] ∧ ExD d H H' ∧ Drw H' d c (m + fs'.length) ∧ H' rp = some (.lst (vN rs')) ∧ H' fp = some (.lst (vN fs')) ∧ (fs' ++ rs').Perm (List.range n), ?_, ?_⟩
    · rintro σ' H' ⟨rs', fs', hl, rest⟩
      exact ⟨rs'.length, by omega, rs', fs', rfl, rest⟩
    -- found.append(rest.pop(_law_next(draw, len(rest))))
    refine ⟨_, rfl, tyV_list h27, _, rfl, tyV_list h17, _, rfl, _, rfl, _, (vN rs).length, rfl, .inl ⟨_, SqL.of h17, rfl⟩, d, c, _, _, rfl, D7, by rw [vN_len]; omega, by rw [vN_len]; omega, by omega, fun H3 r3 x3 D3 l3 u3 => ?_⟩
    rw [vN_len] at u3
    obtain ⟨j, rfl⟩ : ∃ j : Nat, r3 = (j : Int) := ⟨r3.toNat, by omega⟩
    have hj : j < rs.length := by omega
    have h13 := x3 _ _ h17 ndr.symm
    have h23 := x3 _ _ h27 ndf.symm
    have hsx : seqIndex? (j : Int) (vN rs).length = some j := by rw [vN_len]; exact (ixN_seq (ixN_nat hj)).1
    refine ⟨rp, _, _, j, V.int (rs[j] : Nat), rfl, rfl, h13, by omega, by omega, hsx, vN_get (List.getElem?_eq_getElem hj), ?_⟩
    have her : (vN rs).eraseIdx j = vN (rs.eraseIdx j) := vN_erase rs j
    rw [her]
    have h24 : upd H3 rp (.lst (vN (rs.eraseIdx j))) fp = some (.lst (vN fs)) := by rw [upd_ne nrf.symm]; exact h23
    refine ⟨fp, _, _, rfl, rfl, h24, by rw [vN_len, sizeLine_eq]; omega, rs.eraseIdx j, fs ++ [rs[j]], ?_, rfl, ?_, ?_, ?_, ?_, ?_⟩
    · rw [List.length_eraseIdx_of_lt hj]; omega
    · intro b o hb hbd
      have z := (x7.trans x3) b o hb hbd
      rw [upd_ne (fun e => by rw [e, hfp0] at hb; cases hb), upd_ne (fun e => by rw [e, hrp] at hb; cases hb)]
      exact z
    · rw [List.length_append]
      exact ((D3.off ndr ncr).off ndf ncf).mono (by simp; omega)
    · rw [upd_ne nrf, upd_same]
    · rw [upd_same, vN_app]; rfl
    · refine List.Perm.trans ?_ hp
      rw [List.append_assoc]
      exact List.Perm.append_left fs (perm_erase rs j hj)
  · have hW : rs = [] := by simpa using hc
    subst hW
    rw [List.append_nil] at hp
    simp at hlen
    refine ⟨_, rfl, fp, _, rfl, SqL.of h27, fun pt ob hpt hob => ?_⟩
    have hpt0 : H pt = none := by
      cases z : H pt with
      | none => rfl
      | some o =>
        by_cases zd : pt = d
        · obtain ⟨⟨o4, ho4⟩, _⟩ := D7.there
          rw [zd, ho4] at hpt; cases hpt
        · have := x7 _ _ z zd
          rw [hpt] at this; cases this
    exact q _ pt fs ob (x7.trans (ExD.of (same_upd hpt))) hpt0 upd_same hob hp ((D7.same (same_upd hpt)).mono (by omega))
theorem k__law_order {w : World} {K : PySem.W.Frag} {mg : Str → Option Value} {base : Heap} (T : Tx K mg) : Cl PP w K mg base 3 "_law_order" (sp__law_order K) := by
  obtain ⟨fd, F⟩ := f__law_order T
  refine ⟨?_, g__law_order T, F.kp⟩
  refine (a__law_order T F).pos0 (FunD.bindsN F fun _ _ _ _ _ _ us hl => match us, hl with | [_, _], _ => rfl) (fun vs H Q E h => ?_)
  obtain ⟨_, _, _, _, rfl, _⟩ := h
  rfl
theorem isOrd_len {n : Nat} {ds : List PyData} (h : ds.length ≠ n) : isOrd n (.tuple ds) = false := by simp [isOrd, h]
theorem isOrd_no {n : Nat} {ds : List PyData} {x : PyData} (h : x ∈ ds) (hx : ∀ a, a < n → x ≠ nI a) : isOrd n (.tuple ds) = false := by
  cases e : isOrd n (.tuple ds) with
  | false => rfl
  | true =>
    obtain ⟨os, h1, h2⟩ := isOrd_yes e
    have h3 : ds = os.map nI := by unfold dR at h1; injection h1
    rw [h3] at h
    obtain ⟨a, ha, rfl⟩ := List.mem_map.mp h
    exact absurd rfl (hx a (List.mem_range.mp (h2.mem_iff.mp ha)))
theorem str100 : ∀ a : Fin 101, PyData.canLay0 (.str (Str.ofString (toString ((a.val : Nat) : Int)))) = true ∧ (Str.ofString (toString ((a.val : Nat) : Int))).cps.size ≤ 13 := by decide +kernel
theorem rp_strN {a k : Nat} (h : a ≤ 100) : Rp k 13 (.str (Str.ofString (toString (a : Int)))) := by
  obtain ⟨h1, h2⟩ := str100 ⟨a, by omega⟩
  exact (rp_str h1).mono (Nat.le_refl _) h2
/-- small data that is no order -/
def NoOrd (n : Nat) (d : PyData) : Prop := isOrd n d = false ∧ ∃ k w, Rp k w d ∧ k ≤ 64 ∧ w ≤ 1048576
theorem noOrd_tup {n : Nat} {ds : List PyData} (h : isOrd n (.tuple ds) = false) (hl : ds.length ≤ 110) (hr : ∀ x ∈ ds, Rp 1 4300 x) : NoOrd n (.tuple ds) :=
  ⟨h, 2, _, rp_tup (rpA_all hr), by decide, by omega⟩
def fB (a : Nat) : PyData := if a = 0 then .bool false else if a = 1 then .bool true else nI a
/-- the thirteen things -/
def odds (os : List Nat) (n k a : Nat) : List PyData := [.none, .list (os.map nI), .tuple (os.map nI ++ [nI n]), .tuple ((os.map nI).drop 1), .int 5, .str "0", .tuple [.tuple (os.map nI)], .tuple (os.map nI ++ [nI a]),
  .tuple ((os.map nI).take k ++ [nI n] ++ (os.map nI).drop (k + 1)), .tuple ((os.map nI).take k ++ [.int (0 - 1)] ++ (os.map nI).drop (k + 1)), .tuple ((os.map nI).take k ++ [.str (Str.ofString (toString (a : Int)))] ++ (os.map nI).drop (k + 1)),
  .tuple ((os.map nI).take k ++ [.none] ++ (os.map nI).drop (k + 1)), .tuple (os.map fB)]
theorem odds_no {os : List Nat} {n k a : Nat} (p : os.Perm (List.range n)) (hn : 0 < n) (hn2 : n ≤ 100) (ha : a < n) : ∀ d ∈ odds os n k a, NoOrd n d := by
  have hl : os.length = n := by rw [p.length_eq]; simp
  have hlt : ∀ x ∈ os, x < n := fun x hx => List.mem_range.mp (p.mem_iff.mp hx)
  have r0 : ∀ x ∈ os.map nI, Rp 0 41 x := fun x hx => by
    obtain ⟨y, hy, rfl⟩ := List.mem_map.mp hx
    exact rp_nat (by have := hlt y hy; omega)
  have r1 : ∀ x ∈ os.map nI, Rp 1 4300 x := fun x hx => (r0 x hx).mono (by decide) (by decide)
  have rN : RpA 0 4200 (os.map nI) := (rpA_all r0).mono (Nat.le_refl _) (by rw [List.length_map]; omega)
  have mid : ∀ y, (∀ b, b < n → y ≠ nI b) → Rp 1 4300 y → NoOrd n (.tuple ((os.map nI).take k ++ [y] ++ (os.map nI).drop (k + 1))) := fun y hy hr => by
    refine noOrd_tup (isOrd_no (x := y) (by simp) hy) ?_ fun x hx => ?_
    · simp; omega
    · rcases List.mem_append.mp hx with z | z
      · rcases List.mem_append.mp z with z | z
        · exact r1 x (List.mem_of_mem_take z)
        · have : x = y := by simpa using z
          rw [this]; exact hr
      · exact r1 x (List.mem_of_mem_drop z)
  have nint : ∀ (z : Int), (z < 0 ∨ (n : Int) ≤ z) → ∀ b, b < n → PyData.int z ≠ nI b := fun z hz b hb e => by
    injection e with e
    omega
  intro d hd
  simp only [odds, List.mem_cons, List.not_mem_nil, or_false] at hd
  rcases hd with rfl | rfl | rfl | rfl | rfl | rfl | rfl | rfl | rfl | rfl | rfl | rfl | rfl
  · exact ⟨rfl, 0, 0, rp_none, by decide, by decide⟩
  · exact ⟨rfl, 1, 4200, rp_list rN, by decide, by decide⟩
  · refine noOrd_tup (isOrd_len (by simp; omega)) (by simp; omega) fun x hx => ?_
    rcases List.mem_append.mp hx with z | z
    · exact r1 x z
    · have : x = nI n := by simpa using z
      rw [this]; exact (rp_nat (by omega)).mono (Nat.le_refl _) (by decide)
  · exact noOrd_tup (isOrd_len (by simp; omega)) (by simp; omega) fun x hx => r1 x (List.mem_of_mem_drop hx)
  · exact ⟨rfl, 0, 41, rp_int (by decide) (by decide), by decide, by decide⟩
  · exact ⟨rfl, 0, _, rp_str (by decide +kernel), by decide, by decide +kernel⟩
  · refine noOrd_tup (isOrd_no (x := .tuple (os.map nI)) (by simp) fun b _ e => by cases e) (by simp) fun x hx => ?_
    have : x = .tuple (os.map nI) := by simpa using hx
    rw [this]; exact (rp_tup rN).mono (Nat.le_refl _) (by decide)
  · refine noOrd_tup (isOrd_len (by simp; omega)) (by simp; omega) fun x hx => ?_
    rcases List.mem_append.mp hx with z | z
    · exact r1 x z
    · have : x = nI a := by simpa using z
      rw [this]; exact (rp_nat (by omega)).mono (Nat.le_refl _) (by decide)
  · exact mid _ (nint _ (by omega)) ((rp_nat (by omega)).mono (Nat.le_refl _) (by decide))
  · exact mid _ (nint _ (by omega)) ((rp_int (by decide) (by decide)).mono (Nat.le_refl _) (by decide))
  · exact mid _ (fun b _ e => by cases e) ((rp_strN (by omega)).mono (Nat.le_refl _) (by decide))
  · exact mid _ (fun b _ e => by cases e) (rp_none.mono (Nat.le_refl _) (by decide))
  · have h0 : 0 ∈ os := p.mem_iff.mpr (List.mem_range.mpr hn)
    refine noOrd_tup (isOrd_no (x := .bool false) (List.mem_map.mpr ⟨0, h0, rfl⟩) fun b _ e => by cases e) (by simp; omega) fun x hx => ?_
    obtain ⟨y, hy, rfl⟩ := List.mem_map.mp hx
    unfold fB
    split
    · exact rp_bool.mono (Nat.le_refl _) (by decide)
    · split
      · exact rp_bool.mono (Nat.le_refl _) (by decide)
      · exact (rp_nat (by have := hlt y hy; omega)).mono (Nat.le_refl _) (by decide)
/-- names[:at] + (y,) + names[at + 1:] -/
def tMid (K : PySem.W.Frag) (tm : TE) : TE := tOp (rCatD K) (tOp (rCatD K) (tSl (rSlD K) (tVar 1) tNoPart (tPart (tVar 3))) (tTup (tCons tm tNil))) (tSl (rSlD K) (tVar 1) (tPart (tOp (rI0 fun i j => .int (i + j)) (tVar 3) (tC (.int 1)))) tNoPart)
theorem mid_ok {K : PySem.W.Frag} {tm : TE} {σ : L2.St} {H : Hp} {Q : VK} {v : V} {k : Nat} {N : List PyData} {y : PyData} (h1 : σ[1]? = some (some v)) (h3 : σ[3]? = some (some (.int (k : Int)))) (hv : Dp K H v (.tuple N)) (hk : k + 1 ≤ N.length) (hN : N.length ≤ 110)
    (hm : ∀ (G : Hp) (Q' : VK), Same H G → (∀ x, Dp K G x y → Q' x G) → tm σ G Q') (q : ∀ w G, Same H G → Dp K G w (.tuple (N.take k ++ [y] ++ N.drop (k + 1))) → Q w G) : tMid K tm σ H Q := by
  refine ⟨v, h1, _, h3, _, rfl, N, hv, fun w1 G1 g1 b1 => ?_⟩
  rw [cutD_to (by omega)] at b1
  refine hm G1 _ g1 fun x dx => ⟨by show 1 ≤ sizeLine; decide, fun t ht => ?_⟩
  have s1 := same_upd (o := .tup [x]) ht
  refine ⟨N.take k, [y], dp_same s1 b1, dp_newT ht (.cons dx .nil), by rw [sizeLine_eq]; simp; omega, fun w2 G2 g2 b2 => ?_⟩
  have s2 := (g1.trans s1).trans g2
  refine ⟨v, h1, _, h3, _, _, rfl, rfl, _, rfl, N, dp_same s2 hv, fun w3 G3 g3 b3 => ?_⟩
  have e : ((k : Int) + 1) = ((k + 1 : Nat) : Int) := by omega
  rw [e, cutD_from hk] at b3
  exact ⟨_, _, dp_same g3 b2, b3, by rw [sizeLine_eq]; simp; omega, fun w4 G4 g4 b4 => q w4 G4 ((s2.trans g3).trans g4) b4⟩
def sp__law_no_order (K : PySem.W.Frag) : Sp := fun vs H Q E => ∃ (d c : Addr) (v : V) (os : List Nat) (n m : Nat), vs = [.ref d, v] ∧ Drw H d c m ∧ Dp K H v (dR os) ∧ os.Perm (List.range n) ∧ 0 < n ∧ n ≤ 100 ∧ m < 2 ^ 58 ∧ ∀ H' v' d', ExD d H H' → Dp K H' v' d' → NoOrd n d' → Drw H' d c (m + 2) → Q v' H'
theorem sc__law_no_order : FnScope ["draw", "names", "count", "at", "some", "one"] ["draw", "names"] (defScope s__law_no_order) := ⟨rfl, rfl, rfl, by decide +kernel, rfl, by decide +kernel, by decide +kernel⟩
theorem a__law_no_order {w : World} {K : PySem.W.Frag} {mg : Str → Option Value} {base : Heap} (T : Tx K mg) {fd : FuncData} (F : FunD K "_law_no_order" "_law_no_order" (defArgs s__law_no_order) (defBody s__law_no_order) (defScope s__law_no_order) (d__law_no_order.dvs K) [] (ga K "_law_no_order") fd) : FnA PP w K mg base 3 (ga K "_law_no_order") fd ["draw", "names"] (sp__law_no_order K) := by
  refine fnA_of F sc__law_no_order fun cdv A outer s H vs Q E hr h => ?_
  have nd := sc__law_no_order.nd
  obtain ⟨d, c, v, os, n, m, rfl, h⟩ := h
  refine ⟨_, (pss_cons (ps_par (i := 2) (j := 3) rfl nd rfl rfl (by decide) rfl rfl (pa_cons (zb (r := rLenD K) call_lenD rfl (u_len T) (pa_cons (pv 1) pa_nil)) (pa_cons (pc_call (k__law_next T) (hr.mono (by decide)) rfl pX (pa_cons (pv 0) (pa_cons (zb (r := rLenD K) call_lenD rfl (u_len T) (pa_cons (pv 1) pa_nil)) pa_nil))) pa_nil)) rfl)
      (pss_cons (zset 4 nd (pe_lst (pa_cons pe_non (pa_cons (zt (r := rListOf K) call_list_of rfl (u_list T) (pa_cons (pv 1) pa_nil)) (pa_cons (pe_op (r := rCatD K) op_catD (pv 1) (pe_tup (pa_cons (pv 2) pa_nil))) (pa_cons (pe_slice (r := rSlD K) sl_tupD (pv 1) (po_some pe_int) po_none) (pa_cons pe_int (pa_cons pe_str (pa_cons (pe_tup (pa_cons (pv 1) pa_nil)) (pa_cons (pe_op (r := rCatD K) op_catD (pv 1) (pe_tup (pa_cons (pe_ix (r := rIxD K) ix_dp (pv 1) (pv 3) (fun _ _ => rfl)) pa_nil))) pa_nil))))))))))
      (pss_cons (zset 4 nd (pe_op op_cat (pv 4) (pe_lst (pa_cons (pe_op (r := rCatD K) op_catD (pe_op (r := rCatD K) op_catD (pe_slice (r := rSlD K) sl_tupD (pv 1) po_none (po_some (pv 3))) (pe_tup (pa_cons (pv 2) pa_nil))) (pe_slice (r := rSlD K) sl_tupD (pv 1) (po_some (pe_op op_add (pv 3) pe_int)) po_none)) (pa_cons (pe_op (r := rCatD K) op_catD (pe_op (r := rCatD K) op_catD (pe_slice (r := rSlD K) sl_tupD (pv 1) po_none (po_some (pv 3))) (pe_tup (pa_cons (pe_op op_sub pe_int pe_int) pa_nil))) (pe_slice (r := rSlD K) sl_tupD (pv 1) (po_some (pe_op op_add (pv 3) pe_int)) po_none)) pa_nil)))))
      (pss_cons (zset 4 nd (pe_op op_cat (pv 4) (pe_lst (pa_cons (pe_op (r := rCatD K) op_catD (pe_op (r := rCatD K) op_catD (pe_slice (r := rSlD K) sl_tupD (pv 1) po_none (po_some (pv 3))) (pe_tup (pa_cons (zt call_str_int rfl (u_str T) (pa_cons (pe_ix (r := rIxD K) ix_dp (pv 1) (pv 3) (fun _ _ => rfl)) pa_nil)) pa_nil))) (pe_slice (r := rSlD K) sl_tupD (pv 1) (po_some (pe_op op_add (pv 3) pe_int)) po_none)) (pa_cons (pe_op (r := rCatD K) op_catD (pe_op (r := rCatD K) op_catD (pe_slice (r := rSlD K) sl_tupD (pv 1) po_none (po_some (pv 3))) (pe_tup (pa_cons pe_non pa_nil))) (pe_slice (r := rSlD K) sl_tupD (pv 1) (po_some (pe_op op_add (pv 3) pe_int)) po_none)) pa_nil)))))
      (pss_cons (ps_expr (pe_bm PySem.F.plainAttrs_list PySem.F.slot_list_append PySem.F.type_list_append mt_append (pv 4) (pa_cons (zt (r := rTupOf K) call_tuple_of rfl (u_tuple T) (pa_cons (pe_lc (own := [("one", 5)]) rfl nd (qtup (K := K) (pv 1)) (blkOk_by (N := ["draw", "names", "count", "at", "some", "one"]) (sc := defScope s__law_no_order) (by decide +kernel)) (fun _ _ _ _ _ => (zg 5 nd)) (fun _ _ _ _ _ => pts_nil) (fun _ _ _ _ _ => (pe_ifExp (pt_cmpR op_lt (pv 5) pe_int (nomark _)) (pe_cmpR op_eq (pv 5) pe_int (nomark _)) (pv 5)))) pa_nil)) pa_nil)))
      (pss_one (ps_ret (pe_ix (r := rIxL K) ix_list (pv 4) (pc_call (k__law_next T) (hr.mono (by decide)) rfl pX (pa_cons (pv 0) (pa_cons pe_int pa_nil))) (fun _ _ => rfl))))))))), ?_⟩
  obtain ⟨hD, hv, hp, hn, hn2, hm, q⟩ := h
  have p59 : (2 : Nat) ^ 59 = 576460752303423488 := by decide
  have p58 : (2 : Nat) ^ 58 = 288230376151711744 := by decide
  have hol : os.length = n := by rw [hp.length_eq]; simp
  have hNl : (((os.map nI).length : Nat) : Int) = (n : Int) := by rw [List.length_map, hol]
  refine ⟨_, rfl, _, _, rfl, .inr hv, _, rfl, _, rfl, _, _, rfl, .inr hv, d, c, _, m, rfl, hD, by rw [hNl]; omega, by rw [hNl]; omega, by omega, fun H1 r x1 D1 l1 u1 => ⟨_, _, rfl, ?_⟩⟩
  rw [hNl] at u1
  rw [hNl]
  obtain ⟨k, rfl⟩ : ∃ k : Nat, r = (k : Int) := ⟨r.toNat, by omega⟩
  have hk : k < os.length := by omega
  have hv1 := dp_kp (x1.kp hD.no) hv
  obtain ⟨a, xs, rfl, hs1, hd1⟩ := dp_tup hv1
  have hgk : (os.map nI)[k]? = some (nI os[k]) := by rw [List.getElem?_map, List.getElem?_eq_getElem hk]; rfl
  have hak : os[k] < n := List.mem_range.mp (hp.mem_iff.mp (List.getElem_mem hk))
  have hkl : k ≤ (os.map nI).length := by rw [List.length_map]; omega
  have hkl1 : k + 1 ≤ (os.map nI).length := by rw [List.length_map]; omega
  have hN100 : (os.map nI).length ≤ 100 := by rw [List.length_map]; omega
  generalize hA : os[k] = ak at hgk hak
  -- some = [None, list(names), names + (count,), names[1:], 5, '0', (names,), names + (names[at],)]
  refine ⟨_, rfl, a, xs, rfl, .inr hs1, fun p1 hp1 => ?_⟩
  have s1 := same_upd (o := .lst xs) hp1
  have e1 : Dp K (upd H1 p1 (.lst xs)) (.ref p1) (.list (os.map nI)) := dp_newL hp1 hd1
  generalize upd H1 p1 (.lst xs) = H2 at s1 e1 ⊢
  refine ⟨_, rfl, _, rfl, by show 1 ≤ sizeLine; decide, fun t1 ht1 => ⟨_, [nI n], dp_same (s1.trans (same_upd ht1)) hv1, dp_newT ht1 (.cons (.int _) .nil), by rw [sizeLine_eq]; simp; omega, fun v2 H3 s3 e2 => ?_⟩⟩
  have s13 := s1.trans ((same_upd (o := .tup [V.int (n : Int)]) ht1).trans s3)
  have f1 := dp_same ((same_upd (o := .tup [V.int (n : Int)]) ht1).trans s3) e1
  refine ⟨_, rfl, _, rfl, _, dp_same s13 hv1, fun v3 H4 s4 e3 => ?_⟩
  have e3 : Dp K H4 v3 (.tuple ((os.map nI).drop 1)) := by rw [← cutD_from (k := 1) (by omega)]; exact e3
  have f2 := dp_same s4 e2
  have f1 := dp_same s4 f1
  have s14 := s13.trans s4
  refine ⟨_, rfl, by show 1 ≤ sizeLine; decide, fun t2 ht2 => ?_⟩
  have s5 := same_upd (o := .tup [V.ref a]) ht2
  have e6 : Dp K (upd H4 t2 (.tup [V.ref a])) (.ref t2) (.tuple [.tuple (os.map nI)]) := dp_newT ht2 (.cons (dp_same s14 hv1) .nil)
  have s15 := s14.trans s5
  have f1 := dp_same s5 f1
  have f2 := dp_same s5 f2
  have f3 := dp_same s5 e3
  generalize upd H4 t2 (.tup [V.ref a]) = H5 at s5 e6 s15 f1 f2 f3 ⊢
  refine ⟨_, rfl, _, rfl, _, rfl, _, k, _, .inr (dp_same s15 hv1), rfl, hgk, fun y dy => ⟨by show 1 ≤ sizeLine; decide, fun t3 ht3 => ?_⟩⟩
  have s6 := same_upd (o := .tup [y]) ht3
  refine ⟨_, [nI ak], dp_same (s15.trans s6) hv1, dp_newT ht3 (.cons dy .nil), by rw [sizeLine_eq]; simp; omega, fun v7 H7 s7 e7 => ?_⟩
  have s57 := s6.trans s7
  have s17 := s15.trans s57
  have f1 := dp_same s57 f1
  have f2 := dp_same s57 f2
  have f3 := dp_same s57 f3
  have f6 := dp_same s57 e6
  refine ⟨by show 8 ≤ sizeLine; decide, fun p2 hp2 => ?_⟩
  have da : DpAll K H7 [.non, .ref p1, v2, v3, .int 5, .str "0", .ref t2, v7] [.none, .list (os.map nI), .tuple (os.map nI ++ [nI n]), .tuple ((os.map nI).drop 1), .int 5, .str "0", .tuple [.tuple (os.map nI)], .tuple (os.map nI ++ [nI ak])] :=
    .cons .non (.cons f1 (.cons f2 (.cons f3 (.cons (.int 5) (.cons (.str _) (.cons f6 (.cons e7 .nil)))))))
  have s8 := same_upd (o := .lst [.non, .ref p1, v2, v3, .int 5, .str "0", .ref t2, v7]) hp2
  have da8 := dpa_same s8 da
  have hp28 : upd H7 p2 (.lst [.non, .ref p1, v2, v3, .int 5, .str "0", .ref t2, v7]) p2 = some (.lst [.non, .ref p1, v2, v3, .int 5, .str "0", .ref t2, v7]) := upd_same
  have s18 := s17.trans s8
  generalize upd H7 p2 (.lst [.non, .ref p1, v2, v3, .int 5, .str "0", .ref t2, v7]) = H8 at s8 da8 hp28 s18 ⊢
  generalize ([.non, .ref p1, v2, v3, .int 5, .str "0", .ref t2, v7] : List V) = xs8 at da8 hp28
  -- two more
  refine ⟨_, rfl, mid_ok (y := nI n) rfl rfl (dp_same s18 hv1) hkl1 (by omega) (fun G Q' g h => ⟨_, rfl, h _ (.int _)⟩) fun w1 G1 g1 b1 => ?_⟩
  refine mid_ok (y := .int (0 - 1)) rfl rfl (dp_same (s18.trans g1) hv1) hkl1 (by omega) (fun G Q' g h => ⟨_, _, rfl, rfl, h _ (.int _)⟩) fun w2 G2 g2 b2 => ?_
  refine ⟨by show 2 ≤ sizeLine; decide, fun p3 hp3 => ?_⟩
  have z2 := g1.trans g2
  have z3 := z2.trans (same_upd (o := .lst [w1, w2]) hp3)
  have l8 : xs8.length = 8 := dpa_len da8
  refine ⟨p2, p3, _, _, rfl, rfl, z3 _ _ hp28, upd_same, by rw [l8]; show 10 ≤ sizeLine; decide, fun p4 hp4 => ?_⟩
  have da10 := dpa_app (dpa_same z3 da8) (.cons (dp_same ((same_upd (o := .lst [w1, w2]) hp3)) (dp_same g2 b1)) (.cons (dp_same (same_upd (o := .lst [w1, w2]) hp3) b2) .nil))
  have z4 := z3.trans (same_upd (o := .lst (xs8 ++ [w1, w2])) hp4)
  have da10' := dpa_same (same_upd (o := .lst (xs8 ++ [w1, w2])) hp4) da10
  have s110 := s18.trans z4
  have hp410 : upd (upd G2 p3 (.lst [w1, w2])) p4 (.lst (xs8 ++ [w1, w2])) p4 = some (.lst (xs8 ++ [w1, w2])) := upd_same
  generalize upd (upd G2 p3 (.lst [w1, w2])) p4 (.lst (xs8 ++ [w1, w2])) = H10 at z4 da10' s110 hp410 ⊢
  have l10 : (xs8 ++ [w1, w2]).length = 10 := by simp [l8]
  generalize xs8 ++ [w1, w2] = xs10 at da10' hp410 l10
  -- and two more
  refine ⟨_, rfl, mid_ok (y := .str (Str.ofString (toString (ak : Int)))) rfl rfl (dp_same s110 hv1) hkl1 (by omega) (fun G Q' g h => ⟨_, rfl, _, rfl, _, k, _, .inr (dp_same (s110.trans g) hv1), rfl, hgk, fun y dy => ?_⟩) fun w3 G3 g3 b3 => ?_⟩
  · obtain rfl := dp_int dy
    refine ⟨_, rfl, ?_, h _ (.str _)⟩
    show ((ak : Int)).natAbs.log2 < 1920
    by_cases z : ak = 0
    · rw [z]; decide
    · refine (Nat.log2_lt (by omega)).mpr ?_
      have : ((ak : Int)).natAbs < 2 ^ 7 := by
        have : (2 : Nat) ^ 7 = 128 := by decide
        omega
      exact Nat.lt_of_lt_of_le this (Nat.pow_le_pow_right (by decide) (by decide))
  refine mid_ok (y := .none) rfl rfl (dp_same (s110.trans g3) hv1) hkl1 (by omega) (fun G Q' g h => h _ .non) fun w4 G4 g4 b4 => ?_
  refine ⟨by show 2 ≤ sizeLine; decide, fun p5 hp5 => ?_⟩
  have z5 := (g3.trans g4).trans (same_upd (o := .lst [w3, w4]) hp5)
  refine ⟨p4, p5, _, _, rfl, rfl, z5 _ _ hp410, upd_same, by rw [l10]; show 12 ≤ sizeLine; decide, fun p6 hp6 => ?_⟩
  have da12 := dpa_app (dpa_same z5 da10') (.cons (dp_same (same_upd (o := .lst [w3, w4]) hp5) (dp_same g4 b3)) (.cons (dp_same (same_upd (o := .lst [w3, w4]) hp5) b4) .nil))
  have s111 := s110.trans z5
  generalize upd G4 p5 (.lst [w3, w4]) = H11 at z5 da12 s111 hp6 ⊢
  have l12 : (xs10 ++ [w3, w4]).length = 12 := by simp [l10]
  generalize xs10 ++ [w3, w4] = xs12 at da12 l12 ⊢
  have s12 := same_upd (o := .lst xs12) hp6
  have h612 : upd H11 p6 (.lst xs12) p6 = some (.lst xs12) := upd_same
  have s112 := s111.trans s12
  generalize upd H11 p6 (.lst xs12) = H12 at s12 h612 s112 ⊢
  -- some.append(tuple([..]))
  have hs12 := same_seqT s112 hs1
  refine ⟨_, rfl, tyV_list h612, _, rfl, a, rfl, ⟨_, hs12⟩, fun D hD' => ?_⟩
  refine lc_tup (xs := xs) (LcP K H12 D fun i => (os.take i).map fB) (lcp_start hD' rfl) (fun i H' _ I => same_seqT I.1 hs12) ?_ ?_
  · intro i x H' hx I
    obtain ⟨d1, hd2, hd3⟩ := dpa_at hd1 hx
    rw [List.getElem?_map] at hd2
    obtain ⟨b, hb, rfl⟩ := Option.map_eq_some_iff.mp hd2
    obtain rfl := dp_int hd3
    have hF : ∀ y, fB b = y → (os.take (i + 1)).map fB = (os.take i).map fB ++ [y] := fun y hy => by
      rw [List.take_add_one, hb]; simp [hy]
    have hz : ((os.take i).map fB).length < sizeLine := by rw [List.length_map, List.length_take, sizeLine_eq]; omega
    refine ⟨rfl, _, rfl, _, _, rfl, rfl, _, rfl, iff_b (fun hc => ?_) fun hc => ?_⟩
    · have hb2 : (b : Int) < 2 := by simpa using hc
      refine ⟨_, rfl, rfl, lcp_put0 hD' I (Same.refl _) (.bl _) rfl (hF _ ?_) hz⟩
      have : b = 0 ∨ b = 1 := by omega
      rcases this with rfl | rfl <;> rfl
    · have hb2 : ¬ (b : Int) < 2 := by simpa using hc
      refine ⟨_, rfl, lcp_put0 hD' I (Same.refl _) (.int _) rfl (hF _ ?_) hz⟩
      unfold fB
      rw [if_neg (by omega), if_neg (by omega)]
      rfl
  intro H13 I13
  obtain ⟨s13', _, acc, ha1, ha2⟩ := lcp_end I13
  have etk : os.take xs.length = os := by rw [List.take_of_length_le (by rw [dpa_len hd1, List.length_map]; exact Nat.le_refl _)]
  rw [etk] at ha2
  refine ⟨D, acc, rfl, .inl ⟨SqL.of ha1, fun pt hpt => ?_⟩⟩
  have s14' := same_upd (o := .tup acc) hpt
  have h614 := s14' _ _ (s13' _ _ h612)
  have e13 : Dp K (upd H13 pt (.tup acc)) (.ref pt) (.tuple (os.map fB)) := dp_newT hpt ha2
  have s1114 := (s12.trans s13').trans s14'
  generalize upd H13 pt (.tup acc) = H14 at s14' h614 e13 s1114 ⊢
  refine ⟨p6, xs12, _, rfl, rfl, h614, by rw [l12]; show 12 < sizeLine; decide, ?_⟩
  have sF : Same H11 (upd H14 p6 (.lst (xs12 ++ [.ref pt]))) := same_upd2 s1114 hp6
  have noLf : noL (.tuple (os.map fB)) = true := noLs_map (fun b => by unfold fB; split; rfl; split; rfl; rfl) os
  have da13 := dpa_app (dpa_same sF da12) (dpa_one (dp_upd (u := .lst (xs12 ++ [.ref pt])) h614 noLf e13))
  have hG : upd H14 p6 (.lst (xs12 ++ [.ref pt])) p6 = some (.lst (xs12 ++ [.ref pt])) := upd_same
  generalize upd H14 p6 (.lst (xs12 ++ [.ref pt])) = H15 at sF da13 hG ⊢
  have s115 := s111.trans sF
  refine ⟨_, rfl, _, rfl, d, c, 13, m + 1, rfl, D1.same s115, by decide, by decide, by omega, fun H16 r2 x16 D16 l16 u16 => ?_⟩
  obtain ⟨j, rfl⟩ : ∃ j : Nat, r2 = (j : Int) := ⟨r2.toNat, by omega⟩
  have np6 : p6 ≠ d := by
    obtain ⟨⟨o, ho⟩, _⟩ := (D1.same s111).there
    exact (ne_of_none ho hp6).symm
  have hG16 := x16 _ _ hG np6
  have da16 := dpa_kp (x16.kp (D1.same s115).no) da13
  have hds : (odds os n k ak).length = 13 := rfl
  obtain ⟨y, hy, dy⟩ := dpa_get (i := j) (d := (odds os n k ak)[j]'(by rw [hds]; omega)) da16 (by rw [← List.getElem?_eq_getElem]; rfl)
  refine ⟨p6, _, _, y, rfl, rfl, SqL.of hG16, atI_nat hy, ?_⟩
  exact q H16 y _ ((x1.trans (ExD.of s115)).trans x16) dy (odds_no hp hn hn2 hak _ (List.getElem_mem _)) D16
theorem k__law_no_order {w : World} {K : PySem.W.Frag} {mg : Str → Option Value} {base : Heap} (T : Tx K mg) : Cl PP w K mg base 3 "_law_no_order" (sp__law_no_order K) := by
  obtain ⟨fd, F⟩ := f__law_no_order T
  refine ⟨?_, g__law_no_order T, F.kp⟩
  refine (a__law_no_order T F).pos0 (FunD.bindsN F fun _ _ _ _ _ _ us hl => match us, hl with | [_, _], _ => rfl) (fun vs H Q E h => ?_)
  obtain ⟨_, _, _, _, _, _, rfl, _⟩ := h
  rfl
end TT
namespace TT
open PySem PySem.Spec PyProof.Rows L2
open He (ga ma)
theorem dR_inj {a b : List Nat} (h : dR a = dR b) : a = b := by
  unfold dR at h
  injection h with h
  induction a generalizing b with
  | nil => cases b with
    | nil => rfl
    | cons y b => cases h
  | cons x a ih => cases b with
    | nil => cases h
    | cons y b =>
      simp only [List.map_cons, List.cons.injEq] at h
      obtain ⟨h1, h2⟩ := h
      rw [ih h2]
      unfold nI at h1
      injection h1 with h1
      congr 1
      omega
theorem sort2 (x y : Nat) : [x, y].mergeSort leN = [(norm (x, y)).1, (norm (x, y)).2] := by
  have hp := List.mergeSort_perm [x, y] leN
  have hs : ([x, y].mergeSort leN).Pairwise (fun a b => a ≤ b) := (List.pairwise_mergeSort leN_trans leN_total [x, y]).imp fun h => by simpa [leN] using h
  refine List.Perm.eq_of_pairwise (le := fun a b : Nat => a ≤ b) (fun a b _ _ h1 h2 => by omega) hs ?_ (hp.trans ?_)
  · unfold norm
    by_cases h : x ≤ y
    · simp [h]
    · simp [h]; omega
  · unfold norm
    by_cases h : x ≤ y
    · simp [h]
    · simp only [h, if_false]
      exact List.Perm.swap _ _ _
theorem norm_swap (x y : Nat) : norm (y, x) = norm (x, y) := by
  unfold norm
  by_cases h : x ≤ y
  · by_cases h2 : y ≤ x
    · obtain rfl : x = y := by omega
      rfl
    · simp [h, h2]
  · have h2 : y ≤ x := by omega
    simp [h, h2]
theorem norm_ren (os : List Nat) (e : Nat × Nat) : norm (ren os (norm e)) = norm (ren os e) := by
  rcases norm_cases e with h | h
  · rw [h]
  · rw [h]; exact norm_swap _ _
theorem norm_norm (e : Nat × Nat) : norm (norm e) = norm e := by
  rcases norm_cases e with h | h
  · rw [h]; exact h
  · conv => lhs; rw [h]
    exact norm_swap _ _
theorem mem_norm_map {E : Tr} (g : Nat × Nat → Nat × Nat) (hg : ∀ e, norm (g (norm e)) = norm (g e)) (x : Nat × Nat) : x ∈ ((normed E).map g).map norm ↔ x ∈ (E.map g).map norm := by
  rw [List.map_map, List.map_map, List.mem_map, List.mem_map]
  constructor
  · rintro ⟨e, he, rfl⟩
    obtain ⟨d, hd, rfl⟩ := mem_normed.mp he
    exact ⟨d, hd, (hg d).symm⟩
  · rintro ⟨d, hd, rfl⟩
    exact ⟨norm d, mem_normed.mpr ⟨d, hd, rfl⟩, hg d⟩
theorem ren_normed {n : Nat} {E : Tr} {os : List Nat} (t : Tree n E) (p : os.Perm (List.range n)) : normed ((normed E).map (ren os)) = normed (E.map (ren os)) :=
  normed_ext (norm_nodup (ren_tree t.normed p)) (norm_nodup (ren_tree t p)) (mem_norm_map (ren os) (norm_ren os))
/-- the inverse order -/
def inv (n : Nat) (os : List Nat) : List Nat := (List.range n).map fun k => os.idxOf k
theorem inv_getD {n k : Nat} {os : List Nat} (h : k < n) : (inv n os).getD k 0 = os.idxOf k := by
  unfold inv
  rw [List.getD_eq_getElem?_getD, List.getElem?_map, List.getElem?_range h]
  rfl
theorem inv_perm {n : Nat} {os : List Nat} (p : os.Perm (List.range n)) : (inv n os).Perm (List.range n) := by
  have hl : os.length = n := by rw [p.length_eq]; simp
  have nd : os.Nodup := p.nodup_iff.mpr List.nodup_range
  have e : List.range n = os.map fun x => os.idxOf x := by
    apply List.ext_getElem?
    intro i
    by_cases hi : i < n
    · rw [List.getElem?_range hi, List.getElem?_map, List.getElem?_eq_getElem (by omega : i < os.length)]
      show some i = some (os.idxOf os[i])
      rw [List.Nodup.idxOf_getElem nd]
    · rw [List.getElem?_eq_none (by simp; omega), List.getElem?_eq_none (by rw [List.length_map]; omega)]
  have h2 : (inv n os).Perm (os.map fun x => os.idxOf x) := (p.symm.map _)
  rw [← e] at h2
  exact h2
theorem inv_ren {n : Nat} {os : List Nat} (p : os.Perm (List.range n)) {e : Nat × Nat} (h : e.1 < n ∧ e.2 < n) : ren (inv n os) (ren os e) = e := by
  have hl : os.length = n := by rw [p.length_eq]; simp
  have nd : os.Nodup := p.nodup_iff.mpr List.nodup_range
  have key : ∀ x, x < n → (inv n os).getD (os.getD x 0) 0 = x := fun x hx => by
    have h1 := getD_some (l := os) (d := 0) (i := x) (by omega)
    have hm : os.getD x 0 < n := List.mem_range.mp (p.mem_iff.mp (List.mem_of_getElem? h1))
    rw [inv_getD hm]
    have h2 := (List.getElem?_eq_some_iff.mp h1).2
    rw [← h2]
    exact List.Nodup.idxOf_getElem nd _ _
  unfold ren
  simp only
  rw [key _ h.1, key _ h.2]
theorem back_tracks {n : Nat} {E : Tr} {os : List Nat} (t : Tree n E) (p : os.Perm (List.range n)) : tracksOf n ((tracksOf n ((tracksOf n E).map (ren os))).map (ren (inv n os))) = tracksOf n E := by
  have t1 := ren_tree t.normed p
  have t2 := ren_tree t1.normed (inv_perm p)
  rw [tracks_normed t, tracks_normed t1, tracks_normed t2, ren_normed t1 (inv_perm p)]
  have e : ((normed E).map (ren os)).map (ren (inv n os)) = normed E := by
    rw [List.map_map]
    conv => rhs; rw [← List.map_id (normed E)]
    exact List.map_congr_left fun e he => inv_ren p (t.normed.rng e he)
  rw [e]
  refine normed_ext (norm_nodup t.normed) (norm_nodup t) fun x => ?_
  have := mem_norm_map (E := E) id (fun e => norm_norm e) x
  simpa using this
def sp__law_right (K : PySem.W.Frag) : Sp := fun vs H Q E => ∃ (r tp np : Addr) (n : Nat) (E0 : Tr) (os : List Nat) (o : Obj), vs = [.ref r, .ref tp, .ref np] ∧ RwAt K H r n E0 ∧ Dp K H (.ref tp) (dT E0) ∧ H np = some (.frz o (.tup (vN os))) ∧ o.dict = none ∧ os.Perm (List.range n) ∧ ∀ H', Same H H' → Q (.bl true) H'
theorem sc__law_right : FnScope ["net", "tracks", "names", "due", "fresh", "back", "kept", "a", "b", "k", "one"] ["net", "tracks", "names"] (defScope s__law_right) := ⟨rfl, rfl, rfl, by decide +kernel, rfl, by decide +kernel, by decide +kernel⟩
theorem a__law_right {w : World} {K : PySem.W.Frag} {mg : Str → Option Value} {base : Heap} (T : Tx K mg) {fd : FuncData} (F : FunD K "_law_right" "_law_right" (defArgs s__law_right) (defBody s__law_right) (defScope s__law_right) (d__law_right.dvs K) [] (ga K "_law_right") fd) : FnA PP w K mg base 8 (ga K "_law_right") fd ["net", "tracks", "names"] (sp__law_right K) := by
  refine fnA_of F sc__law_right fun cdv A outer s H vs Q E hr h => ?_
  have nd := sc__law_right.nd
  obtain ⟨r, tp, np, n, E0, os, o, rfl, h⟩ := h
  refine ⟨_, (pss_cons (zset 3 nd (zt (r := rTupOf K) call_tuple_of rfl (u_tuple T) (pa_cons (zb (r := rSortD K dE leP) (call_sortD dE leP hr) rfl (u_sorted T) (pa_cons (pe_lc (own := [("a", 7), ("b", 8)]) rfl nd (qtup (K := K) (pv 1)) (blkOk_by (N := ["net", "tracks", "names", "due", "fresh", "back", "kept", "a", "b", "k", "one"]) (sc := defScope s__law_right) (by decide +kernel)) (fun _ _ _ _ _ => (qgt (K := K) (n := 2) rfl (pgs_cons (zg 7 nd) (pgs_cons (zg 8 nd) pgs_nil)))) (fun _ _ _ _ _ => pts_nil) (fun _ _ _ _ _ => (zt (r := rTupOf K) call_tuple_of rfl (u_tuple T) (pa_cons (zb (r := rSortD K nI leN) (call_sortD nI leN hr) rfl (u_sorted T) (pa_cons (pe_lst (pa_cons (pe_ix (r := rIxT K) ix_tup (pv 2) (pv 7) (fun _ _ => rfl)) (pa_cons (pe_ix (r := rIxT K) ix_tup (pv 2) (pv 8) (fun _ _ => rfl)) pa_nil))) pa_nil)) pa_nil)))) pa_nil)) pa_nil)))
      (pss_cons (zset 4 nd (pc_call (k_renamed T) (hr.mono (by decide)) rfl pX (pa_cons (pv 0) (pa_cons (pv 2) pa_nil))))
      (pss_cons (ps_if (PW.pt (pw_or (pt_cmpR op_ne (zb (r := rReprD K) (call_reprD hr) rfl (u_repr T) (pa_cons (pc_prop (pv 4) (k_Railway_tracks T) (hr.mono (by decide)) passL) pa_nil)) (zb (r := rReprD K) (call_reprD hr) rfl (u_repr T) (pa_cons (pv 3) pa_nil)) (nomark _)) (pw_or1 (pt_cmpR op_ne (pc_prop (pv 4) (k_Railway_size T) (hr.mono (by decide)) passL) (pc_prop (pv 0) (k_Railway_size T) (hr.mono (by decide)) passL) (nomark _))))) (pss_one (ps_ret pe_bl)) pss_nil)
      (pss_cons (ps_par (i := 5) (j := 6) rfl nd rfl rfl (by decide) rfl rfl (pa_cons (zt (r := rTupOf K) call_tuple_of rfl (u_tuple T) (pa_cons (pe_lc (own := [("k", 9)]) rfl nd (pi_range1 rfl (u_range T) (pa_cons (zb (r := rLenA K) call_len rfl (u_len T) (pa_cons (pv 2) pa_nil)) pa_nil)) (blkOk_by (N := ["net", "tracks", "names", "due", "fresh", "back", "kept", "a", "b", "k", "one"]) (sc := defScope s__law_right) (by decide +kernel)) (fun _ _ _ _ _ => (zg 9 nd)) (fun _ _ _ _ _ => pts_nil) (fun _ _ _ _ _ => (pe_bt (r := rIndexN K) PySem.F.plainAttrs_tuple PySem.F.slot_tuple_index PySem.F.type_tuple_index mt_indexN (pv 2) (pa_cons (pv 9) pa_nil)))) pa_nil)) (pa_cons (zb (r := rSortD K dE leP) (call_sortD dE leP hr) rfl (u_sorted T) (pa_cons (pe_lc (own := [("one", 10)]) rfl nd (qtup (K := K) (pv 1)) (blkOk_by (N := ["net", "tracks", "names", "due", "fresh", "back", "kept", "a", "b", "k", "one"]) (sc := defScope s__law_right) (by decide +kernel)) (fun _ _ _ _ _ => (zg 10 nd)) (fun _ _ _ _ _ => pts_nil) (fun _ _ _ _ _ => (zt (r := rTupOf K) call_tuple_of rfl (u_tuple T) (pa_cons (zb (r := rSortD K nI leN) (call_sortD nI leN hr) rfl (u_sorted T) (pa_cons (pv 10) pa_nil)) pa_nil)))) pa_nil)) pa_nil)) rfl)
      (pss_cons (ps_if (PW.pt (pw_or (pt_not (pt_val (pc_meth (pc_call (k_renamed T) (hr.mono (by decide)) rfl pX (pa_cons (pv 4) (pa_cons (pv 5) pa_nil))) (k_Railway_is_same T) (hr.mono (by decide)) pX (pa_cons (pv 0) pa_nil)))) (pw_or1 (pt_not (pt_val (pc_meth (pc_callK0 (kk_renamed_0_order_railway T) (hr.mono (by decide)) rfl (passAll pX) (pk_cons (pv 2) (pk_cons (pv 0) pk_nil))) (k_Railway_is_same T) (hr.mono (by decide)) pX (pa_cons (pv 4) pa_nil))))))) (pss_one (ps_ret pe_bl)) pss_nil)
      (pss_one (ps_ret (pe_cmpR op_eq (zb (r := rReprD K) (call_reprD hr) rfl (u_repr T) (pa_cons (pc_prop (pv 0) (k_Railway_tracks T) (hr.mono (by decide)) passL) pa_nil)) (zb (r := rReprD K) (call_reprD hr) rfl (u_repr T) (pa_cons (zt (r := rTupOf K) call_tuple_of rfl (u_tuple T) (pa_cons (pv 6) pa_nil)) pa_nil)) (nomark _))))))))), ?_⟩
  obtain ⟨hR, ht, hnp, hod, hp, q⟩ := h
  have t := hR.1
  have hm := t.most
  have htl := t.len
  have hol : os.length = n := by rw [hp.length_eq]; simp
  obtain ⟨tp0, tx, ett, hts, htd⟩ := dp_tup ht
  cases ett
  have htxl : tx.length = E0.length := by rw [dpa_len htd, List.length_map]
  have hNP : SqT K H np (vN os) := .inl (.inr ⟨o, hnp⟩)
  have hlt : ∀ x ∈ os, x < n := fun x hx => List.mem_range.mp (hp.mem_iff.mp hx)
  -- due = ..
  refine ⟨_, rfl, tp, rfl, ⟨_, hts⟩, fun D hD => ?_⟩
  refine lc_tup (xs := tx) (LcP K H D fun i => ((E0.map fun e => norm (ren os e)).take i).map dE) (lcp_start hD rfl) (fun i H' _ I => same_seqT I.1 hts) ?_ ?_
  · intro i x H' hx I
    obtain ⟨e, he, hxe⟩ : ∃ e, E0[i]? = some e ∧ Dp K H x (dE e) := by
      obtain ⟨d1, hd1, hd2⟩ := dpa_at htd hx
      rw [List.getElem?_map] at hd1
      obtain ⟨e, he, rfl⟩ := Option.map_eq_some_iff.mp hd1
      exact ⟨e, he, hd2⟩
    have hre := t.rng e (List.mem_of_getElem? he)
    obtain ⟨xa, ys, rfl, hys, hyd⟩ := dp_tup hxe
    obtain rfl : ys = [.int (e.1 : Int), .int (e.2 : Int)] := by
      have z : DpAll K H ys ([e.1, e.2].map nI) := hyd
      exact vN_of z
    have hN' := same_seqT I.1 hNP
    refine ⟨xa, _, rfl, same_seqT I.1 hys, rfl, _, _, rfl, _, _, rfl, rfl, rfl, ?_⟩
    refine ⟨_, rfl, _, rfl, np, _, _, _, rfl, rfl, hN', atI_nat (vN_get (getD_some (d := 0) (by omega))), ?_⟩
    refine ⟨_, rfl, _, rfl, np, _, _, _, rfl, rfl, hN', atI_nat (vN_get (getD_some (d := 0) (by omega))), ?_⟩
    refine ⟨by show 2 ≤ sizeLine; decide, fun l2 hl2 => ?_⟩
    have s2 := same_upd (o := .lst [V.int ((os.getD e.1 0 : Nat) : Int), V.int ((os.getD e.2 0 : Nat) : Int)]) hl2
    refine ⟨_, [os.getD e.1 0, os.getD e.2 0], rfl, .inl (dp_newL hl2 (vN_dp [os.getD e.1 0, os.getD e.2 0])), fun y _ z _ => dataLe_nI y z, alike_nI _, sortable_nI _, fun _ _ => Nat.zero_le _, fun ps zs hps hzs => ?_⟩
    have s3 := s2.trans (same_upd (o := .lst zs) hps)
    refine ⟨ps, zs, rfl, .inl ⟨SqL.of upd_same, fun pt hpt => ?_⟩⟩
    rw [sort2] at hzs
    have hF : ((E0.map fun e => norm (ren os e)).take (i + 1)).map dE = ((E0.map fun e => norm (ren os e)).take i).map dE ++ [dE (norm (ren os e))] := by
      rw [List.take_add_one, List.map_append, List.getElem?_map, he]; rfl
    exact lcp_put0 hD I (s3.trans (same_upd hpt)) (dp_newT hpt (dpa_same (same_upd hps) hzs)) rfl hF (by rw [List.length_map, List.length_take, List.length_map, sizeLine_eq]; omega)
  intro H1 I1
  obtain ⟨s1, dl, _⟩ := lcp_end I1
  have et : (E0.map fun e => norm (ren os e)).take tx.length = E0.map fun e => norm (ren os e) := by rw [List.take_of_length_le (by rw [List.length_map]; omega)]
  rw [et] at dl
  refine ⟨_, E0.map fun e => norm (ren os e), rfl, .inl dl, fun y _ z _ => dataLe_dE y z, alike_dE _, sortable_dE _, fun _ _ => Nat.le_trans shp_dE.2 (by decide), fun p1 zs hp1 hzs => ?_⟩
  have s2 := s1.trans (same_upd (o := .lst zs) hp1)
  refine ⟨p1, zs, rfl, .inl ⟨SqL.of upd_same, fun p2 hp2 => ?_⟩⟩
  have s3 := s2.trans (same_upd (o := .tup zs) hp2)
  have ddue : Dp K (upd (upd H1 p1 (.lst zs)) p2 (.tup zs)) (.ref p2) (dT (normed (E0.map (ren os)))) := by
    have e : normed (E0.map (ren os)) = (E0.map fun e => norm (ren os e)).mergeSort leP := by unfold normed; rw [List.map_map]; rfl
    rw [e]
    exact dp_newT hp2 (dpa_same (same_upd hp1) hzs)
  generalize upd (upd H1 p1 (.lst zs)) p2 (.tup zs) = H2 at s3 ddue ⊢
  have dnp : ∀ {Hx}, Same H Hx → Dp K Hx (.ref np) (dR os) := fun s => .tup (same_seqT s hNP) (vN_dp os)
  have yes := isOrd_of hp
  -- fresh = renamed(net, names)
  refine ⟨_, rfl, _, rfl, r, n, E0, .ref np, dR os, rfl, hR.same s3, dnp s3, fun hno => (by rw [yes] at hno; cases hno), fun os' _ hos' hp' H4 fr s4 hfr hF => ?_⟩
  obtain rfl := dR_inj hos'
  have s14 := s3.trans s4
  have t1 := hF.1
  obtain ⟨_, dxf, _, _, _, _, _, hfi, _⟩ := id hF
  obtain ⟨_, dxr, _, _, _, _, _, hri, _⟩ := id hR
  have small : ∀ {E : Tr}, Tree n E → Rp 2 85000 (dT (tracksOf n E)) := fun {E} tt => by
    have tn := tt.normed
    rw [← tracks_normed tt] at tn
    exact rp_dT (fun e he => by have := tn.rng e he; omega) (by have := tn.len; omega)
  have efr : tracksOf n ((tracksOf n E0).map (ren os)) = normed (E0.map (ren os)) := by
    rw [tracks_normed t1, tracks_normed t, ren_normed t hp]
  -- if repr(fresh.tracks) != repr(due) or fresh.size != net.size
  refine ⟨_, rfl, fr, _, _, rfl, hfi, fr, n, _, rfl, hF, fun H5 v5 s5 d5 => ⟨v5, _, rfl, d5, ⟨2, 85000, small t1, by decide, by decide⟩, ?_⟩⟩
  have s15 := s14.trans s5
  refine ⟨_, rfl, _, _, rfl, dp_same (s4.trans s5) ddue, ⟨2, 85000, (by rw [← efr]; exact small t1), by decide, by decide⟩, rfl, _, rfl, iff_f ?_ ?_⟩
  · rw [efr]; simp
  refine ⟨_, rfl, fr, _, _, rfl, s5 _ _ hfi, fr, n, _, rfl, hF.same s5, _, rfl, r, _, _, rfl, s15 _ _ hri, r, n, _, rfl, hR.same s15, rfl, _, rfl, iff_f (by simp) ?_⟩
  -- back, kept = ..
  refine ⟨_, rfl, _, (vN os).length, rfl, .inr ⟨_, same_seqT s15 hNP, rfl⟩, _, rfl, by omega, by rw [vN_len]; omega, fun D2 hD2 => ?_⟩
  have hnn : (((vN os).length : Nat) : Int).toNat = n := by rw [vN_len]; omega
  refine lc_range (LcP K H5 D2 fun i => ((inv n os).take i).map nI) (lcp_start hD2 rfl) ?_ ?_
  · intro i H' hi I
    have hi2 : i < n := by omega
    rw [Int.zero_add]
    have hmem : i ∈ os := hp.mem_iff.mpr (List.mem_range.mpr hi2)
    have hix := List.idxOf_lt_length_iff.mpr hmem
    have hy : os[os.idxOf i]? = some i := by rw [List.getElem?_eq_getElem hix, List.getElem_idxOf]
    have nd2 : os.Nodup := hp.nodup_iff.mpr List.nodup_range
    have hF2 : ((inv n os).take (i + 1)).map nI = ((inv n os).take i).map nI ++ [nI (os.idxOf i)] := by
      have : (inv n os)[i]? = some (os.idxOf i) := by unfold inv; rw [List.getElem?_map, List.getElem?_range hi2]; rfl
      rw [List.take_add_one, List.map_append, this]; rfl
    refine ⟨rfl, _, rfl, ⟨np, o, _, rfl, (s15.trans I.1) _ _ hnp, hod⟩, _, rfl, np, os, i, os.idxOf i, rfl, rfl, same_seqT (s15.trans I.1) hNP, hy, fun m hmj hm2 => ?_, lcp_put0 hD2 I (Same.refl _) (.int _) rfl hF2 (by rw [List.length_map, List.length_take, sizeLine_eq]; omega)⟩
    have := nd_ix nd2 hm2 hy
    omega
  intro H6 I6
  rw [hnn] at I6
  obtain ⟨s6, _, acc6, ha6, hb6⟩ := lcp_end I6
  have e6 : (inv n os).take n = inv n os := by rw [List.take_of_length_le (by simp [inv])]
  rw [e6] at hb6
  refine ⟨D2, acc6, rfl, .inl ⟨SqL.of ha6, fun pb hpb => ?_⟩⟩
  have s7 := s6.trans (same_upd (o := .tup acc6) hpb)
  have dback : Dp K (upd H6 pb (.tup acc6)) (.ref pb) (dR (inv n os)) := dp_newT hpb hb6
  have s17 := s15.trans s7
  generalize upd H6 pb (.tup acc6) = H7 at s7 dback s17 ⊢
  refine ⟨_, rfl, tp, rfl, ⟨_, same_seqT s17 hts⟩, fun D3 hD3 => ?_⟩
  refine lc_tup (xs := tx) (LcP K H7 D3 fun i => ((E0.map norm).take i).map dE) (lcp_start hD3 rfl) (fun i H' _ I => same_seqT (s17.trans I.1) hts) ?_ ?_
  · intro i x H' hx I
    obtain ⟨e, he, hxe⟩ : ∃ e, E0[i]? = some e ∧ Dp K H x (dE e) := by
      obtain ⟨d1, hd1, hd2⟩ := dpa_at htd hx
      rw [List.getElem?_map] at hd1
      obtain ⟨e, he, rfl⟩ := Option.map_eq_some_iff.mp hd1
      exact ⟨e, he, hd2⟩
    have hxe' := dp_same (s17.trans I.1) hxe
    refine ⟨rfl, _, rfl, _, [e.1, e.2], rfl, .inr hxe', fun y _ z _ => dataLe_nI y z, alike_nI _, sortable_nI _, fun _ _ => Nat.zero_le _, fun ps zs hps hzs => ?_⟩
    refine ⟨ps, zs, rfl, .inl ⟨SqL.of upd_same, fun pt hpt => ?_⟩⟩
    rw [sort2] at hzs
    have hF2 : ((E0.map norm).take (i + 1)).map dE = ((E0.map norm).take i).map dE ++ [dE (norm e)] := by
      rw [List.take_add_one, List.map_append, List.getElem?_map, he]; rfl
    exact lcp_put0 hD3 I ((same_upd hps).trans (same_upd hpt)) (dp_newT hpt (dpa_same (same_upd hps) hzs)) rfl hF2 (by rw [List.length_map, List.length_take, List.length_map, sizeLine_eq]; omega)
  intro H8 I8
  obtain ⟨s8, dl8, _⟩ := lcp_end I8
  have e8 : (E0.map norm).take tx.length = E0.map norm := by rw [List.take_of_length_le (by rw [List.length_map]; omega)]
  rw [e8] at dl8
  refine ⟨_, E0.map norm, rfl, .inl dl8, fun y _ z _ => dataLe_dE y z, alike_dE _, sortable_dE _, fun _ _ => Nat.le_trans shp_dE.2 (by decide), fun p9 zs hp9 hzs => ⟨_, _, rfl, ?_⟩⟩
  have s9 := s8.trans (same_upd (o := .lst zs) hp9)
  have hk9 : upd H8 p9 (.lst zs) p9 = some (.lst zs) := upd_same
  have dk9 : DpAll K (upd H8 p9 (.lst zs)) zs ((normed E0).map dE) := dpa_same (same_upd hp9) hzs
  have s19 := s17.trans s9
  have db9 := dp_same s9 dback
  have sF9 : Same H4 (upd H8 p9 (.lst zs)) := (s5.trans s7).trans s9
  generalize upd H8 p9 (.lst zs) = H9 at s9 hk9 dk9 s19 db9 sF9 ⊢
  have hF9 := hF.same sF9
  -- not renamed(fresh, back).is_same(net) or not renamed(order=names, railway=net).is_same(fresh)
  refine ⟨_, rfl, _, rfl, fr, n, _, .ref pb, dR (inv n os), rfl, hF9, db9, fun hno => (by rw [isOrd_of (inv_perm hp)] at hno; cases hno), fun os' _ hos' hp' H10 br s10 hbr hB => ?_⟩
  obtain rfl := dR_inj hos'
  obtain ⟨_, dxb, _, _, _, _, _, hbi, _⟩ := id hB
  have s110 := s19.trans s10
  refine ⟨br, _, _, rfl, hbi, by rfl, _, rfl, br, r, n, n, _, E0, rfl, hB, hR.same s110, fun H11 s11 => ⟨_, rfl, iff_f ?_ ?_⟩⟩
  · rw [back_tracks t hp]; simp
  have s111 := s110.trans s11
  refine ⟨_, rfl, _, rfl, rfl, rfl, rfl, r, n, E0, .ref np, dR os, rfl, hR.same s111, dnp s111, fun hno => (by rw [yes] at hno; cases hno), fun os' _ hos' hp' H12 br2 s12 hbr2 hB2 => ?_⟩
  obtain rfl := dR_inj hos'
  obtain ⟨_, dxb2, _, _, _, _, _, hbi2, _⟩ := id hB2
  refine ⟨br2, _, _, rfl, hbi2, by rfl, _, rfl, br2, fr, n, n, _, _, rfl, hB2, (hF9.same ((s10.trans s11).trans s12)), fun H13 s13 => ⟨_, rfl, iff_f (by simp) ?_⟩⟩
  have s113 := (s111.trans s12).trans s13
  -- repr(net.tracks) == repr(tuple(kept))
  refine ⟨_, rfl, r, _, _, rfl, s113 _ _ hri, r, n, E0, rfl, hR.same s113, fun H14 v14 s14' d14 => ⟨v14, _, rfl, d14, ⟨2, 85000, small t, by decide, by decide⟩, ?_⟩⟩
  have sK := (((s10.trans s11).trans s12).trans s13).trans s14'
  refine ⟨_, rfl, p9, zs, rfl, .inl ⟨SqL.of (sK _ _ hk9), fun pz hpz => ?_⟩⟩
  have dz : Dp K (upd H14 pz (.tup zs)) (.ref pz) (dT (tracksOf n E0)) := by
    rw [tracks_normed t]
    exact dp_newT hpz (dpa_same sK dk9)
  refine ⟨_, _, rfl, dz, ⟨2, 85000, small t, by decide, by decide⟩, rfl, ?_⟩
  have e : decide (V.str (dT (tracksOf n E0)).shown = V.str (dT (tracksOf n E0)).shown) = true := decide_eq_true rfl
  show Q (.bl (decide (V.str (dT (tracksOf n E0)).shown = V.str (dT (tracksOf n E0)).shown))) _
  rw [e]
  exact q _ ((s113.trans s14').trans (same_upd hpz))
theorem k__law_right {w : World} {K : PySem.W.Frag} {mg : Str → Option Value} {base : Heap} (T : Tx K mg) : Cl PP w K mg base 8 "_law_right" (sp__law_right K) := by
  obtain ⟨fd, F⟩ := f__law_right T
  refine ⟨?_, g__law_right T, F.kp⟩
  refine (a__law_right T F).pos0 (FunD.bindsN F fun _ _ _ _ _ _ us hl => match us, hl with | [_, _, _], _ => rfl) (fun vs H Q E h => ?_)
  obtain ⟨_, _, _, _, _, _, _, rfl, _⟩ := h
  rfl
end TT
namespace TT
open PySem PySem.Spec PyProof.Rows L2
open He (ga ma)
def sp_law (K : PySem.W.Frag) : Sp := fun vs H Q E => ∃ (a : Addr) (ns : List Int), vs = [.ref a] ∧ SqL K H a (ns.map V.int) ∧ ns.length ≤ 63 ∧ ∀ H', Q (.bl true) H'
theorem sc_law : FnScope ["script", "draw", "turn", "tracks", "net", "names", "again"] ["script"] (defScope s_law) := ⟨rfl, rfl, rfl, by decide +kernel, rfl, by decide +kernel, by decide +kernel⟩
theorem a_law {w : World} {K : PySem.W.Frag} {mg : Str → Option Value} {base : Heap} (T : Tx K mg) {fd : FuncData} (F : FunD K "law" "law" (defArgs s_law) (defBody s_law) (defScope s_law) (d_law.dvs K) [] (ga K "law") fd) : FnA PP w K mg base 9 (ga K "law") fd ["script"] (sp_law K) := by
  refine fnA_of F sc_law fun cdv A outer s H vs Q E hr h => ?_
  have nd := sc_law.nd
  obtain ⟨a, ns, rfl, h⟩ := h
  refine ⟨_, (pss_cons (zset 1 nd (pc_call (k__law_begin T) (hr.mono (by decide)) rfl pX (pa_cons (pv 0) pa_nil)))
      (pss_cons (ps_for poX rfl (pi_range1 rfl (u_range T) (pa_cons (zb (call_min2 rfl) rfl (u_min T) (pa_cons pe_int (pa_cons (pe_op op_add pe_int (zb (r := rLenA K) call_len rfl (u_len T) (pa_cons (pv 0) pa_nil))) pa_nil))) pa_nil)) (zg 2 nd) (pss_cons (zset 3 nd (pc_call (k__law_tracks T) (hr.mono (by decide)) rfl pX (pa_cons (pv 1) (pa_cons (pe_ix (r := rIxL K) ix_list (pe_lst (pa_cons pe_int (pa_cons pe_int (pa_cons pe_int pa_nil)))) (pc_call (k__law_next T) (hr.mono (by decide)) rfl pX (pa_cons (pv 1) (pa_cons pe_int pa_nil))) (fun _ _ => rfl)) pa_nil))))
      (pss_cons (ps_par (i := 4) (j := 5) rfl nd rfl rfl (by decide) rfl rfl (pa_cons (pc_cm (zcl rfl (g_Railway T)) (k_Railway_of T) (hr.mono (by decide)) pX (pa_cons (pv 3) pa_nil)) (pa_cons (pc_call (k__law_order T) (hr.mono (by decide)) rfl pX (pa_cons (pv 1) (pa_cons (pe_op op_add (zb (r := rLenA K) call_len rfl (u_len T) (pa_cons (pv 3) pa_nil)) pe_int) pa_nil))) pa_nil)) rfl)
      (pss_cons (ps_if (pt_not (pt_val (pc_call (k__law_right T) (hr.mono (by decide)) rfl pX (pa_cons (pv 4) (pa_cons (pv 3) (pa_cons (pv 5) pa_nil)))))) (pss_one (ps_ret pe_bl)) pss_nil)
      (pss_one (ps_for poX rfl (pi_range1 rfl (u_range T) (pa_cons pe_int pa_nil)) (zg 6 nd) (pss_one (ps_if (pt_not (pt_val (pc_call (k__law_refused T) (hr.mono (by decide)) rfl pX (pa_cons (pv 4) (pa_cons (pc_call (k__law_no_order T) (hr.mono (by decide)) rfl pX (pa_cons (pv 1) (pa_cons (pv 5) pa_nil))) pa_nil))))) (pss_one (ps_ret pe_bl)) pss_nil))))))))
      (pss_one (ps_ret pe_bl)))), ?_⟩
  obtain ⟨hS, hlen, q⟩ := h
  have p58 : (2 : Nat) ^ 58 = 288230376151711744 := by decide
  have p59 : (2 : Nat) ^ 59 = 576460752303423488 := by decide
  -- draw = _law_begin(script)
  refine ⟨_, rfl, a, ns, rfl, hS, hlen, fun H1 d c s1 hd hc D1 => ?_⟩
  have hS1 := s1.seq hS
  -- for turn in range(min(10, 4 + len(script)))
  refine ⟨_, rfl, _, (ns.map V.int).length, rfl, .inl ⟨_, hS1, rfl⟩, _, _, rfl, rfl, _, _, rfl, _, rfl, ?_, ?_, for_range (fun i σ H' => ∃ v2 v3 v4 v5 v6 : Option V, σ = [some (.ref a), some (.ref d), v2, v3, v4, v5, v6] ∧ Drw H' d c (1000 * i)) ⟨none, none, none, none, none, rfl, D1⟩ ?_ ?_⟩
  · split <;> omega
  · split <;> omega
  · rintro i σ H2 hi ⟨v2, v3, v4, v5, v6, rfl, D2⟩
    have hi10 : i < 10 := by
      have : (if 10 > 4 + (((ns.map V.int).length : Nat) : Int) then 4 + (((ns.map V.int).length : Nat) : Int) else 10) ≤ 10 := by split <;> omega
      omega
    -- tracks = _law_tracks(draw, [4, 12, 30][_law_next(draw, 3)])
    refine ⟨_, rfl, by show 3 ≤ sizeLine; decide, fun p3 hp3 => ⟨_, rfl, d, c, 3, 1000 * i, rfl, D2.same (same_upd hp3), by decide, by decide, by omega, fun H3 r3 x3 D3 l3 u3 => ?_⟩⟩
    obtain ⟨j, rfl⟩ : ∃ j : Nat, r3 = (j : Int) := ⟨r3.toNat, by omega⟩
    obtain ⟨mo, hmo, m0, m1⟩ : ∃ mo : Nat, ([V.int 4, V.int 12, V.int 30] : List V)[j]? = some (V.int (mo : Int)) ∧ 0 < mo ∧ mo ≤ 30 := by
      have : j = 0 ∨ j = 1 ∨ j = 2 := by omega
      rcases this with rfl | rfl | rfl
      · exact ⟨4, rfl, by decide, by decide⟩
      · exact ⟨12, rfl, by decide, by decide⟩
      · exact ⟨30, rfl, by decide, by decide⟩
    have hp3d : p3 ≠ d := by
      obtain ⟨⟨o2, ho2⟩, _⟩ := D2.there
      exact (ne_of_none ho2 hp3).symm
    refine ⟨p3, _, _, _, rfl, rfl, SqL.of (x3 _ _ upd_same hp3d), atI_nat hmo, d, c, mo, _, rfl, D3, m0, by omega, by omega, fun H4 tp n E0 x4 htp ht t hn D4 => ?_⟩
    obtain ⟨tp0, tx, ett, hts, htd⟩ := dp_tup ht
    cases ett
    have htxl : tx.length + 1 = n := by rw [dpa_len htd, List.length_map]; exact t.len
    -- net, names = Railway.of(tracks), _law_order(draw, len(tracks) + 1)
    refine ⟨rfl, _, rfl, tp, n, E0, rfl, ht, t, fun H5 r s5 hr0 hR5 => ?_⟩
    refine ⟨_, rfl, _, rfl, _, tx.length, rfl, .inr ⟨tx, same_seqT s5 hts, rfl⟩, _, _, rfl, rfl, d, c, tx.length + 1, _, rfl, D4.same s5, by omega, by omega, fun H6 np os o x6 hnp0 hnp hod hp D6 => ⟨_, _, rfl, ?_⟩⟩
    rw [htxl] at hp
    have hrd : r ≠ d := by
      obtain ⟨⟨o4, ho4⟩, _⟩ := D4.there
      exact (ne_of_none ho4 hr0).symm
    have D5 := D4.same s5
    have hR6 := hR5.kp (x6.kp D5.no) fun o2 h2 => x6 _ _ h2 hrd
    have ht6 := dp_kp (x6.kp D5.no) (dp_same s5 ht)
    have hnpd : np ≠ d := by
      obtain ⟨⟨o5, ho5⟩, _⟩ := D5.there
      exact (ne_of_none ho5 hnp0).symm
    -- if not _law_right(net, tracks, names)
    refine ⟨_, rfl, _, rfl, _, rfl, r, tp, np, n, E0, os, o, rfl, hR6, ht6, hnp, hod, hp, fun H7 s7 => ⟨true, rfl, iff_f rfl ?_⟩⟩
    have hn0 : 0 < n := by omega
    -- for again in range(4)
    refine ⟨4, rfl, by decide, by decide, for_range (fun k σ H' => ∃ v6 : Option V, σ = [some (.ref a), some (.ref d), some (.int (0 + (i : Int))), some (.ref tp), some (.ref r), some (.ref np), v6] ∧ Drw H' d c (1000 * i + 610 + 2 * k) ∧ RwAt K H' r n E0 ∧ H' np = some (.frz o (.tup (vN os))))
      ⟨_, rfl, (D6.same s7).mono (by omega), hR6.same s7, s7 _ _ hnp⟩ ?_ ?_⟩
    · rintro k σ H8 hk ⟨v6, rfl, D8, hR8, hnp8⟩
      have hk4 : k < 4 := hk
      refine ⟨_, rfl, _, rfl, _, rfl, d, c, .ref np, os, n, _, rfl, D8, .tup (.inl (.inr ⟨o, hnp8⟩)) (vN_dp os), hp, hn0, by omega, by omega, fun H9 v' d' x9 dv hno D9 => ?_⟩
      obtain ⟨h1, kk, ww, h2, h3, h4⟩ := hno
      have hR9 := hR8.kp (x9.kp D8.no) fun o2 h2 => x9 _ _ h2 hrd
      refine ⟨r, n, E0, v', d', kk, ww, rfl, hR9, dv, h1, h2, h3, h4, fun H10 s10 => ⟨true, rfl, iff_f rfl ?_⟩⟩
      exact ⟨_, rfl, (D9.same s10).mono (by omega), hR9.same s10, s10 _ _ (x9 _ _ hnp8 hnpd)⟩
    · rintro σ H8 ⟨v6, rfl, D8, _⟩
      exact ⟨_, _, _, _, _, rfl, D8.mono (by simp; omega)⟩
  · rintro σ H2 ⟨v2, v3, v4, v5, v6, rfl, D2⟩
    exact q _
theorem k_law {w : World} {K : PySem.W.Frag} {mg : Str → Option Value} {base : Heap} (T : Tx K mg) : Cl PP w K mg base 9 "law" (sp_law K) := by
  obtain ⟨fd, F⟩ := f_law T
  refine ⟨?_, g_law T, F.kp⟩
  refine (a_law T F).pos0 (FunD.bindsN F fun _ _ _ _ _ _ us hl => match us, hl with | [_], _ => rfl) (fun vs H Q E h => ?_)
  obtain ⟨_, _, rfl, _⟩ := h
  rfl
end TT
namespace TT
open PySem PySem.Spec PyProof.Rows L2
abbrev RR : PySem.W.OpenRow := PySem.W.OpenLaw.row PySem.Challenge.rw_treetrain_k37_renamed_railways
abbrev qv : Program := PySem.W.view RR.prog [43]
def nms : List PySem.Str := (["_wall", "RailError", "InvalidTracks", "InvalidStation", "InvalidOrder", "InvalidCount", "InvalidText", "RunError", "MissingError", "RAILWAY_WORD", "TRACK_WORD", "MOST_SIZE", "MOST_DIGITS", "DIGITS", "integer_of", "rows_of", "words_at", "check_word", "integer_at", "check_end", "check_rows", "tracks_in_rows", "tracks_in", "is_integer", "is_track", "track_faults", "hops_from", "Railway", "is_order", "renamed"] : List PySem.Str) ++ (["_law_begin", "_law_mixed", "_law_next", "_law_tracks", "_law_refused", "_law_order", "_law_no_order", "_law_right"] : List PySem.Str)
abbrev hk : PySem.W.Hook := hookA 7 [cStatics] fal fnl
def obT (s : PySem.W.SharedT) : AlA := obAG 7 [cStatics] fal fnl (HandSHeadRun.getT s)
theorem obT_eq (s : PySem.W.SharedT) : obT s = hk.obs s.abs := obAG_eq (HandSHeadRun.getT_eq s)
theorem runT (w : World) : HandSHeadRun.RunEq RR qv hk obT 20000 nms w := by
  intro os
  kernel_rfl
theorem rmTop : Rm 9 callerA := ⟨⟨rfl, by decide, by decide⟩, rfl⟩
end TT
open PySem PySem.W PySem.Calls PyProof.Rows in
set_option maxHeartbeats 0 in
theorem PySem.Challenge.cw_treetrain_k37_renamed_railways_holds : PySem.Challenge.rw_treetrain_k37_renamed_railways.Holds := by
  w_on; o_law
  refine HandSHeadRun.head_any (r := OpenLaw.row PySem.Challenge.rw_treetrain_k37_renamed_railways) (q := TT.qv) (H := TT.hk) (ob := TT.obT) (M := 20000) (loose := TT.nms) (d := HandSHeadRun.topDef (OpenLaw.row PySem.Challenge.rw_treetrain_k37_renamed_railways).prog 43) (kwd := []) TT.obT_eq
    (by kernel_rfl) (fun s => by kernel_rfl) TT.runT (by kernel_rfl) (by kernel_rfl) (by kernel_rfl) (by rfl) (by first | assumption | decide +kernel) (by decide +kernel) ⟨rfl, rfl, rfl, rfl, rfl, by decide +kernel⟩ ?hw ?hc
  case hw => w_witness2
  case hc =>
    refine TT.law_walk (l := PySem.Challenge.rw_treetrain_k37_renamed_railways) (n := 63) (k := 9) rfl (by decide) (by kernel_rfl) TT.rmTop ?F
    intro w mg f h Y G hmg0
    obtain ⟨K, KX, c⟩ := Y
    have hmg : mg ("law" : PySem.Str) = some (.ref f) := by
      have e : (HandSHeadRun.topDef (OpenLaw.row PySem.Challenge.rw_treetrain_k37_renamed_railways).prog 43).name = ("law" : PySem.Str) := by kernel_rfl
      rw [← e]
      exact hmg0
    have T : TT.Tx K mg := ⟨⟨h, KX, G⟩, c⟩
    have e := hmg.symm.trans (TT.g_law T)
    cases e
    exact ⟨K, TT.sp_law K, KX, fun H a ns hl _ _ hS => ⟨a, ns, rfl, hS, hl, fun _ => rfl⟩, fun base _ _ => (TT.k_law (w := w) (base := base) T).f⟩

