import PyProof.Rows.All
import Wide.All
import OpenK.AllK
import Wide.FinOn
import PyProof.EqAt
import PyProof.EqKinds
import PyProof.TupleCall
import KE.KOpsOwn
import HandS.ForMost
import HandS.Exc
import HandS.WordsExc
import HandS.Defaults
import HandS.Wide
import HandS.Slots
import HandS.SlotsOwn
import HandS.IsInst
import HandS.Zip
import PyProof.FactsAll.int_1
import HandS.Flow
import HandS.Walk
import HandS.FStr
import KE.KUnpackStar
import HandS.Star
import HandS.ClsMeth
import HandS.Codes
import HandS.Text
import HandS.Iter
import HandS.More
import KE.KExcSuper
import KE.KSuper
import HandS.ExcInit
import KE.KStateDown
import Lean
import HandS.Head0
import HandS.Head1
import HandS.Head2
import HandS.HeadEnd
import HandS.HeadHook1
import HandS.HeadHook2
import HandS.Ends
import HandS.CallSlots
import HandS.ExcField
import KE.KExcIs
import HandS.ExcIs
import HandS.TupAny
import HandS.RaiseMore
import HandS.Small
import HandS.DictComp
import HandS.SetBool
import HandS.SetKeys
import HandS.SetTxt0
import HandS.SetFor
import HandS.TryOnly
import HandS.Property
import HandS.Style
import PySem.Challenge.RW_hoverrest_k00_errors_by_themselves
set_option Elab.async false
set_option linter.all false
set_option maxRecDepth 100000
set_option maxHeartbeats 0
/-! HA: calls that know that no repr is under way (the room bears it); a def by its body; calls by name; makers; methods, properties of slotted instances. -/
namespace Hv
open PySem PySem.Spec PyProof.Rows L2
structure RoomG (k : Nat) (A : Around) : Prop where
  r : Room k A
  g : A.guards = some []
theorem RoomG.mono {j k : Nat} {A : Around} (x : RoomG k A) (h : j ≤ k) : RoomG j A := ⟨x.r.mono h, x.g⟩
theorem RoomG.deeper {k : Nat} {A : Around} (x : RoomG (k + 1) A) (env : Env) : RoomG k (A.deeper env) := ⟨x.r.deeper env, x.g⟩
theorem RoomG.in1 {k : Nat} {A : Around} (x : RoomG (k + 1) A) : RoomG k A.in1 := ⟨x.r.in1, x.g⟩
theorem RoomG.make {k : Nat} {A : Around} (x : RoomG (k + 1) A) (C : Addr) (us : List Value) (kw : List (Str × Value)) :
    RoomG k (A.under (.builtin "type.__call__" ⟨.ref C :: us, kw⟩)) := by
  refine ⟨x.r.make C us kw, ?_⟩
  have h : (Code.builtin "type.__call__" ⟨.ref C :: us, kw⟩).isGuard = false := by
    show guardIds.contains "type.__call__" = false
    decide +kernel
  simp [Around.under, Code.guards, h, pushGuards, x.g]
/-- a promise by positional values, of a callee that runs while no repr is under way -/
def FnG (P : Program) (w : World) (K : PySem.W.Frag) (mg : Str → Option Value) (base : Heap) (k : Nat) (f : Addr) (sp : Sp) : Prop :=
  ∀ (A : Around) (outer : List Env) (s : Shared) (H : Hp) (us : List Value) (vs : List V) (Q : VK) (E : XK),
    RoomG k A → Env0 P w K mg base A outer s H → Vals vs us → sp vs H Q E →
    codeAny (model P w) A (.call (.ref f) ⟨us, []⟩) (CR (L2.CX P w) outer P w H s Q E) s
section
variable {P : Program} {w : World} {K : PySem.W.Frag} {mg : Str → Option Value} {base : Heap} {j k : Nat} {f : Addr} {sp sp' : Sp}
theorem FnG.mono (F : FnG P w K mg base j f sp) (h : j ≤ k) : FnG P w K mg base k f sp :=
  fun A outer s H us vs Q E hr => F A outer s H us vs Q E (hr.mono h)
theorem FnG.imp (F : FnG P w K mg base k f sp) (h : ∀ vs H Q E, sp' vs H Q E → sp vs H Q E) : FnG P w K mg base k f sp' :=
  fun A outer s H us vs Q E hr e0 r hs => F A outer s H us vs Q E hr e0 r (h _ _ _ _ hs)
/-- a def by its body; dv: the defaults that fill up -/
theorem okG {x qual : Str} {params : Arguments} {body : List Stmt} {scope : Scope} {dvs : List V} {kws : List (Str × V)} {fd : FuncData}
    {N ps : List Str} {dv : List V} {ds : List Value}
    (F : FunD K x qual params body scope dvs kws f fd) (S : FnScope N ps scope) (hb : Binds K fd ps ds) (hd : Vals dv ds)
    (len : ∀ vs H Q E, sp vs H Q E → (vs ++ dv).length = ps.length)
    (hbody : ∀ (cdv : Value) (A : Around) (outer : List Env) (s : Shared) (H : Hp) (vs : List V) (Q : VK) (E : XK),
      RoomG k (A.deeper (envOfC qual scope s.heap.objs.size f cdv)) → sp vs H Q E →
      ∃ t, PSs (cxOf (L2.CX P w) P w K mg base N qual scope f cdv A outer s H E) body t ∧
        t { nx := fun _ H' => Q .non H', rt := Q } (start N (vs ++ dv)) H) :
    FnG P w K mg base (k + 1) f sp := by
  intro A outer s H us vs Q E hr e0 r hs
  obtain ⟨oc, od, dV, kV, doc, pm, an, cdv, ct, osl, rfl, lk, hcd, _, _⟩ := F.ex
  have hl := len _ _ _ _ hs
  have r2 : Vals (vs ++ dv) (us ++ ds) := r.append hd
  have hl2 : (us ++ ds).length = ps.length := by rw [← r2.length]; exact hl
  have KX : K.In s.heap := e0.mod.kin.keeps fun b o e => (e0.bs b o e).1
  have lim : s.heap.NoLimit := e0.mod.nolimit.keeps fun b o e => (e0.bs b o e).1
  refine Att.call_fn KX lim lk hcd hr.r.depth (hb s us KX hl2) ?_ (fun s1 x1 => ?_) S.co S.gen S.kind
  · refine List.all_eq_true.mpr fun y hy => ?_
    rcases S.par y.1 (List.of_mem_zip (a := y.1) (b := y.2) hy).1 with q | q
    · simp [q]
    · simp [q]
  · obtain ⟨t, ht, hq⟩ := hbody cdv A outer s H vs Q E (hr.deeper _) hs
    have I := inv_start (CX := L2.CX P w) (P := P) (w := w) (K := K) (mg := mg) (base := base) (E := E) S hr.r.hd e0 hl r2 x1
    refine wpAny_mono (ht.run [] s1 _ H _ I hq) (fun fl s' z => ?_) fun e s' z => z
    cases fl with
    | ret u =>
      obtain ⟨v, σ', H', J, rv, q⟩ := z
      exact ⟨v, H', J.os, J.bare, J.base, J.hok, rv, q⟩
    | next =>
      obtain ⟨σ', H', J, q⟩ := z
      exact ⟨V.non, H', J.os, J.bare, J.base, J.hok, rfl, q⟩
    | brk =>
      obtain ⟨_, _, _, q⟩ := z
      exact False.elim q
    | cont =>
      obtain ⟨_, _, _, q⟩ := z
      exact False.elim q
end
section
variable {X : Cx} {pins : List (Addr × Obj)} {σ : L2.St} {H : Hp} {s : Shared} {j k n : Nat} {f g C : Addr} {sp spC : Sp} {E : XK} {Q : VK} {us : List Value} {vs : List V}
abbrev PassX (X : Cx) (E : XK) : Prop := Passes (L2.CX X.prog X.w) X E
abbrev FnX (X : Cx) (k : Nat) (f : Addr) (sp : Sp) : Prop := FnG X.prog X.w X.K X.mg X.base k f sp
/-- the callee runs below the running body -/
theorem run_at {A : Around} (F : FnX X k f sp) (hr : RoomG k A) (e0 : Env0 X.prog X.w X.K X.mg X.base A X.stack s H) (hx : PassX X E) (I : Inv X pins σ H s) (r : Vals vs us) (h : sp vs H Q E) :
    codeAny (model X.prog X.w) A (.call (.ref f) ⟨us, []⟩) (fun r s' => match r with | .ok (.ret v) => EP X pins σ Q v s' | .ok _ => False | .error e => X.xe e s') s := by
  refine codeAny_mono (F A X.stack s H us vs Q E hr e0 r h) fun r s' z => ?_
  cases r with
  | error e => exact hx pins σ H s e s' I z
  | ok fl =>
    cases fl with
    | ret u => exact I.after z
    | next => exact False.elim z
    | brk => exact False.elim z
    | cont => exact False.elim z
theorem run_g (F : FnX X k f sp) (hr : RoomG k X.A) (hx : PassX X E) (I : Inv X pins σ H s) (r : Vals vs us) (h : sp vs H Q E) :
    codeAny (model X.prog X.w) X.A (.call (.ref f) ⟨us, []⟩) (fun r s' => match r with | .ok (.ret v) => EP X pins σ Q v s' | .ok _ => False | .error e => X.xe e s') s :=
  run_at F hr I.env0 hx I r h
theorem noX {P : Program} {w : World} {outer : List Env} {H : Hp} {s s' : Shared} {e : Value} (h : L2.CX P w outer H s E0 e s') : False := by
  obtain ⟨_, _, _, _, _, _, _, _, _, _, _, _, z⟩ := h
  exact z
/-- the module's name x is a def with a promise -/
structure GF (P : Program) (w : World) (K : PySem.W.Frag) (mg : Str → Option Value) (base : Heap) (k : Nat) (x : Str) (sp : Sp) : Prop where
  ex : ∃ f, mg x = some (.ref f) ∧ PySem.W.keepIn K (.ref f) = true ∧ FnG P w K mg base k f sp
abbrev GFX (X : Cx) (k : Nat) (x : Str) (sp : Sp) : Prop := GF X.prog X.w X.K X.mg X.base k x sp
def tCal (sp : Sp) (E : XK) (t : TA) : TE := fun σ H Q => t σ H fun vs H1 => sp vs H1 Q E
variable {x m : Str} {p pos apos : Pos} {e o : Expr} {es : List Expr} {ta : TE} {t : TA}
theorem pg_call (c : GFX X k x sp) (hr : RoomG j X.A) (hj : k ≤ j) (hg : Gl X x) (hx : PassX X E) (ha : PA X (e :: es) t)
    (hdb : (x == ("__debug__" : Str)) = false := by decide) (he : starEach (e :: es) X.env = (false, eval e X.env) :: starEach es X.env := by rfl)
    (hpl : (backTo pos (starEach es X.env)).any (·.1) = false := by rfl) : PE X (.Call (.Name x p) (e :: es) [] pos) (tCal sp E t) := by
  obtain ⟨f, hm, hk, F⟩ := c.ex
  refine ⟨fun pins s σ H Q I h => ?_⟩
  refine wpAny_Call_Name_kw (ld_glob I hg hm ?_ hdb)
  refine PySem.W.callWith_K (h₀ := X.base) I.ok.mod.kin hk (thn (ha.run pos pins s σ H _ I h) fun us s1 ⟨vs, H1, I1, r, q⟩ => ⟨I1.kIn, ?_⟩) he hpl
  exact wpAny_call (run_g F (hr.mono hj) hx I1 r q)
theorem pg_call0 (c : GFX X k x sp) (hr : RoomG j X.A) (hj : k ≤ j) (hg : Gl X x) (hx : PassX X E) (hdb : (x == ("__debug__" : Str)) = false := by decide) :
    PE X (.Call (.Name x p) [] [] pos) (tCal sp E tNil) := by
  obtain ⟨f, hm, hk, F⟩ := c.ex
  refine ⟨fun pins s σ H Q I h => ?_⟩
  refine wpAny_Call_Name_kw (ld_glob I hg hm ?_ hdb)
  exact PySem.W.callWith_K0 I.kIn hk (wpAny_call (run_g (us := []) F (hr.mono hj) hx I .nil h))
/-- the module's name x is a class; spC: what making an instance promises -/
structure GM (P : Program) (w : World) (K : PySem.W.Frag) (mg : Str → Option Value) (base : Heap) (k : Nat) (x : Str) (spC : Sp) : Prop where
  ex : ∃ C f sp, mg x = some (.ref C) ∧ Mk K C f ∧ FnG P w K mg base k f sp ∧ ∀ vs H Q E, spC vs H Q E →
    ∀ a dx, H a = none → H dx = none → dx ≠ a → sp (.ref a :: vs) (upd (upd H dx (.own a)) a (.ins C dx [])) (fun v H2 => v = .non ∧ Q (.ref a) H2) E
abbrev GMX (X : Cx) (k : Nat) (x : Str) (sp : Sp) : Prop := GM X.prog X.w X.K X.mg X.base k x sp
theorem run_mk {C f : Addr} {sp : Sp} (M : Mk X.K C f) (F : FnX X k f sp) (hr : RoomG (k + 1) X.A) (hx : PassX X E) (I : Inv X pins σ H s) (r : Vals vs us)
    (h : ∀ a dx, H a = none → H dx = none → dx ≠ a → sp (.ref a :: vs) (upd (upd H dx (.own a)) a (.ins C dx [])) (fun v H2 => v = .non ∧ Q (.ref a) H2) E) :
    wpAny (model X.prog X.w) X.A (call (.ref C) us) (EP X pins σ Q) X.xe s := by
  have q := h (s.heap.objs.size + 1) s.heap.objs.size (I.hok.fresh (Nat.le_succ _)) (I.hok.fresh (Nat.le_refl _)) (Nat.ne_of_lt (Nat.lt_succ_self _))
  have I2 := Inv.made (C := C) I
  refine wpAny_call (make_map (f := f) I.kIn M.makes M.init (beq_iff_eq.mp M.fn) (codeAny_mono
    (run_at (us := Value.ref (s.heap.objs.size + 1) :: us) (vs := V.ref (s.heap.objs.size + 1) :: vs) F (hr.make C us []) (I2.env0.make C us []) hx I2 (.cons rfl r) q) fun r s' z => ?_))
  cases r with
  | error e => exact z
  | ok fl =>
    cases fl with
    | ret u =>
      obtain ⟨v, H', I3, rv, ev, q3⟩ := z
      subst ev
      exact ⟨rv, ⟨V.ref (s.heap.objs.size + 1), H', I3, rfl, q3⟩⟩
    | next => exact False.elim z
    | brk => exact False.elim z
    | cont => exact False.elim z
theorem pg_make (c : GMX X k x spC) (hr : RoomG j X.A) (hj : k + 1 ≤ j) (hg : Gl X x) (hx : PassX X E) (ha : PA X (e :: es) t)
    (hdb : (x == ("__debug__" : Str)) = false := by decide) (he : starEach (e :: es) X.env = (false, eval e X.env) :: starEach es X.env := by rfl)
    (hpl : (backTo pos (starEach es X.env)).any (·.1) = false := by rfl) : PE X (.Call (.Name x p) (e :: es) [] pos) (tCal spC E t) := by
  obtain ⟨C, f, sp, hm, M, F, imp⟩ := c.ex
  refine ⟨fun pins s σ H Q I h => ?_⟩
  refine wpAny_Call_Name_kw (ld_glob I hg hm ?_ hdb)
  refine PySem.W.callWith_K (h₀ := X.base) I.ok.mod.kin M.kp (thn (ha.run pos pins s σ H _ I h) fun us s1 ⟨vs, H1, I1, r, q⟩ => ⟨I1.kIn, ?_⟩) he hpl
  exact run_mk M F (hr.mono hj) hx I1 r (imp _ _ _ _ q)
theorem pg_make0 (c : GMX X k x spC) (hr : RoomG j X.A) (hj : k + 1 ≤ j) (hg : Gl X x) (hx : PassX X E) (hdb : (x == ("__debug__" : Str)) = false := by decide) :
    PE X (.Call (.Name x p) [] [] pos) (tCal spC E tNil) := by
  obtain ⟨C, f, sp, hm, M, F, imp⟩ := c.ex
  refine ⟨fun pins s σ H Q I h => ?_⟩
  refine wpAny_Call_Name_kw (ld_glob I hg hm ?_ hdb)
  exact PySem.W.callWith_K0 I.kIn M.kp (run_mk (us := []) M F (hr.mono hj) hx I .nil (imp _ _ _ _ h))
/-! ### methods and properties of instances with slots -/
open SlX
theorem pg_meth {pl : Sem Bool} (he : PE X o ta) (c : SCls X.K C) (hm : Meth X.K C m g) (F : FnX X k g sp) (hr : RoomG j X.A) (hj : k ≤ j) (hx : PassX X E) (ha : PA X (e :: es) t)
    (hst : starEach (e :: es) X.env = (false, eval e X.env) :: starEach es X.env := by rfl) (hpl : (backTo pos (starEach es X.env)).any (·.1) = false := by rfl)
    (ht : eval (.Call (.Attribute o m apos) (e :: es) [] pos) X.env = (do
      let ov ← eval o X.env
      standAt apos.atName
      let (f, first) ← holding [ov] (getMethod ov m pl)
      callWith pos f first (backTo pos (starEach (e :: es) X.env)) (backToKw pos (keywordEach [] X.env))) := by rfl) :
    PE X (.Call (.Attribute o m apos) (e :: es) [] pos) (tMethSl C sp E ta t) := by
  refine ⟨fun pins s σ H Q I h => ?_⟩
  refine PySem.W.methodCall_KW (pl := pl) (thn (he.run pins s σ H _ I h) fun u s1 ⟨x, H1, I1, rx, a, dx, vs, ex, hsl, q⟩ => ?_) ht
  subst ex
  obtain rfl : u = Value.ref a := rx
  refine getmethsl_ok I1 hsl c hm ?_
  refine PySem.W.callWith_K (first := [.ref a]) (h₀ := X.base) I.ok.mod.kin hm.kp (thn (ha.run pos pins s1 σ H1 _ I1 q) fun us s2 ⟨ws, H2, I2, r, q2⟩ => ⟨I2.kIn, ?_⟩) hst hpl
  exact wpAny_call (run_g (us := .ref a :: us) (vs := .ref a :: ws) F (hr.mono hj) hx I2 (.cons rfl r) q2)
theorem pg_meth0 {pl : Sem Bool} (he : PE X o ta) (c : SCls X.K C) (hm : Meth X.K C m g) (F : FnX X k g sp) (hr : RoomG j X.A) (hj : k ≤ j) (hx : PassX X E)
    (ht : eval (.Call (.Attribute o m apos) [] [] pos) X.env = (do
      let ov ← eval o X.env
      standAt apos.atName
      let (f, first) ← holding [ov] (getMethod ov m pl)
      callWith pos f first (backTo pos (starEach [] X.env)) (backToKw pos (keywordEach [] X.env))) := by rfl) :
    PE X (.Call (.Attribute o m apos) [] [] pos) (tMethSl C sp E ta tNil) := by
  refine ⟨fun pins s σ H Q I h => ?_⟩
  refine PySem.W.methodCall_KW (pl := pl) (thn (he.run pins s σ H _ I h) fun u s1 ⟨x, H1, I1, rx, a, dx, vs, ex, hsl, q⟩ => ?_) ht
  subst ex
  obtain rfl : u = Value.ref a := rx
  refine getmethsl_ok I1 hsl c hm ?_
  exact PySem.W.callWith_K0 (first := [.ref a]) I1.kIn hm.kp (wpAny_call (run_g (us := [.ref a]) (vs := [.ref a]) F (hr.mono hj) hx I1 (.cons rfl .nil) q))
/-- the class has the name as a property at pr whose getter is the def at g -/
structure PropG (K : PySem.W.Frag) (C : Addr) (f : Str) (pr g : Addr) : Prop where
  at_ : PySem.W.findIn K (.ref C) f = some (some (.ref pr))
  get : PySem.W.specialIn K (.ref pr) "__get__" = some (some (.builtin "property.__get__"))
  tk : PySem.W.takesIn K (.ref pr) = some true
  rc : ∃ rest, PySem.W.recIn K pr "property" = some (.ref g :: rest)
theorem getprop {b : Bool} {a dx pr : Addr} {ws : List (Option V)} {nm : Str} (I : Inv X pins σ H s) (h : Slt H a C dx ws) (c : SCls X.K C) (hp : PropG X.K C nm pr g) (F : FnX X n g sp) (hr : RoomG (n + 1) X.A)
    (q : sp [.ref a] H Q E0) : wpAny (model X.prog X.w) X.A (getAttr (.ref a) nm b) (EP X pins σ Q) X.xe s := by
  obtain ⟨sl, od, _, J, _⟩ := slt_inst I h
  obtain ⟨rest, hrec⟩ := hp.rc
  have I1 : Inv X pins σ H { s with toks := s.toks + 1 } := I.tok (s.toks + 1)
  refine PySem.W.get_bind I.kIn J (PySem.W.plainGet_of (c.get nm)).1 (PySem.W.findObj_data c.ic hp.at_ hp.get hp.tk) (PySem.W.plainGet_of (c.get nm)).2
    (wpAny_call (PySem.W.prop_get (s := { s with toks := s.toks + 1 }) I.kIn hrec ?_))
  refine codeAny_mono (F X.A.in1 X.stack { s with toks := s.toks + 1 } H [.ref a] [.ref a] Q E0 hr.in1 I1.env0.in1 (.cons rfl .nil) q) fun r s' z => ?_
  cases r with
  | error e => exact (noX z).elim
  | ok fl =>
    cases fl with
    | ret u =>
      obtain ⟨v, H', I2, rv, q⟩ := I1.after z
      exact wpAny_of_eq (PySem.W.handedOut_of (handed_of rv)) ⟨v, H', I2, rv, q⟩
    | next => exact False.elim z
    | brk => exact False.elim z
    | cont => exact False.elim z
def tPr (C : Addr) (sp : Sp) (ta : TE) : TE := fun σ H Q => ta σ H fun x H1 => ∃ a dx vs, x = .ref a ∧ Slt H1 a C dx vs ∧ sp [.ref a] H1 Q E0
theorem pg_prop {pr : Addr} {nm : Str} (he : PE X e ta) (c : SCls X.K C) (hp : PropG X.K C nm pr g) (F : FnX X n g sp) (hr : RoomG j X.A) (hj : n + 1 ≤ j)
    (hb : attributeBase e nm X.env (eval e X.env) = eval e X.env := by rfl) : PE X (.Attribute e nm pos) (tPr C sp ta) := by
  refine ⟨fun pins s σ H Q I h => ?_⟩
  refine attr_of hb (thn (he.run pins s σ H _ I h) fun w s1 ⟨x, H1, I1, rx, a, dx, vs, ex, hs, q⟩ => ?_)
  subst ex
  obtain rfl : w = Value.ref a := rx
  exact getprop I1 hs c hp F (hr.mono hj) q
end
end Hv
/-! HB: operators between slotted instances and ints, on either side; abs; powers of great ints. -/
namespace Hv
open PySem PySem.Spec PyProof.Rows L2
open Builtin
abbrev OwnAt (h : Heap) (x C dx : Addr) (sl : Array (Option Value)) : Prop := h.get? x = some { PySem.W.instObj C dx with slots := sl }
abbrev Decl (B : Builtin) : Prop := ∀ (a : Int) (t : Tok) (x C dx : Addr) (sl : Array (Option Value)),
  Meets (B ⟨[.int a t, .ref x], []⟩) (fun _ R s => OwnAt s.heap x C dx sl ∧ R (.ok (.ret Value.notImplemented)) s)
theorem decl_add : Decl Builtin.«int.__add__» := fun _ _ _ _ _ _ =>
  .of_wp fun prog w A R s h => by obtain ⟨hp, g, d, tk, os⟩ := s; obtain ⟨hl, h⟩ := h; wp_walk; exact ⟨_, rfl, h⟩
theorem decl_sub : Decl Builtin.«int.__sub__» := fun _ _ _ _ _ _ =>
  .of_wp fun prog w A R s h => by obtain ⟨hp, g, d, tk, os⟩ := s; obtain ⟨hl, h⟩ := h; wp_walk; exact ⟨_, rfl, h⟩
theorem decl_mul : Decl Builtin.«int.__mul__» := fun _ _ _ _ _ _ =>
  .of_wp fun prog w A R s h => by obtain ⟨hp, g, d, tk, os⟩ := s; obtain ⟨hl, h⟩ := h; wp_walk; exact ⟨_, rfl, h⟩
theorem decl_lt : Decl Builtin.«int.__lt__» := fun _ _ _ _ _ _ =>
  .of_wp fun prog w A R s h => by obtain ⟨hp, g, d, tk, os⟩ := s; obtain ⟨hl, h⟩ := h; wp_walk; exact ⟨_, rfl, h⟩
theorem decl_le : Decl Builtin.«int.__le__» := fun _ _ _ _ _ _ =>
  .of_wp fun prog w A R s h => by obtain ⟨hp, g, d, tk, os⟩ := s; obtain ⟨hl, h⟩ := h; wp_walk; exact ⟨_, rfl, h⟩
theorem decl_gt : Decl Builtin.«int.__gt__» := fun _ _ _ _ _ _ =>
  .of_wp fun prog w A R s h => by obtain ⟨hp, g, d, tk, os⟩ := s; obtain ⟨hl, h⟩ := h; wp_walk; exact ⟨_, rfl, h⟩
theorem decl_ge : Decl Builtin.«int.__ge__» := fun _ _ _ _ _ _ =>
  .of_wp fun prog w A R s h => by obtain ⟨hp, g, d, tk, os⟩ := s; obtain ⟨hl, h⟩ := h; wp_walk; exact ⟨_, rfl, h⟩
theorem decl_eq : Decl Builtin.«int.__eq__» := fun _ _ _ _ _ _ =>
  .of_wp fun prog w A R s h => by obtain ⟨hp, g, d, tk, os⟩ := s; obtain ⟨hl, h⟩ := h; wp_walk; exact ⟨_, rfl, h⟩
theorem decl_ne : Decl Builtin.«int.__ne__» := fun _ _ _ _ _ _ =>
  .of_wp fun prog w A R s h => by obtain ⟨hp, g, d, tk, os⟩ := s; obtain ⟨hl, h⟩ := h; wp_walk; exact ⟨_, rfl, h⟩
/-- what the table says of an int's operator -/
structure IntOp (name : Str) (id : String) (B : Builtin) : Prop where
  slot : Slot "int" name id
  entry : entryFor table id = some B
  args : ∀ a b : Value, argsOk id ⟨[a, b], []⟩
  decl : Decl B
theorem io_add : IntOp (dunder "add") "int.__add__" Builtin.«int.__add__» := ⟨F.slot_int_add, F.entry_int_add, F.args_int_add_2, decl_add⟩
theorem io_sub : IntOp (dunder "sub") "int.__sub__" Builtin.«int.__sub__» := ⟨F.slot_int_sub, F.entry_int_sub, F.args_int_sub_2, decl_sub⟩
theorem io_mul : IntOp (dunder "mul") "int.__mul__" Builtin.«int.__mul__» := ⟨F.slot_int_mul, F.entry_int_mul, F.args_int_mul_2, decl_mul⟩
theorem io_lt : IntOp (cmpInfo .Lt).2.1 "int.__lt__" Builtin.«int.__lt__» := ⟨F.slot_int_lt, F.entry_int_lt, F.args_int_lt_2, decl_lt⟩
theorem io_le : IntOp (cmpInfo .LtE).2.1 "int.__le__" Builtin.«int.__le__» := ⟨F.slot_int_le, F.entry_int_le, F.args_int_le_2, decl_le⟩
theorem io_gt : IntOp (cmpInfo .Gt).2.1 "int.__gt__" Builtin.«int.__gt__» := ⟨F.slot_int_gt, F.entry_int_gt, F.args_int_gt_2, decl_gt⟩
theorem io_ge : IntOp (cmpInfo .GtE).2.1 "int.__ge__" Builtin.«int.__ge__» := ⟨F.slot_int_ge, F.entry_int_ge, F.args_int_ge_2, decl_ge⟩
theorem io_eq : IntOp (cmpInfo .Eq).2.1 "int.__eq__" Builtin.«int.__eq__» := ⟨F.slot_int_eq, F.entry_int_eq, F.args_int_eq_2, decl_eq⟩
theorem io_ne : IntOp (cmpInfo .NotEq).2.1 "int.__ne__" Builtin.«int.__ne__» := ⟨F.slot_int_ne, F.entry_int_ne, F.args_int_ne_2, decl_ne⟩
section
variable {prog : Program} {w : World} {A : Around} {E : Value → Shared → Prop} {s : Shared} {K : PySem.W.Frag} {x C dx f fl : Addr} {sl : Array (Option Value)} {od : Option Obj} {i : Int} {t : Tok} {id : String} {B : Builtin}
open PySem.W
theorem try_declines {name : Str} {Q : Option Value → Shared → Prop} (io : IntOp name id B) (hx : OwnAt s.heap x C dx sl) (h : Q none s) :
    wpAny (model prog w) A (tryMethod (.int i t) name (.ref x)) Q E s :=
  wpAny_tryMethod_declines (typeIs_int s i t) io.slot (call_meets io.slot (typeIs_int s i t) io.entry (io.args _ _) (io.decl i t x C dx sl) ⟨hx, rfl, h⟩)
theorem cmp_declines {name : Str} {Q : Option Value → Shared → Prop} (io : IntOp name id B) (hx : OwnAt s.heap x C dx sl) (h : Q none s) :
    wpAny (model prog w) A (tryCompare (.int i t) name (.ref x)) Q E s :=
  wpAny_tryCompare_declines (typeIs_int s i t) io.slot (call_meets io.slot (typeIs_int s i t) io.entry (io.args _ _) (io.decl i t x C dx sl) ⟨hx, rfl, h⟩)
/-- an int op an instance: the instance's reflected method -/
theorem rev_bin {op : Operator} {Q : Value → Shared → Prop} (X : K.In s.heap) (I : InstAt s.heap x { instObj C dx with slots := sl } C od) (hc : selfFirst K C = true)
    (hl : findIn K (.ref C) (PySem.dunder op.info.2) = some (some (.ref fl))) (hs : findIn K (.ref C) (dunderR op.info.2) = some (some (.ref f))) (hf : isFn K (.ref f) = true)
    (hT : fillsNumberSlot (.type "int") op.info.2 = pure true) (hsub : subIn K (.ref C) (.type "int") = some false) (io : IntOp (PySem.dunder op.info.2) id B)
    (h : wpAny (model prog w) A (call (.ref f) [.ref x, .int i t]) (PySem.W.CmpBack Q) E s) : wpAny (model prog w) A (binaryOp op (.int i t) (.ref x)) Q E s := by
  obtain ⟨cd, rest, hcd, hm⟩ := ksp_first hc
  rcases hi : op.info with ⟨sym, nm⟩
  rw [hi] at hl hs hT io
  dsimp only at hl hs hT io
  have one := ksp_try X I hs hf h
  have dec : ∀ Q' : Option Value → Shared → Prop, Q' none s → wpAny (model prog w) A (tryMethod (.int i t) (PySem.dunder nm) (.ref x)) Q' E s := fun Q' q => try_declines io I.at_ q
  obtain ⟨hh, g, d, tt, os⟩ := s
  have L1 : Looks (model prog w) hh (typeOf (.int i t)) (.type "int") := Looks.of_pure rfl
  have L2 : Looks (model prog w) hh (typeOf (.ref x)) (.ref C) := I.type
  have L3 : Looks (model prog w) hh (fillsNumberSlot (.type "int") nm) true := Looks.of_pure hT
  have L4 : Looks (model prog w) hh (fillsNumberSlot (.ref C) nm) true := fills_K X hcd hm hl
  have L5 : Looks (model prog w) hh (isSubtype (.ref C) (.type "int")) false := looks_subIn X hsub
  have L7 : Looks (model prog w) hh (numberSlotInPython (.type "int") nm) false := Looks.of_pure rfl
  have hne : (Value.type "int" == Value.ref C) = false := Bool.eq_false_iff.mpr fun q => by cases beq_iff_eq.mp q
  simp only [binaryOp, hi]
  refine wpAny_holding (wpAny_bind ?_)
  unfold binaryOp1
  refine wpAny_bind (L1.at (wpAny_bind (L2.at (wpAny_bind (L3.at ?_)))))
  simp only [hne, Bool.false_eq_true, if_false]
  ksp_lk
  refine dec _ ?_
  ksp_lk
  refine wpAny_mono one (fun r s' hr' => ?_) fun _ _ e => e
  obtain ⟨v, rfl, hq⟩ := hr'
  ksp_lk
  exact hq
/-- an int beside an instance: the instance's reflected comparison -/
theorem rev_cmp {op : CmpOp} {Q : Value → Shared → Prop} (hu : A.units < cLine) (X : K.In s.heap) (I : InstAt s.heap x { instObj C dx with slots := sl } C od)
    (hs : findIn K (.ref C) (cmpInfo op).2.2 = some (some (.ref f))) (hf : isFn K (.ref f) = true) (hsub : subIn K (.ref C) (.type "int") = some false) (io : IntOp (cmpInfo op).2.1 id B)
    (h : wpAny (model prog w) A (call (.ref f) [.ref x, .int i t]) (PySem.W.CmpBack Q) E s) : wpAny (model prog w) A (richCompare op (.int i t) (.ref x)) Q E s := by
  have one : wpAny (model prog w) A (tryCompare (.ref x) (cmpInfo op).2.2 (.int i t)) (fun r s' => ∃ v, r = some v ∧ Q v s') E s := by
    unfold tryCompare
    refine wpAny_bind (ifBound_K X I hs hf (wpAny_mono h (fun v s' hv => ?_) fun _ _ e => e))
    cases v <;> first | exact hv.elim | exact wpAny_pure ⟨_, rfl, hv⟩
  have dec : ∀ Q' : Option Value → Shared → Prop, Q' none s → wpAny (model prog w) A (tryCompare (.int i t) (cmpInfo op).2.1 (.ref x)) Q' E s := fun Q' q => cmp_declines io I.at_ q
  have hne : (Value.type "int" != Value.ref C) = true := by simp
  have h1 : oneThing? op (.int i t) (.ref x) = none := by cases op <;> rfl
  unfold richCompare
  simp only [h1]
  refine wpAny_holding (wpAny_bind (wpAny_cRoomFor hu ?_))
  refine wpAny_bind (wpAny_of_eq (show typeOf (.int i t) = pure (.type "int") from rfl) (wpAny_bind (I.type.here ?_)))
  simp only [hne, if_true]
  refine wpAny_bind ((looks_subIn X hsub).here ?_)
  simp only [Bool.false_eq_true, if_false]
  refine wpAny_bind (dec _ ?_)
  simp only [Bool.not_false, if_true]
  refine wpAny_bind (wpAny_mono one (fun r s' z => ?_) fun _ _ e => e)
  obtain ⟨v, rfl, hq⟩ := z
  exact wpAny_pure hq
end
end Hv
/-! HC: the operators' rules over the layer, for a class with slots that counts as a number. -/
namespace Hv
open PySem PySem.Spec PyProof.Rows L2 SlX
/-- what the written part says of the class at C -/
structure NumC (K : PySem.W.Frag) (C : Addr) : Prop where
  sc : SCls K C
  si : SIsi K C
  sf : PySem.W.selfFirst K C = true
  sub : PySem.W.subIn K (.ref C) (.type "int") = some false
  nis : PySem.W.notFirst K C (.ref C) = true
def IsIn (C : Addr) (H : Hp) (x : V) : Prop := ∃ a dx vs, x = V.ref a ∧ Slt H a C dx vs
/-- x op y: an instance on the left (beside an instance or an int), or an int on the left -/
def rNum (C : Addr) (sp spr : Sp) (E : XK) : R2 := fun x y H Q =>
  (IsIn C H x ∧ (IsIn C H y ∨ ∃ j, y = .int j) ∧ sp [x, y] H Q E) ∨ ((∃ i, x = .int i) ∧ IsIn C H y ∧ spr [y, x] H Q E)
/-- the table's word of an int's operator by its method's name -/
structure IntTab (nm : String) : Prop where
  fo : ∃ v : Option Value, ∀ K, PySem.W.findIn K (.type "int") (PySem.dunder nm) = some v
  ro : ∃ v : Option Value, ∀ K, PySem.W.findIn K (.type "int") (dunderR nm) = some v
  fills : fillsNumberSlot (.type "int") nm = pure true
theorem tab_add : IntTab "add" := ⟨⟨some (.builtin "int.__add__"), fun _ => by kernel_rfl⟩, ⟨some (.builtin "int.__radd__"), fun _ => by kernel_rfl⟩, PySem.F.fills_int_add⟩
theorem tab_sub : IntTab "sub" := ⟨⟨some (.builtin "int.__sub__"), fun _ => by kernel_rfl⟩, ⟨some (.builtin "int.__rsub__"), fun _ => by kernel_rfl⟩, PySem.F.fills_int_sub⟩
theorem tab_mul : IntTab "mul" := ⟨⟨some (.builtin "int.__mul__"), fun _ => by kernel_rfl⟩, ⟨some (.builtin "int.__rmul__"), fun _ => by kernel_rfl⟩, PySem.F.fills_int_mul⟩
section
variable {X : Cx} {pins : List (Addr × Obj)} {σ : L2.St} {H : Hp} {s : Shared} {C g gr : Addr} {n j : Nat} {sp spr : Sp} {E : XK} {id : String} {B : Builtin}
theorem sub_int (K : PySem.W.Frag) (C : Addr) : PySem.W.subIn K (.type "int") (.ref C) = some false := by
  have e : PySem.fastBuiltinMro "int" = some [.type "int", .type "object"] := by kernel_rfl
  show Option.map (fun l => l.contains (Value.ref C)) (PySem.fastBuiltinMro "int") = some false
  rw [e]
  simp
theorem rr (a : Addr) : RelV (.ref a) (.ref a) := rfl
theorem ri (k : Int) (t : Tok) : RelV (.int k) (.int k t) := ⟨t, rfl⟩
theorem call_back {Q : VK} {us : List Value} {vs : List V} (F : FnX X n g sp) (hr : RoomG n X.A) (hx : PassX X E) (I : Inv X pins σ H s) (r : Vals vs us) (h : sp vs H Q E) :
    wpAny (model X.prog X.w) X.A (call (.ref g) us) (PySem.W.CmpBack (EP X pins σ Q)) X.xe s := by
  refine wpAny_mono (wpAny_call (run_g F hr hx I r h)) (fun w s' z => ?_) fun _ _ x => x
  obtain ⟨z', H', I', rz, qz⟩ := z
  exact cmpback rz ⟨z', H', I', rz, qz⟩
theorem op_num {op : Operator} (c : NumC X.K C) (m : Meth X.K C (PySem.dunder op.info.2) g) (mr : Meth X.K C (dunderR op.info.2) gr) (F : FnX X n g sp) (Fr : FnX X n gr spr) (hr : RoomG j X.A) (hj : n ≤ j) (hx : PassX X E)
    (tb : IntTab op.info.2) (io : IntOp (PySem.dunder op.info.2) id B) : OpR X (binaryOp op) (rNum C sp spr E) := by
  intro pins s σ H x y v u Q I rx ry h
  have hr' := hr.mono hj
  obtain ⟨m', hF⟩ := I.fr
  rcases h with ⟨⟨a, dx, vs, rfl, ha⟩, hy, q⟩ | ⟨⟨i, rfl⟩, ⟨b, dy, ws, rfl, hb⟩, q⟩
  · cases (show v = Value.ref a from rx)
    obtain ⟨sl, od, _, J, _⟩ := slt_inst I ha
    rcases hy with ⟨b, dy, ws, rfl, hb⟩ | ⟨k, rfl⟩
    · cases (show u = Value.ref b from ry)
      obtain ⟨sl', od', _, J', _⟩ := slt_inst I hb
      exact PySem.W.binop_K hF I.ok.mod.kin J J'.type c.sf m.at_ m.fn (call_back F hr' hx I (.cons (rr a) (.cons (rr b) .nil)) q)
    · obtain ⟨t, rfl⟩ := (show ∃ t, u = Value.int k t from ry)
      obtain ⟨fo, h1⟩ := tb.fo
      obtain ⟨ro, h2⟩ := tb.ro
      exact PySem.W.ksp_binT hF I.ok.mod.kin J rfl c.sf m.at_ m.fn mr.at_ (.inr ⟨_, rfl⟩) (h1 _) (h2 _) (sub_int _ _) (call_back F hr' hx I (.cons (rr a) (.cons (ri k t) .nil)) q)
  · obtain ⟨t, rfl⟩ := (show ∃ t, v = Value.int i t from rx)
    cases (show u = Value.ref b from ry)
    obtain ⟨sl, od, _, J, _⟩ := slt_inst I hb
    exact rev_bin I.kIn J c.sf m.at_ mr.at_ mr.fn tb.fills c.sub io (call_back Fr hr' hx I (.cons (rr b) (.cons (ri i t) .nil)) q)
theorem op_cmpn {op : CmpOp} (hop : ∀ a b, compareOp op a b = richCompare op a b) (c : NumC X.K C) (m : Meth X.K C (cmpInfo op).2.1 g) (mr : Meth X.K C (cmpInfo op).2.2 gr) (F : FnX X n g sp) (Fr : FnX X n gr spr)
    (hr : RoomG j X.A) (hj : n ≤ j) (hx : PassX X E) (io : IntOp (cmpInfo op).2.1 id B) : OpR X (compareOp op) (rNum C sp spr E) := by
  intro pins s σ H x y v u Q I rx ry h
  have hr' := hr.mono hj
  obtain ⟨m', hF⟩ := I.fr
  rw [hop]
  rcases h with ⟨⟨a, dx, vs, rfl, ha⟩, hy, q⟩ | ⟨⟨i, rfl⟩, ⟨b, dy, ws, rfl, hb⟩, q⟩
  · cases (show v = Value.ref a from rx)
    obtain ⟨sl, od, _, J, _⟩ := slt_inst I ha
    rcases hy with ⟨b, dy, ws, rfl, hb⟩ | ⟨k, rfl⟩
    · cases (show u = Value.ref b from ry)
      obtain ⟨sl', od', _, J', _⟩ := slt_inst I hb
      exact PySem.W.cmp_K hr.r.units0 hF I.ok.mod.kin J J'.type c.nis m.at_ m.fn (call_back F hr' hx I (.cons (rr a) (.cons (rr b) .nil)) q)
    · obtain ⟨t, rfl⟩ := (show ∃ t, u = Value.int k t from ry)
      refine PySem.W.cmp_K (tb := .type "int") hr.r.units0 hF I.ok.mod.kin J (.of_pure rfl) ?_ m.at_ m.fn (call_back F hr' hx I (.cons (rr a) (.cons (ri k t) .nil)) q)
      unfold PySem.W.notFirst
      rw [sub_int]
      simp
  · obtain ⟨t, rfl⟩ := (show ∃ t, v = Value.int i t from rx)
    cases (show u = Value.ref b from ry)
    obtain ⟨sl, od, _, J, _⟩ := slt_inst I hb
    exact rev_cmp hr.r.units0 I.kIn J mr.at_ mr.fn c.sub io (call_back Fr hr' hx I (.cons (rr b) (.cons (ri i t) .nil)) q)
/-- -x -/
theorem un_negn (m : Meth X.K C "__neg__" g) (F : FnX X n g sp) (hr : RoomG j X.A) (hj : n ≤ j) (hx : PassX X E) : UnR X (unaryOp .USub) (fun x H Q => IsIn C H x ∧ sp [x] H Q E) := by
  intro pins s σ H x v Q I rx h
  obtain ⟨⟨a, dx, vs, rfl, ha⟩, q⟩ := h
  cases (show v = Value.ref a from rx)
  obtain ⟨sl, od, _, J, _⟩ := slt_inst I ha
  obtain ⟨m', hF⟩ := I.fr
  exact PySem.W.ksp_neg hF I.ok.mod.kin J m.at_ m.fn (wpAny_call (run_g F (hr.mono hj) hx I (.cons (rr a) .nil) q))
/-- abs(x) -/
theorem call_absn (m : Meth X.K C "__abs__" g) (F : FnX X n g sp) (hr : RoomG j X.A) (hj : n + 1 ≤ j) (hx : PassX X E) : CallR X (.builtin "abs") (fun xs H Q => ∃ x, xs = [x] ∧ IsIn C H x ∧ sp [x] H Q E) := by
  intro pins s σ H xs us Q I r h
  obtain ⟨x, rfl, ⟨a, dx, vs, rfl, ha⟩, q⟩ := h
  obtain ⟨u, rfl, rx⟩ := vals1 r
  cases (show u = Value.ref a from rx)
  obtain ⟨sl, od, _, J, _⟩ := slt_inst I ha
  refine Calls.call_function_entry kind_abs plain_abs entry_abs (args_abs _) ?_
  unfold Builtin.«abs»
  refine wpAny_bind (m := oneArg "abs" _) (wpAny_pure ?_)
  refine wpAny_bind (m := callSpecial? (.ref a) (Str.ofString "__abs__")) ?_
  have q1 := wpAny_call (run_at (us := [.ref a]) (vs := [.ref a]) F (hr.mono hj).in1 I.env0.in1 hx I (.cons rfl .nil) q)
  refine PySem.W.special_fn I.kIn J m.at_ (beq_iff_eq.mp m.fn) (wpAny_mono q1 (fun v s' z => ?_) fun _ _ z => z)
  obtain ⟨z', H', I', rz, qz⟩ := z
  have hk : PySem.W.CmpBack (fun v s' => EP X pins σ Q v s') v s' := cmpback rz ⟨z', H', I', rz, qz⟩
  exact wpAny_pure ⟨v, rfl, z', H', I', rz, qz⟩
end
end Hv
/-! HK: kinds of values, and isinstance by kinds. cs: the own classes whose instances are told apart. -/
namespace Hv
open PySem PySem.Spec PyProof.Rows L2 SlX
inductive Kind where
  | non | bl | int | str | lst | tup | dic | own (C : Addr)
  deriving DecidableEq
def Kind.isT : Kind → String → Bool
  | .non, T => T == "NoneType"
  | .bl, T => T == "bool" || T == "int"
  | .int, T => T == "int"
  | .str, T => T == "str"
  | .lst, T => T == "list"
  | .tup, T => T == "tuple"
  | .dic, T => T == "dict"
  | .own _, _ => false
def tys : List String := ["int", "bool", "str", "list", "tuple", "dict"]
/-- what is asked of the classes -/
structure Cs (K : PySem.W.Frag) (cs : List Addr) : Prop where
  cls : ∀ C ∈ cs, (PySem.W.clsIn K C).isSome = true
  typ : ∀ C ∈ cs, PySem.W.typeIn K (.ref C) = some (.type "type")
  bas : ∀ C ∈ cs, ∀ T ∈ tys, PySem.W.subIn K (.ref C) (.type T) = some false
  own : ∀ C ∈ cs, ∀ D ∈ cs, PySem.W.subIn K (.ref C) (.ref D) = some (decide (C = D))
inductive HasK (K : PySem.W.Frag) (cs : List Addr) (H : Hp) : V → Kind → Prop where
  | non : HasK K cs H .non .non
  | bl (b : Bool) : HasK K cs H (.bl b) .bl
  | int (i : Int) : HasK K cs H (.int i) .int
  | str (x : Str) : HasK K cs H (.str x) .str
  | lst {a : Addr} {xs : List V} (e : H a = some (.lst xs)) : HasK K cs H (.ref a) .lst
  | frz {a : Addr} {o : Obj} {xs : List V} (e : H a = some (.frz o (.lst xs))) : HasK K cs H (.ref a) .lst
  | tup {a : Addr} {xs : List V} (e : H a = some (.tup xs)) : HasK K cs H (.ref a) .tup
  | wt {a : Addr} {o : Obj} (e : K.lookup a = some o) (c : o.cls = .type "tuple") : HasK K cs H (.ref a) .tup
  | dK {a : Addr} {kvs : List (Key × V)} (e : H a = some (.dK kvs)) : HasK K cs H (.ref a) .dic
  | fD {a : Addr} {o : Obj} {kvs : List (Key × V)} (e : H a = some (.frz o (.dK kvs))) : HasK K cs H (.ref a) .dic
  | slt {a C dx : Addr} {vs : List (Option V)} (m : C ∈ cs) (c : SCls K C) (i : SIsi K C) (h : Slt H a C dx vs) : HasK K cs H (.ref a) (.own C)
  | ins {a C dx : Addr} {fs : List (Str × V)} (m : C ∈ cs) (c : Cls K C) (i : SIsi K C) (e : H a = some (.ins C dx fs)) : HasK K cs H (.ref a) (.own C)
def Kind.val : Kind → Value
  | .non => .type "NoneType"
  | .bl => .type "bool"
  | .int => .type "int"
  | .str => .type "str"
  | .lst => .type "list"
  | .tup => .type "tuple"
  | .dic => .type "dict"
  | .own C => .ref C
abbrev kitMetaAll : Prop := ∀ T ∈ tys, PySem.W.kitMeta T = true
theorem kitMeta_all : kitMetaAll := by decide +kernel
section
variable {K : PySem.W.Frag} {cs : List Addr} {H : Hp} {x : V} {k : Kind}
theorem kit_tab (c : Cs K cs) (h : HasK K cs H x k) {T : String} (hT : T ∈ tys) : PySem.W.kitOne K k.val (.type T) = some (k.isT T) := by
  have base : ∀ n ∈ (["NoneType", "bool", "int", "str", "list", "tuple", "dict"] : List String), ∀ T ∈ tys, kitB n T = some (n == T || (n == "bool" && T == "int")) := by decide +kernel
  have b2 : ∀ n ∈ (["NoneType", "bool", "int", "str", "list", "tuple", "dict"] : List String), PySem.W.kitOne K (.type n) (.type T) = some (n == T || (n == "bool" && T == "int")) :=
    fun n hn => kit_ty (base n hn T hT)
  have sw : ∀ a b : String, (a == b) = (b == a) := fun a b => by
    rw [Bool.eq_iff_iff, beq_iff_eq, beq_iff_eq]
    exact ⟨Eq.symm, Eq.symm⟩
  cases h with
  | slt m _ _ _ =>
    have e : kitMetaAll := kitMeta_all
    show PySem.W.kitOne K (.ref _) (.type T) = some false
    unfold PySem.W.kitOne PySem.W.kitCls
    rw [if_neg (by simp)]
    show (if PySem.W.kitMeta T = true then PySem.W.subIn K (.ref _) (.type T) else none) = some false
    rw [if_pos (e T hT)]
    exact c.bas _ m T hT
  | ins m _ _ _ =>
    have e : kitMetaAll := kitMeta_all
    show PySem.W.kitOne K (.ref _) (.type T) = some false
    unfold PySem.W.kitOne PySem.W.kitCls
    rw [if_neg (by simp)]
    show (if PySem.W.kitMeta T = true then PySem.W.subIn K (.ref _) (.type T) else none) = some false
    rw [if_pos (e T hT)]
    exact c.bas _ m T hT
  | non => exact (b2 "NoneType" (by decide)).trans (congrArg some (by simp only [Kind.isT]; rw [sw]; simp))
  | bl b => exact (b2 "bool" (by decide)).trans (congrArg some (by simp only [Kind.isT]; rw [sw]; simp))
  | int i => exact (b2 "int" (by decide)).trans (congrArg some (by simp only [Kind.isT]; rw [sw]; simp))
  | str y => exact (b2 "str" (by decide)).trans (congrArg some (by simp only [Kind.isT]; rw [sw]; simp))
  | lst e => exact (b2 "list" (by decide)).trans (congrArg some (by simp only [Kind.isT]; rw [sw]; simp))
  | frz e => exact (b2 "list" (by decide)).trans (congrArg some (by simp only [Kind.isT]; rw [sw]; simp))
  | tup e => exact (b2 "tuple" (by decide)).trans (congrArg some (by simp only [Kind.isT]; rw [sw]; simp))
  | wt e _ => exact (b2 "tuple" (by decide)).trans (congrArg some (by simp only [Kind.isT]; rw [sw]; simp))
  | dK e => exact (b2 "dict" (by decide)).trans (congrArg some (by simp only [Kind.isT]; rw [sw]; simp))
  | fD e => exact (b2 "dict" (by decide)).trans (congrArg some (by simp only [Kind.isT]; rw [sw]; simp))
theorem kit_own (c : Cs K cs) (h : HasK K cs H x k) {D : Addr} (hD : D ∈ cs) : PySem.W.kitOne K k.val (.ref D) = some (decide (k = .own D)) := by
  have hc : ((PySem.W.clsIn K D).isSome && PySem.W.typeIn K (.ref D) == some (.type "type")) = true := by
    rw [c.cls D hD, c.typ D hD]
    rfl
  have bas : ∀ n : String, n ∈ (["NoneType", "bool", "int", "str", "list", "tuple", "dict"] : List String) → PySem.W.kitOne K (.type n) (.ref D) = some false := fun n hn => by
    unfold PySem.W.kitOne PySem.W.kitCls
    rw [if_neg (by simp)]
    show (if ((PySem.W.clsIn K D).isSome && PySem.W.typeIn K (.ref D) == some (.type "type")) = true then PySem.W.subIn K (.type n) (.ref D) else none) = some false
    rw [if_pos hc]
    have h2 : ∀ n ∈ (["NoneType", "bool", "int", "str", "list", "tuple", "dict"] : List String), ∃ l : List Value, PySem.fastBuiltinMro n = some l ∧ (l.all fun v => match v with | .ref _ => false | _ => true) = true := by
      intro n hn
      have z : ∀ n ∈ (["NoneType", "bool", "int", "str", "list", "tuple", "dict"] : List String), ((PySem.fastBuiltinMro n).any fun l => l.all fun v => match v with | .ref _ => false | _ => true) = true := by decide +kernel
      obtain ⟨l, e1, e2⟩ := PySem.W.any_some (z n hn)
      exact ⟨l, e1, e2⟩
    obtain ⟨l, e1, e2⟩ := h2 n hn
    show Option.map (fun l => l.contains (Value.ref D)) (PySem.fastBuiltinMro n) = some false
    rw [e1]
    show some (l.contains (Value.ref D)) = some false
    congr 1
    rw [← Bool.not_eq_true]
    intro hm
    have hm' := List.contains_iff_mem.mp hm
    have := List.all_eq_true.mp e2 _ hm'
    cases this
  have own : ∀ C ∈ cs, PySem.W.kitOne K (.ref C) (.ref D) = some (decide (Kind.own C = Kind.own D)) := fun C hC => by
    unfold PySem.W.kitOne PySem.W.kitCls
    by_cases e : C = D
    · subst e
      simp
    · rw [if_neg (by simp [e])]
      show (if ((PySem.W.clsIn K D).isSome && PySem.W.typeIn K (.ref D) == some (.type "type")) = true then PySem.W.subIn K (.ref C) (.ref D) else none) = _
      rw [if_pos hc, c.own C hC D hD]
      simp
  cases h with
  | slt m _ _ _ => exact own _ m
  | ins m _ _ _ => exact own _ m
  | non => exact (bas "NoneType" (by decide)).trans (by simp)
  | bl b => exact (bas "bool" (by decide)).trans (by simp)
  | int i => exact (bas "int" (by decide)).trans (by simp)
  | str y => exact (bas "str" (by decide)).trans (by simp)
  | lst e => exact (bas "list" (by decide)).trans (by simp)
  | frz e => exact (bas "list" (by decide)).trans (by simp)
  | tup e => exact (bas "tuple" (by decide)).trans (by simp)
  | wt e _ => exact (bas "tuple" (by decide)).trans (by simp)
  | dK e => exact (bas "dict" (by decide)).trans (by simp)
  | fD e => exact (bas "dict" (by decide)).trans (by simp)
/-- what the library asks of such a value -/
theorem kitx_of {X : Cx} {pins : List (Addr × Obj)} {σ : L2.St} {s : Shared} {u : Value} (I : Inv X pins σ H s) (rx : RelV x u) (h : HasK X.K cs H x k) :
    ∃ P : Heap → Prop, PySem.W.KitX X.K u k.val P ∧ P s.heap ∧ u ≠ .builtin "__main__.__loader__#opaque" := by
  cases h with
  | non => exact kit_of I rx (.base .non)
  | bl b => exact kit_of I rx (.base (.bl b))
  | int i => exact kit_of I rx (.base (.int i))
  | str y => exact kit_of I rx (.base (.str y))
  | lst e => exact kit_of I rx (.base (.lst e))
  | frz e => exact kit_of I rx (.base (.frz e))
  | tup e => exact kit_of I rx (.base (.tup e))
  | wt e c =>
    cases (show u = Value.ref _ from rx)
    exact ⟨_, PySem.W.kitx_tuple, ⟨_, I.kIn _ _ e, c⟩, fun z => nomatch z⟩
  | dK e => exact kit_of I rx (.base (.dK e))
  | fD e => exact kit_of I rx (.fDict e)
  | @slt a C dx vs m c i h =>
    cases (show u = Value.ref a from rx)
    obtain ⟨sl, od, _, J, _⟩ := slt_inst I h
    exact ⟨_, OwX.kitx_slt c.ic (c.get _) i.ca i.cn i.ct i.cm, J, fun z => nomatch z⟩
  | @ins a C dx fs m c i e => exact kit_of I rx (.base (.ins e c i.ca i.cn i.ct i.cm))
section
variable {X : Cx}
/-- isinstance(x, T), T one of the built-in classes -/
theorem call_isT (c : Cs X.K cs) : CallR X (.builtin "isinstance") (fun xs H Q => ∃ x T k, xs = [x, .ty T] ∧ HasK X.K cs H x k ∧ T ∈ tys ∧ Q (.bl (k.isT T)) H) := by
  intro pins s σ H xs us Q I r h
  obtain ⟨x, T, k, rfl, hk, hT, q⟩ := h
  obtain ⟨u1, u2, rfl, r1, r2⟩ := vals2 r
  cases (show u2 = Value.type T from r2)
  obtain ⟨P, Z, p, hx⟩ := kitx_of I r1 hk
  exact PySem.W.kia_one Z I.kIn p (kit_tab c hk hT) hx fun tk => ⟨.bl _, H, I.tok tk, rfl, q⟩
/-- isinstance(x, D), D one of the own classes -/
theorem call_isO (c : Cs X.K cs) : CallR X (.builtin "isinstance") (fun xs H Q => ∃ x D k, xs = [x, .ref D] ∧ HasK X.K cs H x k ∧ D ∈ cs ∧ Q (.bl (decide (k = .own D))) H) := by
  intro pins s σ H xs us Q I r h
  obtain ⟨x, D, k, rfl, hk, hD, q⟩ := h
  obtain ⟨u1, u2, rfl, r1, r2⟩ := vals2 r
  cases (show u2 = Value.ref D from r2)
  obtain ⟨P, Z, p, hx⟩ := kitx_of I r1 hk
  exact PySem.W.kia_one Z I.kIn p (kit_own c hk hD) hx fun tk => ⟨.bl _, H, I.tok tk, rfl, q⟩
end
end
end Hv
/-! HD: repr of data; powers of great ints; heaps that change at one place. -/
namespace Hv
open PySem PySem.Spec PyProof.Rows L2
section
variable {X : Cx}
/-- repr(x), x an object that reads as data without dicts -/
theorem call_reprD {k : Nat} (hr : RoomG k X.A) : CallR X (.builtin "repr") (fun xs H Q => ∃ a d, xs = [.ref a] ∧ Dp X.K H (.ref a) d ∧ d.showable = true ∧ d.hasDict = false ∧ d.depth ≤ 60 ∧ d.shown.length ≤ sizeLine ∧ Q (.str d.shown) H) := by
  intro pins s σ H xs us Q I r h
  obtain ⟨a, d, rfl, hd, h1, h2, h3, h4, q⟩ := h
  obtain ⟨u, rfl, rx⟩ := vals1 r
  obtain ⟨as, rd⟩ := Dp.reads I d _ _ hd rx
  cases (show u = Value.ref a from rx)
  have hu := hr.r.units
  exact repr_of_reads' rd h1 (PyData.noDict_hsm h2) hr.g (by omega) (fun _ _ e => e) (fun h' u tk kp => ⟨.str d.shown, H, I.kept kp, ⟨u, rfl⟩, q⟩) h4
def CPowW (i j : Int) : Prop := 0 ≤ j ∧ (Builtin.Int.intBits i : Int) * j ≤ 2 ^ 27
theorem op_powW : OpR X (binaryOp .Pow) (rI CPowW fun i j => .int (i ^ j.toNat)) := opI fun _ _ _ _ _ _ _ hc q => pow_int hc.1 hc.2 q
end
/-! ### heaps: all but the place p stay -/
def ExB (p : Addr) (H H' : Hp) : Prop := ∀ a o, a ≠ p → H a = some o → H' a = some o
theorem ExB.refl (p : Addr) (H : Hp) : ExB p H H := fun _ _ _ h => h
theorem ExB.trans {p : Addr} {H H1 H2 : Hp} (a : ExB p H H1) (b : ExB p H1 H2) : ExB p H H2 := fun x o n h => b x o n (a x o n h)
theorem Same.exb {p : Addr} {H H' : Hp} (e : Same H H') : ExB p H H' := fun a o _ h => e a o h
theorem ExB.new {p q : Addr} {H H' : Hp} {o : HO} (e : ExB p H H') (h : H' q = none) : ExB p H (upd H' q o) := fun a u n ha => by
  rw [upd_ne (ne_of_none (e a u n ha) h)]
  exact e a u n ha
theorem Same.new {q : Addr} {H H' : Hp} {o : HO} (e : Same H H') (h : H' q = none) : Same H (upd H' q o) := fun a u ha => by
  rw [upd_ne (ne_of_none (e a u ha) h)]
  exact e a u ha
theorem ExB.put {p : Addr} {H H' : Hp} {o : HO} (e : ExB p H H') : ExB p H (upd H' p o) := fun a u n ha => by
  rw [upd_ne n]
  exact e a u n ha
theorem ExB.fresh {p q : Addr} {H H' : Hp} (e : ExB p H H') (n : q ≠ p) (h : H' q = none) : H q = none := by
  cases z : H q with
  | none => rfl
  | some o => rw [e q o n z] at h; cases h
theorem Same.fresh {q : Addr} {H H' : Hp} (e : Same H H') (h : H' q = none) : H q = none := by
  cases z : H q with
  | none => rfl
  | some o => rw [e q o z] at h; cases h
end Hv
/-! HM: plain mathematics of fractions. -/
namespace Hv
/-- both parts below 2 ^ b -/
def Sz (b : Nat) (q : Rat) : Prop := q.num.natAbs < 2 ^ b ∧ q.den < 2 ^ b
theorem Sz.mono {a b : Nat} {q : Rat} (h : Sz a q) (l : a ≤ b) : Sz b q :=
  ⟨Nat.lt_of_lt_of_le h.1 (Nat.pow_le_pow_right (by decide) l), Nat.lt_of_lt_of_le h.2 (Nat.pow_le_pow_right (by decide) l)⟩
theorem two_pow_pos' (b : Nat) : 0 < 2 ^ b := Nat.pow_pos (by decide)
theorem sz_int {b : Nat} {i : Int} (h : i.natAbs < 2 ^ b) (hb : 0 < b) : Sz b (i : Rat) := by
  refine ⟨h, ?_⟩
  show 1 < 2 ^ b
  exact Nat.one_lt_two_pow (by omega)
theorem num_le (n u : Int) : (Rat.divInt n u).num.natAbs ≤ n.natAbs := by
  rw [Rat.num_divInt]
  refine Nat.le_trans (Int.natAbs_ediv_le_natAbs _ _) ?_
  rw [Int.natAbs_mul]
  have : u.sign.natAbs ≤ 1 := by
    rcases Int.lt_trichotomy u 0 with h | h | h
    · rw [Int.sign_eq_neg_one_of_neg h]; decide
    · rw [h]; decide
    · rw [Int.sign_eq_one_of_pos h]; decide
  calc u.sign.natAbs * n.natAbs ≤ 1 * n.natAbs := Nat.mul_le_mul_right _ this
    _ = n.natAbs := Nat.one_mul _
theorem den_le (n : Int) {u : Int} (h : u ≠ 0) : (Rat.divInt n u).den ≤ u.natAbs := by
  rw [Rat.den_divInt, if_neg h]
  exact Nat.div_le_self _ _
theorem sz_div {b : Nat} {n u : Int} (hn : n.natAbs < 2 ^ b) (hu : u.natAbs < 2 ^ b) (h : u ≠ 0) : Sz b (Rat.divInt n u) :=
  ⟨Nat.lt_of_le_of_lt (num_le n u) hn, Nat.lt_of_le_of_lt (den_le n h) hu⟩
theorem add_form (p q : Rat) : Rat.divInt (p.num * q.den + q.num * p.den) (p.den * q.den) = p + q := by
  rw [Rat.add_def', ← Rat.divInt_ofNat]
  congr 1
theorem sub_form (p q : Rat) : Rat.divInt (p.num * q.den - q.num * p.den) (p.den * q.den) = p - q := by
  rw [Rat.sub_def', ← Rat.divInt_ofNat]
  congr 1
theorem mul_form (p q : Rat) : Rat.divInt (p.num * q.num) (p.den * q.den) = p * q := by
  rw [Rat.mul_def', ← Rat.divInt_ofNat]
  congr 1
theorem den_ne (p : Rat) : (p.den : Int) ≠ 0 := by
  have := p.den_pos
  omega
theorem den_mul_ne (p q : Rat) : (p.den : Int) * q.den ≠ 0 := Int.mul_ne_zero (den_ne p) (den_ne q)
theorem abs_mul_lt {a b : Nat} {x y : Int} (hx : x.natAbs < 2 ^ a) (hy : y.natAbs < 2 ^ b) : (x * y).natAbs < 2 ^ (a + b) := by
  rw [Int.natAbs_mul, Nat.pow_add]
  exact Nat.mul_lt_mul'' hx hy
theorem abs_add_lt {c : Nat} {x y : Int} (hx : x.natAbs < 2 ^ c) (hy : y.natAbs < 2 ^ c) : (x + y).natAbs < 2 ^ (c + 1) := by
  have h := Int.natAbs_add_le x y
  rw [Nat.pow_succ]
  omega
theorem abs_sub_lt {c : Nat} {x y : Int} (hx : x.natAbs < 2 ^ c) (hy : y.natAbs < 2 ^ c) : (x - y).natAbs < 2 ^ (c + 1) := by
  have h := Int.natAbs_sub_le x y
  rw [Nat.pow_succ]
  omega
theorem den_abs {b : Nat} {q : Rat} (h : Sz b q) : ((q.den : Nat) : Int).natAbs < 2 ^ b := h.2
theorem up {a b : Nat} {x : Int} (h : x.natAbs < 2 ^ a) (l : a ≤ b) : x.natAbs < 2 ^ b := Nat.lt_of_lt_of_le h (Nat.pow_le_pow_right (by decide) l)
section
variable {a b : Nat} {p q : Rat} (hp : Sz a p) (hq : Sz b q)
include hp hq
theorem cross1 : (p.num * q.den).natAbs < 2 ^ (a + b) := abs_mul_lt hp.1 (den_abs hq)
theorem cross2 : (q.num * p.den).natAbs < 2 ^ (a + b) := up (abs_mul_lt hq.1 (den_abs hp)) (by omega)
theorem add_num_lt : (p.num * q.den + q.num * p.den).natAbs < 2 ^ (a + b + 1) := abs_add_lt (cross1 hp hq) (cross2 hp hq)
theorem sub_num_lt : (p.num * q.den - q.num * p.den).natAbs < 2 ^ (a + b + 1) := abs_sub_lt (cross1 hp hq) (cross2 hp hq)
theorem mul_num_lt : (p.num * q.num).natAbs < 2 ^ (a + b) := abs_mul_lt hp.1 hq.1
theorem dens_lt : ((p.den : Int) * q.den).natAbs < 2 ^ (a + b) := abs_mul_lt (den_abs hp) (den_abs hq)
theorem sz_add : Sz (a + b + 1) (p + q) := by
  rw [← add_form]
  exact sz_div (add_num_lt hp hq) (up (dens_lt hp hq) (by omega)) (den_mul_ne p q)
theorem sz_sub : Sz (a + b + 1) (p - q) := by
  rw [← sub_form]
  exact sz_div (sub_num_lt hp hq) (up (dens_lt hp hq) (by omega)) (den_mul_ne p q)
theorem sz_mul : Sz (a + b) (p * q) := by
  rw [← mul_form]
  exact sz_div (mul_num_lt hp hq) (dens_lt hp hq) (den_mul_ne p q)
end
theorem sz_neg {a : Nat} {p : Rat} (h : Sz a p) : Sz a (-p) := by
  refine ⟨?_, h.2⟩
  rw [Rat.neg_num, Int.natAbs_neg]
  exact h.1
/-- what the maker reckons -/
def comm (n u : Int) : Int := if u < 0 then -((Nat.gcd n.natAbs u.natAbs : Nat) : Int) else ((Nat.gcd n.natAbs u.natAbs : Nat) : Int)
theorem comm_ne {n u : Int} (h : u ≠ 0) : comm n u ≠ 0 := by
  have : 0 < Nat.gcd n.natAbs u.natAbs := Nat.gcd_pos_of_pos_right _ (by omega)
  unfold comm
  split <;> omega
theorem comm_abs (n u : Int) : (comm n u).natAbs = Nat.gcd n.natAbs u.natAbs := by
  unfold comm
  split <;> simp
theorem dvd_n (n u : Int) : comm n u ∣ n := by
  have h := Int.ofNat_dvd_left.mpr (Nat.gcd_dvd_left n.natAbs u.natAbs)
  unfold comm
  split
  · exact Int.neg_dvd.mpr h
  · exact h
theorem dvd_u (n u : Int) : comm n u ∣ u := by
  have h := Int.ofNat_dvd_left.mpr (Nat.gcd_dvd_right n.natAbs u.natAbs)
  unfold comm
  split
  · exact Int.neg_dvd.mpr h
  · exact h
theorem above_eq {n u : Int} (h : u ≠ 0) : n.fdiv (comm n u) = (Rat.divInt n u).num := by
  rw [Int.fdiv_eq_ediv_of_dvd (dvd_n n u), Rat.num_divInt]
  have e : u.gcd n = Nat.gcd n.natAbs u.natAbs := by
    show Nat.gcd u.natAbs n.natAbs = _
    exact Nat.gcd_comm _ _
  rw [e]
  unfold comm
  by_cases hu : u < 0
  · rw [if_pos hu, Int.sign_eq_neg_one_of_neg hu, Int.ediv_neg]
    have hd : ((Nat.gcd n.natAbs u.natAbs : Nat) : Int) ∣ n := Int.ofNat_dvd_left.mpr (Nat.gcd_dvd_left n.natAbs u.natAbs)
    rw [show (-1 : Int) * n = -n by omega, Int.neg_ediv_of_dvd hd]
  · rw [if_neg hu, Int.sign_eq_one_of_pos (by omega), Int.one_mul]
theorem below_eq {n u : Int} (h : u ≠ 0) : u.fdiv (comm n u) = ((Rat.divInt n u).den : Int) := by
  rw [Int.fdiv_eq_ediv_of_dvd (dvd_u n u), Rat.den_divInt, if_neg h]
  have e : u.gcd n = Nat.gcd n.natAbs u.natAbs := by
    show Nat.gcd u.natAbs n.natAbs = _
    exact Nat.gcd_comm _ _
  rw [e]
  unfold comm
  by_cases hu : u < 0
  · rw [if_pos hu, Int.ediv_neg]
    have hd : ((Nat.gcd n.natAbs u.natAbs : Nat) : Int) ∣ u := Int.ofNat_dvd_left.mpr (Nat.gcd_dvd_right n.natAbs u.natAbs)
    rw [← Int.neg_ediv_of_dvd hd]
    rw [show -u = ((u.natAbs : Nat) : Int) by omega]
    exact (Int.natCast_ediv _ _).symm
  · rw [if_neg hu]
    have e2 : u = ((u.natAbs : Nat) : Int) := by omega
    conv => lhs; lhs; rw [e2]
    exact (Int.natCast_ediv _ _).symm
theorem comm_lt {b : Nat} {n u : Int} (h : u ≠ 0) (hu : u.natAbs < 2 ^ b) : (comm n u).natAbs < 2 ^ b := by
  rw [comm_abs]
  exact Nat.lt_of_le_of_lt (Nat.gcd_le_right _ (by omega)) hu
end Hv
/-! HE: one pass: what an expression, a test, arguments, a statement, a block come to from here (EV TV AV SV BV), rule by rule. -/
namespace Hv
open PySem PySem.Spec PyProof.Rows L2
structure EV (X : Cx) (e : Expr) (σ : L2.St) (H : Hp) (Q : VK) : Prop where
  ex : ∃ t : TE, PE X e t ∧ t σ H Q
structure TV (X : Cx) (e : Expr) (σ : L2.St) (H : Hp) (Q : Bool → Hp → Prop) : Prop where
  ex : ∃ t : TT, PT X e t ∧ t σ H Q
structure AV (X : Cx) (es : List Expr) (σ : L2.St) (H : Hp) (Q : List V → Hp → Prop) : Prop where
  ex : ∃ t : TA, PA X es t ∧ t σ H Q
structure SV (X : Cx) (st : Stmt) (D : Ends) (σ : L2.St) (H : Hp) : Prop where
  ex : ∃ t : TS, PS X st t ∧ t D σ H
structure BV (X : Cx) (sts : List Stmt) (D : Ends) (σ : L2.St) (H : Hp) : Prop where
  ex : ∃ t : TS, PSs X sts t ∧ t D σ H
/-- an operation on two values; a call on values -/
structure OV (X : Cx) (f : Value → Value → Sem Value) (x y : V) (H : Hp) (Q : VK) : Prop where
  ex : ∃ r : R2, OpR X f r ∧ r x y H Q
structure UV (X : Cx) (f : Value → Sem Value) (x : V) (H : Hp) (Q : VK) : Prop where
  ex : ∃ r, UnR X f r ∧ r x H Q
structure CV (X : Cx) (f : Value) (vs : List V) (H : Hp) (Q : VK) : Prop where
  ex : ∃ r, CallR X f r ∧ r vs H Q
structure IV (X : Cx) (x y : V) (H : Hp) (Q : VK) : Prop where
  ex : ∃ r, IxR X r ∧ r x y H Q
section
variable {X : Cx} {e a b c o i : Expr} {es rest : List Expr} {σ : L2.St} {H : Hp} {Q : VK} {D : Ends} {pos p apos tpos : Pos} {k : Nat}
theorem pe_ev : PE X e (EV X e) := ⟨fun pins s σ H Q I ⟨_, h, q⟩ => h.run pins s σ H Q I q⟩
theorem pt_tv : PT X e (TV X e) := ⟨fun pins s σ H Q I ⟨_, h, q⟩ => h.run pins s σ H Q I q⟩
theorem pa_av : PA X es (AV X es) := ⟨fun pos pins s σ H Q I ⟨_, h, q⟩ => h.run pos pins s σ H Q I q⟩
theorem ps_sv {st : Stmt} : PS X st (SV X st) := ⟨fun pins s σ H D I ⟨_, h, q⟩ => h.run pins s σ H D I q⟩
theorem pss_bv {sts : List Stmt} : PSs X sts (BV X sts) := ⟨fun pins s σ H D I ⟨_, h, q⟩ => h.run pins s σ H D I q⟩
theorem op_ov {f : Value → Value → Sem Value} : OpR X f (OV X f) := fun pins s σ H x y v u Q I rx ry ⟨_, h, q⟩ => h pins s σ H x y v u Q I rx ry q
theorem un_uv {f : Value → Sem Value} : UnR X f (UV X f) := fun pins s σ H x v Q I rx ⟨_, h, q⟩ => h pins s σ H x v Q I rx q
theorem call_cv {f : Value} : CallR X f (CV X f) := fun pins s σ H xs us Q I r ⟨_, h, q⟩ => h pins s σ H xs us Q I r q
theorem ix_iv : IxR X (IV X) := fun va sl pins s σ H x y v u Q I rx ry ⟨_, h, q⟩ e => h va sl pins s σ H x y v u Q I rx ry q e
theorem ev_nm {x : Str} (h : EV X (.Name x pos) σ H Q) : EV X (.Name x pos) σ H Q := h
theorem ev_cl {x : Str} (h : EV X (.Call (.Name x p) (e :: es) [] pos) σ H Q) : EV X (.Call (.Name x p) (e :: es) [] pos) σ H Q := h
theorem bv_id {sts : List Stmt} (h : BV X sts D σ H) : BV X sts D σ H := h
theorem ex_bv {sts : List Stmt} (h : BV X sts D σ H) : ∃ t, PSs X sts t ∧ t D σ H := h.ex
/-! ### expressions -/
theorem ev_var (j : Nat) {x : Str} {v : V} (hp : PE X (.Name x pos) (tVar j)) (h : σ[j]? = some (some v)) (q : Q v H) : EV X (.Name x pos) σ H Q := ⟨_, hp, v, h, q⟩
theorem ev_int {z : Int} {j : Nat} (q : Q (.int z) H) : EV X (.Constant (.int z) j pos) σ H Q := ⟨_, pe_int, q⟩
theorem ev_str {z : Str} {j : Nat} (q : Q (.str z) H) : EV X (.Constant (.str z) j pos) σ H Q := ⟨_, pe_str, q⟩
theorem ev_bl {z : Bool} {j : Nat} (q : Q (.bl z) H) : EV X (.Constant (.bool z) j pos) σ H Q := ⟨_, pe_bl, q⟩
theorem ev_non {j : Nat} (q : Q .non H) : EV X (.Constant .none j pos) σ H Q := ⟨_, pe_non, q⟩
theorem ev_op {op : Operator} (q : EV X a σ H fun x H1 => EV X b σ H1 fun y H2 => OV X (binaryOp op) x y H2 Q) : EV X (.BinOp a op b pos) σ H Q := ⟨_, pe_op op_ov pe_ev pe_ev, q⟩
theorem ev_un {op : UnaryOp} (q : EV X a σ H fun x H1 => UV X (unaryOp op) x H1 Q) : EV X (.UnaryOp op a pos) σ H Q := ⟨_, pe_un un_uv pe_ev, q⟩
theorem ev_not (q : EV X a σ H fun x H1 => ∃ k, TruV X.K x H1 k ∧ Q (.bl (!k)) H1) : EV X (.UnaryOp .Not a pos) σ H Q := ⟨_, pe_notT pe_ev, q⟩
theorem ev_cmp {op : CmpOp} (q : EV X a σ H fun x H1 => EV X b σ H1 fun y H2 => OV X (compareOp op) x y H2 Q) (hm : behindInMarks op b = false := by first | exact nobehind _ (by decide) (by decide) | rfl) : EV X (.Compare a [op] [b] pos) σ H Q := ⟨_, pe_cmpR op_ov pe_ev pe_ev hm, q⟩
theorem ev_if (q : TV X c σ H fun k H1 => if k = true then EV X a σ H1 Q else EV X b σ H1 Q) : EV X (.IfExp c a b pos) σ H Q := ⟨_, pe_ifExp pt_tv pe_ev pe_ev, q⟩
theorem ev_one {op : BoolOp} (q : EV X a σ H Q) : EV X (.BoolOp op [a] pos) σ H Q := ⟨_, pe_one pe_ev, q⟩
theorem ev_and (q : EV X a σ H fun x H1 => ∃ k, TruV X.K x H1 k ∧ if k = true then EV X (.BoolOp .And (b :: rest) pos) σ H1 Q else Q x H1) : EV X (.BoolOp .And (a :: b :: rest) pos) σ H Q := ⟨_, pe_andT pe_ev pe_ev, q⟩
theorem ev_or (q : EV X a σ H fun x H1 => ∃ k, TruV X.K x H1 k ∧ if k = true then Q x H1 else EV X (.BoolOp .Or (b :: rest) pos) σ H1 Q) : EV X (.BoolOp .Or (a :: b :: rest) pos) σ H Q := ⟨_, pe_orT pe_ev pe_ev, q⟩
theorem ev_ix (hs : PlainIx b) (q : EV X a σ H fun x H1 => EV X b σ H1 fun y H2 => IV X x y H2 Q) : EV X (.Subscript a b pos) σ H Q := ⟨_, pe_ix ix_iv pe_ev pe_ev hs, q⟩
theorem ev_tup {x1} (q : AV X es σ H fun xs H1 => xs.length ≤ sizeLine ∧ ∀ p, H1 p = none → Q (.ref p) (upd H1 p (.tup xs))) : EV X (.Tuple es x1 pos) σ H Q := ⟨_, pe_tup pa_av, q⟩
theorem ev_lst (q : AV X es σ H fun xs H1 => xs.length ≤ sizeLine ∧ ∀ p, H1 p = none → Q (.ref p) (upd H1 p (.lst xs))) : EV X (.List es pos) σ H Q := ⟨_, pe_lst pa_av, q⟩
theorem ev_gl {x : Str} {v : V} {u : Value} (hg : Gl X x) (hm : X.mg x = some u) (r : RelV v u) (q : Q v H) (hd : (x == ("__debug__" : Str)) = false := by decide) : EV X (.Name x pos) σ H Q := ⟨_, pe_glob hg hm r hd, q⟩
theorem ev_bt {x : Str} {v : V} {u : Value} (hg : Gl X x) (hm : X.mg x = none) (hv : bootBuiltins x = some u) (r : RelV v u) (q : Q v H) (hn : x ≠ "__name__" := by decide) (hd : (x == ("__debug__" : Str)) = false := by decide) : EV X (.Name x pos) σ H Q := ⟨_, pe_bltn hg hm hv r hn hd, q⟩
theorem ev_slot {f : Str} (q : EV X o σ H fun x H1 => ∃ a C dx p vs i v, x = .ref a ∧ SlX.Slt H1 a C dx vs ∧ SlX.SCls X.K C ∧ SlX.Slot1 X.K C f p i ∧ vs[i]? = some (some v) ∧ Q v H1)
    (hb : attributeBase o f X.env (eval o X.env) = eval o X.env := by rfl) : EV X (.Attribute o f pos) σ H Q := ⟨_, SlX.pe_sl pe_ev hb, q⟩
theorem ev_prop {n j : Nat} {C pr g : Addr} {nm : Str} {sp : Sp} (c : SlX.SCls X.K C) (hp : PropG X.K C nm pr g) (F : FnX X n g sp) (hr : RoomG j X.A) (hj : n + 1 ≤ j)
    (q : EV X o σ H fun x H1 => ∃ a dx vs, x = .ref a ∧ SlX.Slt H1 a C dx vs ∧ sp [.ref a] H1 Q E0) (hb : attributeBase o nm X.env (eval o X.env) = eval o X.env := by rfl) : EV X (.Attribute o nm pos) σ H Q := ⟨_, pg_prop pe_ev c hp F hr hj hb, q⟩
/-! ### arguments, calls -/
theorem av_nil {Q : List V → Hp → Prop} (q : Q [] H) : AV X [] σ H Q := ⟨_, pa_nil, q⟩
theorem av_cons {Q : List V → Hp → Prop} (q : EV X e σ H fun x H1 => AV X es σ H1 fun xs H2 => Q (x :: xs) H2) (hs : starEach (e :: es) X.env = (false, eval e X.env) :: starEach es X.env := by rfl) : AV X (e :: es) σ H Q := ⟨_, pa_cons pe_ev pa_av hs, q⟩
section
variable {x T : Str} {id Ty : String}
theorem ev_fn (hg : Gl X x) (hm : X.mg x = none) (hv : bootBuiltins x = some (.builtin id)) (q : AV X (e :: es) σ H fun vs H1 => CV X (.builtin id) vs H1 Q) (hn : x ≠ "__name__" := by decide) (hdb : (x == ("__debug__" : Str)) = false := by decide)
    (he : starEach (e :: es) X.env = (false, eval e X.env) :: starEach es X.env := by rfl) (hpl : (backTo pos (starEach es X.env)).any (·.1) = false := by rfl) : EV X (.Call (.Name x p) (e :: es) [] pos) σ H Q := ⟨_, pe_callB call_cv hg hm hv pa_av hn hdb he hpl, q⟩
theorem ev_ty (hg : Gl X x) (hm : X.mg x = none) (hv : bootBuiltins x = some (.type Ty)) (q : AV X (e :: es) σ H fun vs H1 => CV X (.type Ty) vs H1 Q) (hn : x ≠ "__name__" := by decide) (hdb : (x == ("__debug__" : Str)) = false := by decide)
    (he : starEach (e :: es) X.env = (false, eval e X.env) :: starEach es X.env := by rfl) (hpl : (backTo pos (starEach es X.env)).any (·.1) = false := by rfl) : EV X (.Call (.Name x p) (e :: es) [] pos) σ H Q := ⟨_, pe_callTy call_cv hg hm hv pa_av hn hdb he hpl, q⟩
variable {j : Nat} {sp : Sp} {E : XK} {C g : Addr}
theorem ev_call (w : GFX X k x sp) (hr : RoomG j X.A) (hj : k ≤ j) (hg : Gl X x) (hx : PassX X E) (q : AV X (e :: es) σ H fun vs H1 => sp vs H1 Q E)
    (hdb : (x == ("__debug__" : Str)) = false := by decide) (he : starEach (e :: es) X.env = (false, eval e X.env) :: starEach es X.env := by rfl)
    (hpl : (backTo pos (starEach es X.env)).any (·.1) = false := by rfl) : EV X (.Call (.Name x p) (e :: es) [] pos) σ H Q := ⟨_, pg_call w hr hj hg hx pa_av hdb he hpl, q⟩
theorem ev_make (w : GMX X k x sp) (hr : RoomG j X.A) (hj : k + 1 ≤ j) (hg : Gl X x) (hx : PassX X E) (q : AV X (e :: es) σ H fun vs H1 => sp vs H1 Q E)
    (hdb : (x == ("__debug__" : Str)) = false := by decide) (he : starEach (e :: es) X.env = (false, eval e X.env) :: starEach es X.env := by rfl)
    (hpl : (backTo pos (starEach es X.env)).any (·.1) = false := by rfl) : EV X (.Call (.Name x p) (e :: es) [] pos) σ H Q := ⟨_, pg_make w hr hj hg hx pa_av hdb he hpl, q⟩
theorem ev_meth {pl : Sem Bool} {m : Str} (w : SlX.SCls X.K C) (hm : Meth X.K C m g) (F : FnX X k g sp) (hr : RoomG j X.A) (hj : k ≤ j) (hx : PassX X E)
    (q : EV X o σ H fun x H1 => ∃ a dx vs, x = .ref a ∧ SlX.Slt H1 a C dx vs ∧ AV X (e :: es) σ H1 fun ws H2 => sp (x :: ws) H2 Q E)
    (hst : starEach (e :: es) X.env = (false, eval e X.env) :: starEach es X.env := by rfl) (hpl : (backTo pos (starEach es X.env)).any (·.1) = false := by rfl)
    (ht : eval (.Call (.Attribute o m apos) (e :: es) [] pos) X.env = (do
      let ov ← eval o X.env
      standAt apos.atName
      let (f, first) ← holding [ov] (getMethod ov m pl)
      callWith pos f first (backTo pos (starEach (e :: es) X.env)) (backToKw pos (keywordEach [] X.env))) := by rfl) :
    EV X (.Call (.Attribute o m apos) (e :: es) [] pos) σ H Q := ⟨_, pg_meth pe_ev w hm F hr hj hx pa_av hst hpl ht, q⟩
theorem ev_meth0 {pl : Sem Bool} {m : Str} (w : SlX.SCls X.K C) (hm : Meth X.K C m g) (F : FnX X k g sp) (hr : RoomG j X.A) (hj : k ≤ j) (hx : PassX X E)
    (q : EV X o σ H fun x H1 => ∃ a dx vs, x = .ref a ∧ SlX.Slt H1 a C dx vs ∧ sp [x] H1 Q E)
    (ht : eval (.Call (.Attribute o m apos) [] [] pos) X.env = (do
      let ov ← eval o X.env
      standAt apos.atName
      let (f, first) ← holding [ov] (getMethod ov m pl)
      callWith pos f first (backTo pos (starEach [] X.env)) (backToKw pos (keywordEach [] X.env))) := by rfl) :
    EV X (.Call (.Attribute o m apos) [] [] pos) σ H Q := ⟨_, pg_meth0 pe_ev w hm F hr hj hx ht, q⟩
end
/-! ### tests -/
theorem tv_cmp {op : CmpOp} {Q : Bool → Hp → Prop} (q : EV X a σ H fun x H1 => EV X b σ H1 fun y H2 => OV X (compareOp op) x y H2 fun z H3 => ∃ k, z = .bl k ∧ Q k H3) (hm : behindInMarks op b = false := by first | exact nobehind _ (by decide) (by decide) | rfl) :
    TV X (.Compare a [op] [b] pos) σ H Q := ⟨_, pt_cmpR op_ov pe_ev pe_ev hm, q⟩
theorem tv_val {Q : Bool → Hp → Prop} (q : EV X e σ H fun z H3 => ∃ k, z = .bl k ∧ Q k H3) (he : ∀ whole, isTrue e X.env whole = (do let v ← whole; standAt e.pos; holding [v] (truthy v)) := by intro _; rfl) : TV X e σ H Q := ⟨_, pt_val pe_ev he, q⟩
structure WV (X : Cx) (e : Expr) (σ : L2.St) (H : Hp) (Q : Bool → Hp → Prop) : Prop where
  ex : ∃ t : TT, PW X e t ∧ t σ H Q
theorem pw_wv : PW X e (WV X e) := ⟨fun whole pins s σ H Q I ⟨_, h, q⟩ => h.run whole pins s σ H Q I q⟩
theorem tv_wv {Q : Bool → Hp → Prop} (q : WV X e σ H Q) : TV X e σ H Q := ⟨_, pw_wv.pt, q⟩
theorem wv_and1 {Q : Bool → Hp → Prop} (q : TV X a σ H Q) : WV X (.BoolOp .And [a] pos) σ H Q := ⟨_, pw_and1 pt_tv, q⟩
theorem wv_or1 {Q : Bool → Hp → Prop} (q : TV X a σ H Q) : WV X (.BoolOp .Or [a] pos) σ H Q := ⟨_, pw_or1 pt_tv, q⟩
theorem wv_and {Q : Bool → Hp → Prop} (q : TV X a σ H fun k H1 => if k = true then WV X (.BoolOp .And (b :: rest) pos) σ H1 Q else Q false H1) : WV X (.BoolOp .And (a :: b :: rest) pos) σ H Q := ⟨_, pw_and pt_tv pw_wv, q⟩
theorem wv_or {Q : Bool → Hp → Prop} (q : TV X a σ H fun k H1 => if k = true then Q true H1 else WV X (.BoolOp .Or (b :: rest) pos) σ H1 Q) : WV X (.BoolOp .Or (a :: b :: rest) pos) σ H Q := ⟨_, pw_or pt_tv pw_wv, q⟩
theorem tv_and {Q : Bool → Hp → Prop} (q : WV X (.BoolOp .And es pos) σ H Q) : TV X (.BoolOp .And es pos) σ H Q := tv_wv q
theorem tv_or {Q : Bool → Hp → Prop} (q : WV X (.BoolOp .Or es pos) σ H Q) : TV X (.BoolOp .Or es pos) σ H Q := tv_wv q
theorem tv_not {Q : Bool → Hp → Prop} (q : TV X a σ H fun k H1 => Q (!k) H1) : TV X (.UnaryOp .Not a pos) σ H Q := ⟨_, pt_not pt_tv, q⟩
/-! ### statements -/
theorem bv_nil (q : D.nx σ H) : BV X [] D σ H := ⟨_, pss_nil, q⟩
theorem bv_cons {st : Stmt} {sts : List Stmt} (q : SV X st { D with nx := BV X sts D } σ H) : BV X (st :: sts) D σ H := ⟨_, pss_cons ps_sv pss_bv, q⟩
theorem sv_ret (q : EV X e σ H D.rt) : SV X (.Return (some e) pos) D σ H := ⟨_, ps_ret pe_ev, q⟩
theorem sv_set {x : Str} {pos' : Pos} (j : Nat) (hi : X.N[j]? = some x) (hN : X.N.Nodup) (hx : Loc X.env.scope x) (q : EV X e σ H fun v H1 => D.nx (σ.set j (some v)) H1)
    (hs : swapsWith e (some (.Name x pos')) pos.line X.env = pure false := by rfl) (hf : X.fn x = true ∨ X.env.scope.names.lookup x = some .local := by first | exact .inl rfl | exact .inr rfl | assumption) : SV X (.Assign [.Name x pos'] e pos) D σ H := ⟨_, ps_set hN hi hx pe_ev hs hf, q⟩
theorem sv_id {x : Str} {pos' : Pos} (h : SV X (.Assign [.Name x pos'] e pos) D σ H) : SV X (.Assign [.Name x pos'] e pos) D σ H := h
theorem sv_setS {x : Str} {pos' : Pos} {P : List Str} {sc : Scope} (j : Nat) (hi : X.N[j]? = some x) (S : FnScope X.N P sc) (hx : Loc X.env.scope x) (q : EV X e σ H fun v H1 => D.nx (σ.set j (some v)) H1)
    (hs : swapsWith e (some (.Name x pos')) pos.line X.env = pure false := by rfl) (hf : X.fn x = true ∨ X.env.scope.names.lookup x = some .local := by first | exact .inl rfl | exact .inr rfl | assumption) : SV X (.Assign [.Name x pos'] e pos) D σ H := sv_set j hi S.nd hx q hs hf
theorem sv_if {as bs : List Stmt} (q : TV X c σ H fun k H1 => if k = true then BV X as D σ H1 else BV X bs D σ H1) : SV X (.If c as bs pos) D σ H := ⟨_, ps_if pt_tv pss_bv pss_bv, q⟩
theorem sv_expr (q : EV X e σ H fun _ H1 => D.nx σ H1) (hs : swapsWith e none pos.line X.env = pure false := by rfl) : SV X (.Expr e pos) D σ H := ⟨_, ps_expr pe_ev hs, q⟩
theorem sv_slot {f : Str} {pos' : Pos} (q : EV X e σ H fun y H1 => EV X o σ H1 fun x H2 => ∃ a C dx p vs i, x = .ref a ∧ SlX.Slt H2 a C dx vs ∧ SlX.SCls X.K C ∧ SlX.Slot1 X.K C f p i ∧ D.nx σ (SlX.slH H2 a C dx (SlX.putS i y vs)))
    (hs : swapsWith e (some (.Attribute o f pos')) pos.line X.env = pure false := by rfl) : SV X (.Assign [.Attribute o f pos'] e pos) D σ H := ⟨_, SlX.ps_sl pe_ev pe_ev hs, q⟩
theorem sv_while {c : Expr} {body : List Stmt} (hp : PassesOwn (model X.prog X.w) X.A X.env X.xe) (Pv : L2.St → Hp → Prop) (μ : L2.St → Hp → Nat) (h0 : Pv σ H)
    (hs : ∀ σ H, Pv σ H → TV X c σ H fun b H1 => if b = true then BV X body { D with nx := fun σ' H' => Pv σ' H' ∧ μ σ' H' < μ σ H, ct := fun σ' H' => Pv σ' H' ∧ μ σ' H' < μ σ H, bk := D.nx } σ H1 else D.nx σ H1)
     : SV X (.While c body [] pos) D σ H := by
  refine ⟨fun D σ H => tWhile (fun σ H Q => ∃ R : Bool → Hp → Prop, TV X c σ H R ∧ ∀ b H1, R b H1 → Q b H1) (BV X body) D σ H, ps_while hp ⟨fun pins s σ H Q I ⟨R, h, im⟩ => ?_⟩ pss_bv, while_by Pv μ h0 (fun σ H p => ⟨_, hs σ H p, fun _ _ z => z⟩) fun σ H Q Q' im ⟨R, h, z⟩ => ⟨R, h, fun b H1 r => im b H1 (z b H1 r)⟩⟩
  refine thn (pt_tv.run pins s σ H R I h) fun b s1 ⟨H1, I1, q1⟩ => ⟨H1, I1, im b H1 q1⟩
/-! ### operations on ints, texts -/
section
variable {z w : Int}
theorem ov_add (q : Q (.int (z + w)) H) : OV X (binaryOp .Add) (.int z) (.int w) H Q := ⟨_, op_add, z, w, rfl, rfl, q⟩
theorem ov_sub (q : Q (.int (z - w)) H) : OV X (binaryOp .Sub) (.int z) (.int w) H Q := ⟨_, op_sub, z, w, rfl, rfl, q⟩
theorem ov_mul (hc : CMulW z w) (q : Q (.int (z * w)) H) : OV X (binaryOp .Mult) (.int z) (.int w) H Q := ⟨_, op_mulW, z, w, rfl, rfl, hc, q⟩
theorem ov_mod (hc : 0 < w) (q : Q (.int (z % w)) H) : OV X (binaryOp .Mod) (.int z) (.int w) H Q := ⟨_, op_mod, z, w, rfl, rfl, hc, q⟩
theorem ov_div (hc : CDivW z w) (q : Q (.int (z / w)) H) : OV X (binaryOp .FloorDiv) (.int z) (.int w) H Q := ⟨_, op_fdivW, z, w, rfl, rfl, hc, q⟩
/-- // by any divisor but nought below 2 ^ 9000 -/
def CDivZ (_ j : Int) : Prop := j ≠ 0 ∧ j.natAbs.log2 < 9000
theorem op_fdivZ : OpR X (binaryOp .FloorDiv) (rI CDivZ fun i j => .int (i.fdiv j)) := opI fun _ _ _ _ _ _ _ hc q => floordiv_int hc.1 q (.inl (PyProof.noPylong_of_log2 hc.2))
theorem ov_fdiv (hc : CDivZ z w) (q : Q (.int (z.fdiv w)) H) : OV X (binaryOp .FloorDiv) (.int z) (.int w) H Q := ⟨_, op_fdivZ, z, w, rfl, rfl, hc, q⟩
theorem ov_pow (hc : CPowW z w) (q : Q (.int (z ^ w.toNat)) H) : OV X (binaryOp .Pow) (.int z) (.int w) H Q := ⟨_, op_powW, z, w, rfl, rfl, hc, q⟩
theorem ov_lt (q : Q (.bl (decide (z < w))) H) : OV X (compareOp .Lt) (.int z) (.int w) H Q := ⟨_, op_lt, z, w, rfl, rfl, q⟩
theorem ov_le (q : Q (.bl (decide (z ≤ w))) H) : OV X (compareOp .LtE) (.int z) (.int w) H Q := ⟨_, op_le, z, w, rfl, rfl, q⟩
theorem ov_gt (q : Q (.bl (decide (w < z))) H) : OV X (compareOp .Gt) (.int z) (.int w) H Q := ⟨_, op_gt, z, w, rfl, rfl, q⟩
theorem ov_ge (q : Q (.bl (decide (w ≤ z))) H) : OV X (compareOp .GtE) (.int z) (.int w) H Q := ⟨_, op_ge, z, w, rfl, rfl, q⟩
theorem ov_eq (q : Q (.bl (decide (z = w))) H) : OV X (compareOp .Eq) (.int z) (.int w) H Q := ⟨_, op_eq, rfl, by
  rw [show decide (V.int z = V.int w) = decide (z = w) by simp]
  exact q⟩
theorem ov_ne (q : Q (.bl (!decide (z = w))) H) : OV X (compareOp .NotEq) (.int z) (.int w) H Q := ⟨_, op_ne, rfl, by
  rw [show decide (V.int z = V.int w) = decide (z = w) by simp]
  exact q⟩
theorem ov_eqs {x y : Str} (q : Q (.bl (decide (x = y))) H) : OV X (compareOp .Eq) (.str x) (.str y) H Q := ⟨_, op_eq, rfl, by
  rw [show decide (V.str x = V.str y) = decide (x = y) by simp]
  exact q⟩
theorem ov_nes {x y : Str} (q : Q (.bl (!decide (x = y))) H) : OV X (compareOp .NotEq) (.str x) (.str y) H Q := ⟨_, op_ne, rfl, by
  rw [show decide (V.str x = V.str y) = decide (x = y) by simp]
  exact q⟩
theorem uv_neg (q : Q (.int (-z)) H) : UV X (unaryOp .USub) (.int z) H Q := ⟨_, un_neg, z, rfl, q⟩
theorem cv_abs (q : Q (.int z.natAbs) H) : CV X (.builtin "abs") [.int z] H Q := ⟨_, L2.call_abs, z, rfl, by
  rw [show (if z < 0 then -z else z) = (z.natAbs : Int) by split <;> omega]
  exact q⟩
theorem cv_int (q : Q (.int z) H) : CV X (.type "int") [.int z] H Q := ⟨_, call_int1, .inl ⟨z, rfl, q⟩⟩
theorem cv_intb {b : Bool} (q : Q (.int (if b then 1 else 0)) H) : CV X (.type "int") [.bl b] H Q := ⟨_, call_int1, .inr ⟨b, rfl, q⟩⟩
theorem cv_boolb {b : Bool} (q : Q (.bl b) H) : CV X (.type "bool") [.bl b] H Q := ⟨_, call_bool1, .inr ⟨b, rfl, q⟩⟩
theorem cv_len {p : Addr} {xs : List V} (h : SqL X.K H p xs ∨ SqT X.K H p xs) (q : Q (.int xs.length) H) : CV X (.builtin "len") [.ref p] H Q := ⟨_, call_len_seq, p, xs, rfl, h, q⟩
theorem cv_max (hc : X.calm = true) (q : Q (.int (max z w)) H) : CV X (.builtin "max") [.int z, .int w] H Q := ⟨_, call_max2 hc, z, w, rfl, by
  rw [show (if w > z then w else z) = max z w by split <;> omega]
  exact q⟩
theorem cv_min (hc : X.calm = true) (q : Q (.int (min z w)) H) : CV X (.builtin "min") [.int z, .int w] H Q := ⟨_, call_min2 hc, z, w, rfl, by
  rw [show (if w < z then w else z) = min z w by split <;> omega]
  exact q⟩
theorem cv_isT {cs : List Addr} {x : V} {T : String} {k : Kind} (c : Cs X.K cs) (h : HasK X.K cs H x k) (hT : T ∈ tys := by decide) (q : Q (.bl (k.isT T)) H) : CV X (.builtin "isinstance") [x, .ty T] H Q := ⟨_, call_isT c, x, T, k, rfl, h, hT, q⟩
theorem cv_isO {cs : List Addr} {x : V} {D : Addr} {k : Kind} (c : Cs X.K cs) (h : HasK X.K cs H x k) (hD : D ∈ cs) (q : Q (.bl (decide (k = .own D))) H) : CV X (.builtin "isinstance") [x, .ref D] H Q := ⟨_, call_isO c, x, D, k, rfl, h, hD, q⟩
theorem cv_repr {k : Nat} {a : Addr} {d : PyData} (hr : RoomG k X.A) (h : Dp X.K H (.ref a) d) (h1 : d.showable = true) (h2 : d.hasDict = false) (h3 : d.depth ≤ 60) (h4 : d.shown.length ≤ sizeLine) (q : Q (.str d.shown) H) : CV X (.builtin "repr") [.ref a] H Q := ⟨_, call_reprD hr, a, d, rfl, h, h1, h2, h3, h4, q⟩
theorem iv_lst {p : Addr} {xs : List V} {v : V} (h : SqL X.K H p xs) (ha : atI xs z = some v) (q : Q v H) : IV X (.ref p) (.int z) H Q := ⟨_, ix_list, p, xs, z, v, rfl, rfl, h, ha, q⟩
theorem iv_tup {p : Addr} {xs : List V} {v : V} (h : SqT X.K H p xs) (ha : atI xs z = some v) (q : Q v H) : IV X (.ref p) (.int z) H Q := ⟨_, ix_tup, p, xs, z, v, rfl, rfl, h, ha, q⟩
end
theorem sz_ok {n : Nat} (h : n ≤ 100000) : n ≤ sizeLine := Nat.le_trans h (by decide)
theorem Same.mut {H H' : Hp} {p : Addr} {o : HO} (e : Same H H') (h : H p = none) : Same H (upd H' p o) := fun a u ha => by
  rw [upd_ne (ne_of_none ha h)]
  exact e a u ha
theorem ExB.mut {q : Addr} {H H' : Hp} {p : Addr} {o : HO} (e : ExB q H H') (h : H p = none) : ExB q H (upd H' p o) := fun a u n ha => by
  rw [upd_ne (ne_of_none ha h)]
  exact e a u n ha
theorem Same.tr {H H1 H2 : Hp} (b : Same H1 H2) (a : Same H H1) : Same H H2 := a.trans b
theorem Same.nw {H H' : Hp} {q : Addr} {o : HO} (h : H' q = none) (e : Same H H') : Same H (upd H' q o) := Same.new e h
theorem ExB.tr {p : Addr} {H H1 H2 : Hp} (b : ExB p H1 H2) (a : ExB p H H1) : ExB p H H2 := a.trans b
theorem ExB.trs {p : Addr} {H H1 H2 : Hp} (b : Same H1 H2) (a : ExB p H H1) : ExB p H H2 := a.trans (Same.exb b)
theorem ExB.nw {p : Addr} {H H' : Hp} {q : Addr} {o : HO} (h : H' q = none) (e : ExB p H H') : ExB p H (upd H' q o) := ExB.new e h
theorem all_at {Pr : V → Prop} {xs : List V} {i : Nat} {v : V} (h : ∀ x ∈ xs, Pr x) (e : xs[i]? = some v) : Pr v := h v (List.mem_of_getElem? e)
/-- a test whose answer is a decision -/
theorem ite_dec {p A B : Prop} [Decidable p] (h1 : p → A) (h2 : ¬ p → B) : if decide p = true then A else B := by
  by_cases h : p
  · rw [decide_eq_true h]; exact h1 h
  · rw [decide_eq_false h]; exact h2 h
theorem ite_decN {p A B : Prop} [Decidable p] (h1 : ¬ p → A) (h2 : p → B) : if (!decide p) = true then A else B := by
  by_cases h : p
  · rw [decide_eq_true h]; exact h2 h
  · rw [decide_eq_false h]; exact h1 h
theorem ite_dec1 {p A B : Prop} [Decidable p] (h : p) (a : A) : if decide p = true then A else B := by rw [decide_eq_true h]; exact a
theorem ite_dec0 {p A B : Prop} [Decidable p] (h : ¬ p) (a : B) : if decide p = true then A else B := by rw [decide_eq_false h]; exact a
theorem ite_decN1 {p A B : Prop} [Decidable p] (h : ¬ p) (a : A) : if (!decide p) = true then A else B := by rw [decide_eq_false h]; exact a
theorem ite_decN0 {p A B : Prop} [Decidable p] (h : p) (a : B) : if (!decide p) = true then A else B := by rw [decide_eq_true h]; exact a
theorem ite_b {b : Bool} {A B : Prop} (h1 : b = true → A) (h2 : b = false → B) : if b = true then A else B := by
  cases b
  · exact h2 rfl
  · exact h1 rfl
end
end Hv
/-! HF: names of the built-in things, loops and comprehensions in one pass, scopes, heaps. -/
namespace Hv
open PySem PySem.Spec PyProof.Rows L2
/-- the module does not shadow these -/
def blts : List Str := ["abs", "all", "any", "bool", "dict", "enumerate", "int", "isinstance", "len", "list", "max", "min", "range", "repr", "reversed", "sorted", "str", "sum", "tuple", "type", "zip", "NotImplemented", "set", "ValueError"]
def Blt (mg : Str → Option Value) : Prop := ∀ x ∈ blts, mg x = none
section
variable {mg : Str → Option Value}
theorem Blt.at_ (h : Blt mg) (i : Nat) {x : Str} (e : blts[i]? = some x := by rfl) : mg x = none := h x (List.mem_of_getElem? e)
end
def scB (N P : List Str) (sc : Scope) : Bool := (match sc.kind with | .function => true | _ => false) && (!sc.isCoroutine) && (!sc.isGenerator) && decide N.Nodup && decide (N.take P.length = P) &&
  (P.all fun x => decide (sc.names.lookup x = some .local) || decide (sc.names.lookup x = some .cell)) && (sc.names.all fun y => match y.2 with | .free => false | _ => true)
theorem sc_ok {N P : List Str} {sc : Scope} (h : scB N P sc = true) : FnScope N P sc := by
  unfold scB at h
  simp only [Bool.and_eq_true, Bool.not_eq_true', List.all_eq_true, decide_eq_true_eq, Bool.or_eq_true] at h
  obtain ⟨⟨⟨⟨⟨⟨h1, h2⟩, h3⟩, h4⟩, h5⟩, h6⟩, h7⟩ := h
  refine ⟨?_, h2, h3, h4, h5, h6, fun y hy e => ?_⟩
  · split at h1
    · assumption
    · cases h1
  · have q := h7 y hy
    rw [e] at q
    cases q
section
variable {X : Cx} {e : Expr} {es : List Expr} {σ : L2.St} {H : Hp} {Q : VK} {pos p : Pos}
theorem ev_abs (B : Blt X.mg) (q : AV X (e :: es) σ H fun vs H1 => CV X (.builtin "abs") vs H1 Q) (hg : Gl X "abs" := by rfl) (he : starEach (e :: es) X.env = (false, eval e X.env) :: starEach es X.env := by rfl)
    (hpl : (backTo pos (starEach es X.env)).any (·.1) = false := by rfl) : EV X (.Call (.Name "abs" p) (e :: es) [] pos) σ H Q := ev_fn hg (B.at_ 0) boot_abs q (he := he) (hpl := hpl)
theorem ev_all (B : Blt X.mg) (q : AV X (e :: es) σ H fun vs H1 => CV X (.builtin "all") vs H1 Q) (hg : Gl X "all" := by rfl) (he : starEach (e :: es) X.env = (false, eval e X.env) :: starEach es X.env := by rfl)
    (hpl : (backTo pos (starEach es X.env)).any (·.1) = false := by rfl) : EV X (.Call (.Name "all" p) (e :: es) [] pos) σ H Q := ev_fn hg (B.at_ 1) boot_all q (he := he) (hpl := hpl)
theorem ev_any (B : Blt X.mg) (q : AV X (e :: es) σ H fun vs H1 => CV X (.builtin "any") vs H1 Q) (hg : Gl X "any" := by rfl) (he : starEach (e :: es) X.env = (false, eval e X.env) :: starEach es X.env := by rfl)
    (hpl : (backTo pos (starEach es X.env)).any (·.1) = false := by rfl) : EV X (.Call (.Name "any" p) (e :: es) [] pos) σ H Q := ev_fn hg (B.at_ 2) boot_any q (he := he) (hpl := hpl)
theorem ev_isinst (B : Blt X.mg) (q : AV X (e :: es) σ H fun vs H1 => CV X (.builtin "isinstance") vs H1 Q) (hg : Gl X "isinstance" := by rfl) (he : starEach (e :: es) X.env = (false, eval e X.env) :: starEach es X.env := by rfl)
    (hpl : (backTo pos (starEach es X.env)).any (·.1) = false := by rfl) : EV X (.Call (.Name "isinstance" p) (e :: es) [] pos) σ H Q := ev_fn hg (B.at_ 7) boot_isinstance q (he := he) (hpl := hpl)
theorem ev_len (B : Blt X.mg) (q : AV X (e :: es) σ H fun vs H1 => CV X (.builtin "len") vs H1 Q) (hg : Gl X "len" := by rfl) (he : starEach (e :: es) X.env = (false, eval e X.env) :: starEach es X.env := by rfl)
    (hpl : (backTo pos (starEach es X.env)).any (·.1) = false := by rfl) : EV X (.Call (.Name "len" p) (e :: es) [] pos) σ H Q := ev_fn hg (B.at_ 8) boot_len q (he := he) (hpl := hpl)
theorem ev_max (B : Blt X.mg) (q : AV X (e :: es) σ H fun vs H1 => CV X (.builtin "max") vs H1 Q) (hg : Gl X "max" := by rfl) (he : starEach (e :: es) X.env = (false, eval e X.env) :: starEach es X.env := by rfl)
    (hpl : (backTo pos (starEach es X.env)).any (·.1) = false := by rfl) : EV X (.Call (.Name "max" p) (e :: es) [] pos) σ H Q := ev_fn hg (B.at_ 10) boot_max q (he := he) (hpl := hpl)
theorem ev_min (B : Blt X.mg) (q : AV X (e :: es) σ H fun vs H1 => CV X (.builtin "min") vs H1 Q) (hg : Gl X "min" := by rfl) (he : starEach (e :: es) X.env = (false, eval e X.env) :: starEach es X.env := by rfl)
    (hpl : (backTo pos (starEach es X.env)).any (·.1) = false := by rfl) : EV X (.Call (.Name "min" p) (e :: es) [] pos) σ H Q := ev_fn hg (B.at_ 11) boot_min q (he := he) (hpl := hpl)
theorem ev_repr (B : Blt X.mg) (q : AV X (e :: es) σ H fun vs H1 => CV X (.builtin "repr") vs H1 Q) (hg : Gl X "repr" := by rfl) (he : starEach (e :: es) X.env = (false, eval e X.env) :: starEach es X.env := by rfl)
    (hpl : (backTo pos (starEach es X.env)).any (·.1) = false := by rfl) : EV X (.Call (.Name "repr" p) (e :: es) [] pos) σ H Q := ev_fn hg (B.at_ 13) boot_repr q (he := he) (hpl := hpl)
theorem ev_sorted (B : Blt X.mg) (q : AV X (e :: es) σ H fun vs H1 => CV X (.builtin "sorted") vs H1 Q) (hg : Gl X "sorted" := by rfl) (he : starEach (e :: es) X.env = (false, eval e X.env) :: starEach es X.env := by rfl)
    (hpl : (backTo pos (starEach es X.env)).any (·.1) = false := by rfl) : EV X (.Call (.Name "sorted" p) (e :: es) [] pos) σ H Q := ev_fn hg (B.at_ 15) boot_sorted q (he := he) (hpl := hpl)
theorem ev_sum (B : Blt X.mg) (q : AV X (e :: es) σ H fun vs H1 => CV X (.builtin "sum") vs H1 Q) (hg : Gl X "sum" := by rfl) (he : starEach (e :: es) X.env = (false, eval e X.env) :: starEach es X.env := by rfl)
    (hpl : (backTo pos (starEach es X.env)).any (·.1) = false := by rfl) : EV X (.Call (.Name "sum" p) (e :: es) [] pos) σ H Q := ev_fn hg (B.at_ 17) boot_sum q (he := he) (hpl := hpl)
theorem ev_boolc (B : Blt X.mg) (q : AV X (e :: es) σ H fun vs H1 => CV X (.type "bool") vs H1 Q) (hg : Gl X "bool" := by rfl) (he : starEach (e :: es) X.env = (false, eval e X.env) :: starEach es X.env := by rfl)
    (hpl : (backTo pos (starEach es X.env)).any (·.1) = false := by rfl) : EV X (.Call (.Name "bool" p) (e :: es) [] pos) σ H Q := ev_ty hg (B.at_ 3) boot_bool q (he := he) (hpl := hpl)
theorem ev_dictc (B : Blt X.mg) (q : AV X (e :: es) σ H fun vs H1 => CV X (.type "dict") vs H1 Q) (hg : Gl X "dict" := by rfl) (he : starEach (e :: es) X.env = (false, eval e X.env) :: starEach es X.env := by rfl)
    (hpl : (backTo pos (starEach es X.env)).any (·.1) = false := by rfl) : EV X (.Call (.Name "dict" p) (e :: es) [] pos) σ H Q := ev_ty hg (B.at_ 4) boot_dict q (he := he) (hpl := hpl)
theorem ev_intc (B : Blt X.mg) (q : AV X (e :: es) σ H fun vs H1 => CV X (.type "int") vs H1 Q) (hg : Gl X "int" := by rfl) (he : starEach (e :: es) X.env = (false, eval e X.env) :: starEach es X.env := by rfl)
    (hpl : (backTo pos (starEach es X.env)).any (·.1) = false := by rfl) : EV X (.Call (.Name "int" p) (e :: es) [] pos) σ H Q := ev_ty hg (B.at_ 6) boot_int q (he := he) (hpl := hpl)
theorem ev_listc (B : Blt X.mg) (q : AV X (e :: es) σ H fun vs H1 => CV X (.type "list") vs H1 Q) (hg : Gl X "list" := by rfl) (he : starEach (e :: es) X.env = (false, eval e X.env) :: starEach es X.env := by rfl)
    (hpl : (backTo pos (starEach es X.env)).any (·.1) = false := by rfl) : EV X (.Call (.Name "list" p) (e :: es) [] pos) σ H Q := ev_ty hg (B.at_ 9) boot_list q (he := he) (hpl := hpl)
theorem ev_strc (B : Blt X.mg) (q : AV X (e :: es) σ H fun vs H1 => CV X (.type "str") vs H1 Q) (hg : Gl X "str" := by rfl) (he : starEach (e :: es) X.env = (false, eval e X.env) :: starEach es X.env := by rfl)
    (hpl : (backTo pos (starEach es X.env)).any (·.1) = false := by rfl) : EV X (.Call (.Name "str" p) (e :: es) [] pos) σ H Q := ev_ty hg (B.at_ 16) boot_str q (he := he) (hpl := hpl)
theorem ev_tuplec (B : Blt X.mg) (q : AV X (e :: es) σ H fun vs H1 => CV X (.type "tuple") vs H1 Q) (hg : Gl X "tuple" := by rfl) (he : starEach (e :: es) X.env = (false, eval e X.env) :: starEach es X.env := by rfl)
    (hpl : (backTo pos (starEach es X.env)).any (·.1) = false := by rfl) : EV X (.Call (.Name "tuple" p) (e :: es) [] pos) σ H Q := ev_ty hg (B.at_ 18) boot_tuple q (he := he) (hpl := hpl)
theorem ev_nint (B : Blt X.mg) (q : Q (.ty "int") H) (hg : Gl X "int" := by rfl) : EV X (.Name "int" pos) σ H Q := ev_bt hg (B.at_ 6) boot_int (v := .ty "int") rfl q
theorem ev_nbool (B : Blt X.mg) (q : Q (.ty "bool") H) (hg : Gl X "bool" := by rfl) : EV X (.Name "bool" pos) σ H Q := ev_bt hg (B.at_ 3) boot_bool (v := .ty "bool") rfl q
theorem ev_nstr (B : Blt X.mg) (q : Q (.ty "str") H) (hg : Gl X "str" := by rfl) : EV X (.Name "str" pos) σ H Q := ev_bt hg (B.at_ 16) boot_str (v := .ty "str") rfl q
theorem ev_ndict (B : Blt X.mg) (q : Q (.ty "dict") H) (hg : Gl X "dict" := by rfl) : EV X (.Name "dict" pos) σ H Q := ev_bt hg (B.at_ 4) boot_dict (v := .ty "dict") rfl q
theorem ev_nlist (B : Blt X.mg) (q : Q (.ty "list") H) (hg : Gl X "list" := by rfl) : EV X (.Name "list" pos) σ H Q := ev_bt hg (B.at_ 9) boot_list (v := .ty "list") rfl q
theorem ev_ntuple (B : Blt X.mg) (q : Q (.ty "tuple") H) (hg : Gl X "tuple" := by rfl) : EV X (.Name "tuple" pos) σ H Q := ev_bt hg (B.at_ 18) boot_tuple (v := .ty "tuple") rfl q
theorem boot_VE : bootBuiltins "ValueError" = some (.type "ValueError") := by decide +kernel
theorem ev_nVE (B : Blt X.mg) (q : Q (.ty "ValueError") H) (hg : Gl X "ValueError" := by rfl) : EV X (.Name "ValueError" pos) σ H Q := ev_bt hg (B.at_ 23) boot_VE (v := .ty "ValueError") rfl q
theorem cv_all (hc : X.calm = true) {a : Addr} {bs : List Bool} (h : SqL X.K H a (bs.map V.bl)) (q : Q (.bl (bs.all id)) H) : CV X (.builtin "all") [.ref a] H Q := ⟨_, cr_all hc, a, bs, rfl, h, q⟩
theorem cv_any (hc : X.calm = true) {a : Addr} {bs : List Bool} (h : SqL X.K H a (bs.map V.bl)) (q : Q (.bl (bs.any id)) H) : CV X (.builtin "any") [.ref a] H Q := ⟨_, cr_any hc, a, bs, rfl, h, q⟩
theorem ex_bl {P : Bool → Prop} {b : Bool} (q : P b) : ∃ k, V.bl b = .bl k ∧ P k := ⟨b, rfl, q⟩
theorem tru_bl {K : PySem.W.Frag} {P : Bool → Prop} {b : Bool} (q : P b) : ∃ k, TruV K (.bl b) H k ∧ P k := ⟨b, rfl, q⟩
end
/-! ### heaps -/
theorem upd_keep {H : Hp} {p a : Addr} {o u : HO} (hp : H p = none) (h : H a = some u) : upd H p o a = some u := by
  rw [upd_ne (ne_of_none h hp)]
  exact h
theorem Same.get {H H' : Hp} {a : Addr} {u : HO} (e : Same H H') (h : H a = some u) : H' a = some u := e _ _ h
theorem ExB.get {p : Addr} {H H' : Hp} {a : Addr} {u : HO} (e : ExB p H H') (n : a ≠ p) (h : H a = some u) : H' a = some u := e _ _ n h
theorem ExB.gt {p : Addr} {H H' : Hp} {a : Addr} {u : HO} (e : ExB p H H') (h : H a = some u) (n : a ≠ p) : H' a = some u := e _ _ n h
theorem same_upd {H : Hp} {p : Addr} {o : HO} (hp : H p = none) : Same H (upd H p o) := fun _ _ h => upd_keep hp h
/-! ### comprehensions over a list -/
section
variable {X : Cx} {elt tg iter : Expr} {scope : Scope} {own : List (Str × Nat)} {σ : L2.St} {H : Hp} {Q : VK} {pos : Pos}
abbrev Cx.blk0 (X : Cx) (scope : Scope) (s : Shared) (H : Hp) (C : Addr) (cl : List (Str × Addr)) (fp : List Addr) : Cx := X.blk s H scope (compEnvC scope cl C X.env) fp
/-- the element in every frame of the comprehension's own -/
def LE (X : Cx) (scope : Scope) (elt : Expr) : TE := fun σ H Q => ∀ (s : Shared) (H0 : Hp) (C : Addr) (cl : List (Str × Addr)) (fp : List Addr), EV (Cx.blk0 X scope s H0 C cl fp) elt σ H Q
def LT (X : Cx) (scope : Scope) (e : Expr) : TT := fun σ H Q => ∀ (s : Shared) (H0 : Hp) (C : Addr) (cl : List (Str × Addr)) (fp : List Addr), TV (Cx.blk0 X scope s H0 C cl fp) e σ H Q
theorem pe_le (s : Shared) (H0 : Hp) (C : Addr) (cl : List (Str × Addr)) (fp : List Addr) : PE (Cx.blk0 X scope s H0 C cl fp) elt (LE X scope elt) :=
  ⟨fun pins s' σ H Q I h => pe_ev.run pins s' σ H Q I (h s H0 C cl fp)⟩
theorem pt_lt (s : Shared) (H0 : Hp) (C : Addr) (cl : List (Str × Addr)) (fp : List Addr) : PT (Cx.blk0 X scope s H0 C cl fp) elt (LT X scope elt) :=
  ⟨fun pins s' σ H Q I h => pt_tv.run pins s' σ H Q I (h s H0 C cl fp)⟩
theorem ev_mono {e : Expr} {Q' : VK} (h : EV X e σ H Q) (im : ∀ v H', Q v H' → Q' v H') : EV X e σ H Q' :=
  ⟨fun σ H Q' => ∃ Q, EV X e σ H Q ∧ ∀ v H', Q v H' → Q' v H', ⟨fun pins s σ H Q' I ⟨Q, h, im⟩ => thn (pe_ev.run pins s σ H Q I h) fun u s' ⟨v, H', I', r, q⟩ => ⟨v, H', I', r, im _ _ q⟩⟩, Q, h, im⟩
theorem tv_mono {e : Expr} {Q Q' : Bool → Hp → Prop} (h : TV X e σ H Q) (im : ∀ v H', Q v H' → Q' v H') : TV X e σ H Q' :=
  ⟨fun σ H Q' => ∃ Q, TV X e σ H Q ∧ ∀ v H', Q v H' → Q' v H', ⟨fun pins s σ H Q' I ⟨Q, h, im⟩ => thn (pt_tv.run pins s σ H Q I h) fun u s' ⟨H', I', q⟩ => ⟨H', I', im _ _ q⟩⟩, Q, h, im⟩
theorem av_mono {es : List Expr} {Q Q' : List V → Hp → Prop} (h : AV X es σ H Q) (im : ∀ v H', Q v H' → Q' v H') : AV X es σ H Q' :=
  ⟨fun σ H Q' => ∃ Q, AV X es σ H Q ∧ ∀ v H', Q v H' → Q' v H', ⟨fun pos pins s σ H Q' I ⟨Q, h, im⟩ => thn (pa_av.run pos pins s σ H Q I h) fun u s' ⟨v, H', I', r, q⟩ => ⟨v, H', I', r, im _ _ q⟩⟩, Q, h, im⟩
/-- [elt for tg in iter], iter walked as J: In by the turns done and what they gave -/
theorem ev_lc {wi : TI} {g : TG} (hc : X.calm = true) (hN : X.N.Nodup) (hi : PI X tg iter wi) (ok : BlkOk X.N X.env.scope scope own)
    (hg : ∀ (s : Shared) (H : Hp) (C : Addr) (cl : List (Str × Addr)) (fp : List Addr), PG (Cx.blk0 X scope s H C cl fp) tg g)
    (gm : ∀ x σ H Q Q', (∀ σ' H', Q σ' H' → Q' σ' H') → g x σ H Q → g x σ H Q')
    (wm : ∀ σ H R R', (∀ J H', R J H' → R' J H') → wi σ H R → wi σ H R') (hs : ∀ x, foldedSetIterable iter X.env x = pure x)
    (q : wi σ H fun J H1 => ∃ n Y G, Walk J n G Y ∧ n ≤ 100000 ∧ ∀ D, H1 D = none → ∃ In : Nat → List V → Hp → Prop, In 0 [] (upd H1 D (.lst [])) ∧ (∀ i ys H, In i ys H → G H) ∧
      (∀ i ys x H H', i < n → ys.length = i → H D = some (.lst ys) → In i ys H → Y i H x H' → g x (wipe σ (own.map (·.2))) H' fun σ2 H2 => wipe σ2 (own.map (·.2)) = wipe σ (own.map (·.2)) ∧
        LE X scope elt σ2 H2 fun y H4 => H4 D = some (.lst ys) ∧ In (i + 1) (ys ++ [y]) (upd H4 D (.lst (ys ++ [y])))) ∧
      ∀ ys H, ys.length = n → H D = some (.lst ys) → In n ys H → Q (.ref D) H) :
    EV X (.ListComp elt [⟨tg, iter, [], 0⟩] scope pos) σ H Q := by
  refine ⟨_, pe_lc hc hN hi ok hg (fun _ _ _ _ _ => pts_nil) (fun s H C cl fp => pe_le s H C cl fp) hs, ?_⟩
  refine wm _ _ _ _ (fun J H1 h D hD => ?_) q
  obtain ⟨n, Y, G, w, hn, h⟩ := h
  obtain ⟨In, h0, hG, hs, hd⟩ := h D hD
  refine lc_it w (fun i H => ∃ ys, ys.length = i ∧ H D = some (.lst ys) ∧ In i ys H) ⟨[], rfl, upd_same, h0⟩ (fun i H _ ⟨ys, _, _, a⟩ => hG i ys H a) ?_ (fun H ⟨ys, a, b, c⟩ => hd ys H a b c)
  rintro i x H H' hi ⟨ys, e1, e2, e3⟩ y
  refine gm _ _ _ _ _ (fun σ2 H2 h2 => ⟨h2.1, ?_⟩) (hs i ys x H H' hi e1 e2 e3 y)
  dsimp only [tYes]
  rw [if_pos rfl]
  intro s H0 C cl fp
  refine ev_mono (e := elt) (h2.2 s H0 C cl fp) fun y H4 z => ⟨ys, z.1, ?_, ys ++ [y], by simp [e1], upd_same, z.2⟩
  have : (100000 : Nat) < sizeLine := by decide
  omega
theorem gname_mono {j : Nat} : ∀ x σ H Q Q', (∀ σ' H', Q σ' H' → Q' σ' H') → gName j x σ H Q → gName j x σ H Q' := fun _ _ _ _ _ im h => im _ _ h
theorem gtup2_mono {K : PySem.W.Frag} {i j : Nat} : ∀ x σ H Q Q', (∀ σ' H', Q σ' H' → Q' σ' H') → gTup K 2 (gCons (gName i) (gCons (gName j) gNil)) x σ H Q → gTup K 2 (gCons (gName i) (gCons (gName j) gNil)) x σ H Q' :=
  fun _ _ _ _ _ im ⟨a, xs, h1, h2, h3, v, r, h4, v2, r2, h5, h6, h7⟩ => ⟨a, xs, h1, h2, h3, v, r, h4, v2, r2, h5, h6, im _ _ h7⟩
/-- over a list, one name -/
theorem ev_lcL (j : Nat) {x : Str} {px : Pos} (hc : X.calm = true) (hN : X.N.Nodup) (ok : BlkOk X.N X.env.scope scope own)
    (hg : ∀ (s : Shared) (H : Hp) (C : Addr) (cl : List (Str × Addr)) (fp : List Addr), PG (Cx.blk0 X scope s H C cl fp) (.Name x px) (gName j)) (hw : ∀ v, wipe ((wipe σ (own.map (·.2))).set j (some v)) (own.map (·.2)) = wipe σ (own.map (·.2)))
    (q : EV X iter σ H fun v H1 => ∃ a xs, v = .ref a ∧ SqL X.K H1 a xs ∧ xs.length ≤ 100000 ∧ ∀ D, H1 D = none → ∃ In : Nat → List V → Hp → Prop, In 0 [] (upd H1 D (.lst [])) ∧ (∀ i ys H, In i ys H → SqL X.K H a xs) ∧
      (∀ i ys v H, xs[i]? = some v → ys.length = i → H D = some (.lst ys) → In i ys H → LE X scope elt ((wipe σ (own.map (·.2))).set j (some v)) H fun y H4 => H4 D = some (.lst ys) ∧ In (i + 1) (ys ++ [y]) (upd H4 D (.lst (ys ++ [y])))) ∧
      ∀ ys H, ys.length = xs.length → H D = some (.lst ys) → In xs.length ys H → Q (.ref D) H) (hs : ∀ x, foldedSetIterable iter X.env x = pure x := by intro _; rfl) :
    EV X (.ListComp elt [⟨.Name x px, iter, [], 0⟩] scope pos) σ H Q := by
  refine ev_lc hc hN (pi_list pe_ev) ok hg gname_mono (fun σ H R R' im h => ev_mono h fun v H' ⟨a, h1, h2, h3⟩ => ⟨a, h1, h2, im _ _ h3⟩) hs ?_
  refine ev_mono q fun v H1 ⟨a, xs, h1, h2, h3, h4⟩ => ⟨a, h1, ⟨xs, h2⟩, xs.length, _, _, walk_list, h3, fun D hD => ?_⟩
  obtain ⟨In, h0, hG, hs, hd⟩ := h4 D hD
  exact ⟨In, h0, hG, fun i ys v H H' hi e1 e2 e3 ⟨e4, e5⟩ => by subst e4; exact ⟨hw v, hs i ys v _ e5 e1 e2 e3⟩, hd⟩
/-- over range(e), one name -/
theorem ev_lcR (j : Nat) {x : Str} {px p p2 : Pos} {e : Expr} (B : Blt X.mg) (hc : X.calm = true) (hN : X.N.Nodup) (ok : BlkOk X.N X.env.scope scope own)
    (hg : ∀ (s : Shared) (H : Hp) (C : Addr) (cl : List (Str × Addr)) (fp : List Addr), PG (Cx.blk0 X scope s H C cl fp) (.Name x px) (gName j)) (hw : ∀ v, wipe ((wipe σ (own.map (·.2))).set j (some v)) (own.map (·.2)) = wipe σ (own.map (·.2)))
    (q : AV X [e] σ H fun vs H1 => ∃ n : Nat, vs = [.int n] ∧ n ≤ 100000 ∧ ∀ D, H1 D = none → ∃ In : Nat → List V → Hp → Prop, In 0 [] (upd H1 D (.lst [])) ∧
      (∀ i ys H, i < n → ys.length = i → H D = some (.lst ys) → In i ys H → LE X scope elt ((wipe σ (own.map (·.2))).set j (some (.int i))) H fun y H4 => H4 D = some (.lst ys) ∧ In (i + 1) (ys ++ [y]) (upd H4 D (.lst (ys ++ [y])))) ∧
      ∀ ys H, ys.length = n → H D = some (.lst ys) → In n ys H → Q (.ref D) H) (hgl : Gl X "range" := by rfl) (hst : starEach [e] X.env = [(false, eval e X.env)] := by rfl) (hs : ∀ x, foldedSetIterable (.Call (.Name "range" p) [e] [] p2) X.env x = pure x := by intro _; rfl) :
    EV X (.ListComp elt [⟨.Name x px, .Call (.Name "range" p) [e] [] p2, [], 0⟩] scope pos) σ H Q := by
  refine ev_lc hc hN (pi_range1 hgl (B.at_ 12) pa_av hst) ok hg gname_mono (fun σ H R R' im h => av_mono h fun v H' ⟨a, h1, h2, h3, h4⟩ => ⟨a, h1, h2, h3, im _ _ h4⟩) hs ?_
  refine av_mono q fun v H1 ⟨n, h1, h3, h4⟩ => ⟨n, h1, by omega, by omega, n, _, _, walk_range, h3, fun D hD => ?_⟩
  obtain ⟨In, h0, hs, hd⟩ := h4 D hD
  exact ⟨In, h0, fun _ _ _ _ => trivial, fun i ys v H H' hi e1 e2 e3 ⟨e4, e5⟩ => by
    subst e4 e5
    have z : (0 : Int) + (i : Int) = i := by omega
    show gName j (V.int ((0 : Int) + (i : Int))) _ _ _
    rw [z]
    exact ⟨hw _, hs i ys _ hi e1 e2 e3⟩, hd⟩
/-- over zip of two lists, two names -/
theorem ev_lcZ (j k : Nat) {x y : Str} {px py pt p p2 : Pos} {kk : Nat} {e e2 : Expr} (B : Blt X.mg) (hc : X.calm = true) (hN : X.N.Nodup) (ok : BlkOk X.N X.env.scope scope own)
    (hg : ∀ (s : Shared) (H : Hp) (C : Addr) (cl : List (Str × Addr)) (fp : List Addr), PG (Cx.blk0 X scope s H C cl fp) (.Tuple [.Name x px, .Name y py] kk pt) (gTup X.K 2 (gCons (gName j) (gCons (gName k) gNil))))
    (hw : ∀ v w, wipe (((wipe σ (own.map (·.2))).set j (some v)).set k (some w)) (own.map (·.2)) = wipe σ (own.map (·.2)))
    (q : AV X [e, e2] σ H fun vs H1 => ∃ a b xs zs, vs = [.ref a, .ref b] ∧ SqL X.K H1 a xs ∧ SqL X.K H1 b zs ∧ xs.length ≤ 100000 ∧ ∀ D, H1 D = none → ∃ In : Nat → List V → Hp → Prop, In 0 [] (upd H1 D (.lst [])) ∧ (∀ i ys H, In i ys H → SqL X.K H a xs ∧ SqL X.K H b zs) ∧
      (∀ i ys v w H T, xs[i]? = some v → zs[i]? = some w → ys.length = i → H D = some (.lst ys) → In i ys H → H T = none → LE X scope elt (((wipe σ (own.map (·.2))).set j (some v)).set k (some w)) (upd H T (.tup [v, w])) fun y H4 => H4 D = some (.lst ys) ∧ In (i + 1) (ys ++ [y]) (upd H4 D (.lst (ys ++ [y])))) ∧
      ∀ ys H, ys.length = min xs.length zs.length → H D = some (.lst ys) → In (min xs.length zs.length) ys H → Q (.ref D) H) (hgl : Gl X "zip" := by rfl)
    (hst : starEach [e, e2] X.env = (false, eval e X.env) :: starEach [e2] X.env := by rfl) (hpl : (backTo p2 (starEach [e2] X.env)).any (·.1) = false := by rfl) (hs : ∀ x, foldedSetIterable (.Call (.Name "zip" p) [e, e2] [] p2) X.env x = pure x := by intro _; rfl) :
    EV X (.ListComp elt [⟨.Tuple [.Name x px, .Name y py] kk pt, .Call (.Name "zip" p) [e, e2] [] p2, [], 0⟩] scope pos) σ H Q := by
  refine ev_lc hc hN (RZ.pi_zipA hgl (B.at_ 20) pa_av hst hpl) ok hg gtup2_mono (fun σ H R R' im h => av_mono h fun v H' ⟨a, b, xs, ys, h1, h2⟩ => ⟨a, b, xs, ys, h1, h2.elim (fun h => .inl ⟨h.1, h.2.1, im _ _ h.2.2⟩) fun h => .inr ⟨h.1, h.2.1, im _ _ h.2.2⟩⟩) hs ?_
  refine av_mono q fun v H1 ⟨a, b, xs, zs, h1, h2, h3, h5, h4⟩ => ⟨a, b, xs, zs, h1, .inl ⟨h2, h3, min xs.length zs.length, _, _, walk_zip (xs := xs) (ys := zs) rfl, by omega, fun D hD => ?_⟩⟩
  obtain ⟨In, h0, hG, hs, hd⟩ := h4 D hD
  refine ⟨In, h0, hG, fun i ys v H H' hi e1 e2 e3 ⟨T, v1, w1, e4, e5, e6, e7, e8⟩ => ?_, hd⟩
  subst e4 e6
  exact ⟨T, [v1, w1], rfl, .of upd_same, rfl, v1, [w1], rfl, w1, [], rfl, rfl, hw _ _, hs i ys v1 w1 H T e7 e8 e1 e2 e3 e5⟩
end
/-! ### for -/
section
variable {X : Cx} {D : Ends} {σ : L2.St} {H : Hp} {pos : Pos} {body : List Stmt}
theorem sv_for {tg iter : Expr} {wi : TI} {g : TG} (hp : PassesOwn (model X.prog X.w) X.A X.env X.xe) (hc : X.calm = true) (hi : PI X tg iter wi) (hg : PG X tg g)
    (gm : ∀ x σ H Q Q', (∀ σ' H', Q σ' H' → Q' σ' H') → g x σ H Q → g x σ H Q')
    (wm : ∀ σ H R R', (∀ J H', R J H' → R' J H') → wi σ H R → wi σ H R') (hs : ∀ x, foldedSetIterable iter X.env x = pure x)
    (q : wi σ H fun J H1 => ∃ n Y G, Walk J n G Y ∧ ∃ Pv : Nat → L2.St → Hp → Prop, Pv 0 σ H1 ∧ (∀ i σ H, Pv i σ H → G H) ∧
      (∀ i x σ H H', i < n → Pv i σ H → Y i H x H' → g x σ H' fun σ2 H2 => BV X body { D with nx := Pv (i + 1), ct := Pv (i + 1), bk := D.nx } σ2 H2) ∧ ∀ σ H, Pv n σ H → D.nx σ H) :
    SV X (.For tg iter body [] pos) D σ H := by
  refine ⟨_, ps_for hp hc hi hg pss_bv hs, ?_⟩
  refine wm _ _ _ _ (fun J H1 h => ?_) q
  obtain ⟨n, Y, G, w, Pv, h0, hG, hs, hd⟩ := h
  exact for_it w Pv h0 (fun i σ H _ p => hG i σ H p) hs hd
/-- for x in range(e) -/
theorem sv_forR (j : Nat) {x : Str} {px p p2 : Pos} {e : Expr} (B : Blt X.mg) (hp : PassesOwn (model X.prog X.w) X.A X.env X.xe) (hc : X.calm = true) (hg : PG X (.Name x px) (gName j))
    (q : AV X [e] σ H fun vs H1 => ∃ n : Nat, vs = [.int n] ∧ n ≤ 100000 ∧ ∃ Pv : Nat → L2.St → Hp → Prop, Pv 0 σ H1 ∧
      (∀ i σ H, i < n → Pv i σ H → BV X body { D with nx := Pv (i + 1), ct := Pv (i + 1), bk := D.nx } (σ.set j (some (.int i))) H) ∧ ∀ σ H, Pv n σ H → D.nx σ H)
    (hgl : Gl X "range" := by rfl) (hst : starEach [e] X.env = [(false, eval e X.env)] := by rfl) (hs : ∀ x, foldedSetIterable (.Call (.Name "range" p) [e] [] p2) X.env x = pure x := by intro _; rfl) :
    SV X (.For (.Name x px) (.Call (.Name "range" p) [e] [] p2) body [] pos) D σ H := by
  refine sv_for hp hc (pi_range1 hgl (B.at_ 12) pa_av hst) hg gname_mono (fun σ H R R' im h => av_mono h fun v H' ⟨a, h1, h2, h3, h4⟩ => ⟨a, h1, h2, h3, im _ _ h4⟩) hs ?_
  refine av_mono q fun v H1 ⟨n, h1, h3, Pv, h0, hs, hd⟩ => ⟨n, h1, by omega, by omega, n, _, _, walk_range, Pv, h0, fun _ _ _ _ => trivial, fun i v σ H H' hi e1 ⟨e4, e5⟩ => ?_, hd⟩
  subst e4 e5
  have z : (0 : Int) + (i : Int) = i := by omega
  show gName j (V.int ((0 : Int) + (i : Int))) _ _ _
  rw [z]
  exact hs i σ _ hi e1
/-- for x in a list that the body leaves as it is -/
theorem sv_forL (j : Nat) {x : Str} {px : Pos} {iter : Expr} (hp : PassesOwn (model X.prog X.w) X.A X.env X.xe) (hc : X.calm = true) (hg : PG X (.Name x px) (gName j))
    (q : EV X iter σ H fun v H1 => ∃ a xs, v = .ref a ∧ SqL X.K H1 a xs ∧ ∃ Pv : Nat → L2.St → Hp → Prop, Pv 0 σ H1 ∧ (∀ i σ H, Pv i σ H → SqL X.K H a xs) ∧
      (∀ i v σ H, xs[i]? = some v → Pv i σ H → BV X body { D with nx := Pv (i + 1), ct := Pv (i + 1), bk := D.nx } (σ.set j (some v)) H) ∧ ∀ σ H, Pv xs.length σ H → D.nx σ H)
    (hs : ∀ x, foldedSetIterable iter X.env x = pure x := by intro _; rfl) :
    SV X (.For (.Name x px) iter body [] pos) D σ H := by
  refine sv_for hp hc (pi_list pe_ev) hg gname_mono (fun σ H R R' im h => ev_mono h fun v H' ⟨a, h1, h2, h3⟩ => ⟨a, h1, h2, im _ _ h3⟩) hs ?_
  refine ev_mono q fun v H1 ⟨a, xs, h1, h2, Pv, h0, hG, hs, hd⟩ => ⟨a, h1, ⟨xs, h2⟩, xs.length, _, _, walk_list, Pv, h0, hG, fun i v σ H H' hi e1 ⟨e4, e5⟩ => ?_, hd⟩
  subst e4
  exact hs i v σ _ e5 e1
/-- a, b = e1, e2 -/
theorem sv_par (i j : Nat) {x y : Str} {a b : Expr} {px py pt pt2 : Pos} {kt k2 : Nat} (hc : X.calm = true) (hN : X.N.Nodup) (hi : X.N[i]? = some x) (hj : X.N[j]? = some y) (hij : i ≠ j)
    (lx : X.env.scope.names.lookup x = some .local) (ly : X.env.scope.names.lookup y = some .local)
    (q : AV X [a, b] σ H fun vs H1 => ∃ v w, vs = [v, w] ∧ D.nx ((σ.set i (some v)).set j (some w)) H1)
    (hw : swappedStores [.Tuple [.Name x px, .Name y py] kt pt] (.Tuple [a, b] k2 pt2) X.env = pure (some [x, y]) := by rfl)
    (hs : swapsWithSole [.Tuple [.Name x px, .Name y py] kt pt] (.Tuple [a, b] k2 pt2) pos.line X.env = pure false := by rfl) :
    SV X (.Assign [.Tuple [.Name x px, .Name y py] kt pt] (.Tuple [a, b] k2 pt2) pos) D σ H := ⟨_, ps_par hc hN hi hj hij lx ly pa_av hw hs, q⟩
/-- o[i] = e, o a list -/
theorem sv_seti {o i e : Expr} {p : Pos} (q : EV X e σ H fun v H1 => EV X o σ H1 fun x H2 => EV X i σ H2 fun y H3 => ∃ p xs k j, x = .ref p ∧ y = .int k ∧ H3 p = some (.lst xs) ∧ ixN xs.length k = some j ∧ D.nx σ (upd H3 p (.lst (xs.set j v))))
    (ha : ∀ v, assign (.Subscript o i p) X.env v = (do
      let ov ← holding [v] (eval o X.env)
      let iv ← holding [v, ov] (eval i X.env)
      standAt p
      holding [v, ov, iv] (setItem ov iv v)
      release [v, ov, iv] []) := by intro _; rfl)
    (hs : swapsWithSole [.Subscript o i p] e pos.line X.env = pure false := by rfl) (hw : swappedStores [.Subscript o i p] e X.env = pure none := by rfl) : SV X (.Assign [.Subscript o i p] e pos) D σ H :=
  ⟨_, ps_asg pe_ev (pg_sub pe_ev pe_ev set_list ha) hs hw, ev_mono q fun v H1 h => ev_mono h fun x H2 h => ev_mono h fun y H3 ⟨p, xs, k, j, h1, h2, h3, h4, h5⟩ => ⟨p, xs, k, j, h1, h2, h3, h4, h5⟩⟩
/-- what holds behind a statement -/
theorem sv_cut {st : Stmt} (M : L2.St → Hp → Prop) (h : SV X st { D with nx := M } σ H) (im : ∀ σ H, M σ H → D.nx σ H) : SV X st D σ H := by
  refine ⟨fun D σ H => ∃ M : L2.St → Hp → Prop, SV X st { D with nx := M } σ H ∧ ∀ σ H, M σ H → D.nx σ H, ⟨fun pins s σ H D I ⟨M, h, im⟩ => ?_⟩, M, h, im⟩
  refine thn (ps_sv.run pins s σ H _ I h) fun f s1 z => ?_
  cases f with
  | next => exact let ⟨σ', H', I', q⟩ := z; ⟨σ', H', I', im _ _ q⟩
  | brk => exact z
  | cont => exact z
  | ret u => exact z
end
end Hv
/-! HG: texts (f-strings, slices, split, int(text)), starred targets and displays, static methods, built-in methods, in one pass. -/
namespace Hv
open PySem PySem.Spec PyProof.Rows L2
theorem iteNF {A B : Prop} (a : A) : if (!false) = true then A else B := a
theorem iteNT {A B : Prop} (b : B) : if (!true) = true then A else B := b
/-! ### f-strings -/
section
variable {X : Cx} {e v1 v2 o a b lo hi : Expr} {es rest : List Expr} {σ : L2.St} {H : Hp} {Q : VK} {pos p p2 apos : Pos} {acc : Str}
theorem pj_ev : ∀ es : List Expr, PJ X es (es.map (EV X))
  | [] => .nil
  | e :: es => .cons pe_ev (pj_ev es)
theorem ev_fs (q : tJs ((v1 :: v2 :: rest).map (EV X)) Str.empty σ H fun out H1 => Q (.str out) H1) : EV X (.JoinedStr (v1 :: v2 :: rest) pos) σ H Q := ⟨_, pe_joined (pj_ev _), q⟩
theorem jv_cons {Q : Str → Hp → Prop} (q : EV X e σ H fun x H1 => ∃ y : Str, x = .str y ∧ (acc ++ y).length ≤ sizeLine ∧ tJs (es.map (EV X)) (acc ++ y) σ H1 Q) : tJs ((e :: es).map (EV X)) acc σ H Q := q
theorem jv_nil {Q : Str → Hp → Prop} (q : Q acc H) : tJs (([] : List Expr).map (EV X)) acc σ H Q := q
theorem ev_fmtI (q : EV X e σ H fun x H1 => ∃ i : Int, x = .int i ∧ i.natAbs.log2 < 1920 ∧ Q (.str (toString i)) H1) : EV X (.FormattedValue e (-1) none pos) σ H Q :=
  ⟨_, pe_fmt pe_ev, ev_mono q fun _ _ h => .inr h⟩
theorem ev_fmtS (q : EV X e σ H fun x H1 => ∃ y : Str, x = .str y ∧ y.length ≤ sizeLine ∧ Q (.str y) H1) : EV X (.FormattedValue e (-1) none pos) σ H Q :=
  ⟨_, pe_fmt pe_ev, ev_mono q fun _ _ h => .inl h⟩
theorem cv_strI {i : Int} (h : i.natAbs.log2 < 1920) (q : Q (.str (toString i)) H) : CV X (.type "str") [.int i] H Q := ⟨_, L2.call_str_int, i, rfl, h, q⟩
theorem cv_intS {x : Str} {n : Int} (h1 : PySem.intText? x = some n) (h2 : x.length ≤ 640) (q : Q (.int n) H) : CV X (.type "int") [.str x] H Q := ⟨_, L2.call_int_str, x, n, rfl, h1, h2, q⟩
/-! ### slices -/
structure OVs (X : Cx) (e : Option Expr) (σ : L2.St) (H : Hp) (Q : Option Int → Hp → Prop) : Prop where
  ex : ∃ t : TO, PO X e t ∧ t σ H Q
theorem po_ov {e : Option Expr} : PO X e (OVs X e) := ⟨fun pins s σ H Q I ⟨_, h, q⟩ => h.run pins s σ H Q I q⟩
theorem os_no {Q : Option Int → Hp → Prop} (q : Q none H) : OVs X none σ H Q := ⟨_, po_none, q⟩
theorem os_so {Q : Option Int → Hp → Prop} (q : EV X e σ H fun x H1 => ∃ i, x = .int i ∧ Q (some i) H1) : OVs X (some e) σ H Q := ⟨_, po_some pe_ev, q⟩
/-- a text's slice -/
theorem ev_slS {lo hi : Option Expr} (q : EV X e σ H fun x H1 => OVs X lo σ H1 fun l H2 => OVs X hi σ H2 fun u H3 => ∃ z, x = .str z ∧ z.length ≤ sizeLine ∧ Q (.str (Txt.slice z l u)) H3) : EV X (.Subscript e (.Slice lo hi none p2) pos) σ H Q :=
  ⟨_, pe_slice C8.sl_txt pe_ev po_ov po_ov, q⟩
/-- a list's slice -/
theorem ev_slL {lo hi : Option Expr} (q : EV X e σ H fun x H1 => OVs X lo σ H1 fun l H2 => OVs X hi σ H2 fun u H3 => ∃ a xs, x = .ref a ∧ SqL X.K H3 a xs ∧ ∀ p, H3 p = none → Q (.ref p) (upd H3 p (.lst (cutV xs l u)))) : EV X (.Subscript e (.Slice lo hi none p2) pos) σ H Q :=
  ⟨_, pe_slice sl_list pe_ev po_ov po_ov, q⟩
/-- a tuple's slice, not the whole of it -/
theorem ev_slT {lo hi : Option Expr} (q : EV X e σ H fun x H1 => OVs X lo σ H1 fun l H2 => OVs X hi σ H2 fun u H3 => ∃ a xs, x = .ref a ∧ SqT X.K H3 a xs ∧ ¬ (HT.sIx xs.length 0 l = 0 ∧ HT.sIx xs.length xs.length u = xs.length) ∧ ∀ p, H3 p = none → Q (.ref p) (upd H3 p (.tup (cutV xs l u)))) : EV X (.Subscript e (.Slice lo hi none p2) pos) σ H Q :=
  ⟨_, pe_slice sl_tup pe_ev po_ov po_ov, q⟩
/-! ### texts' methods and operators -/
theorem ev_split (q : EV X o σ H fun x H1 => (∃ z : Str, x = .str z) ∧ EV X e σ H1 fun y H2 => ∃ a b, x = .str a ∧ y = .str b ∧ (b.length == 0) = false ∧ a.length + 2 ≤ sizeLine ∧ ∀ p, H2 p = none → Q (.ref p) (upd H2 p (.lst ((Txt.split a b).map V.str))))
    (hs : starEach [e] X.env = [(false, eval e X.env)] := by rfl) (hbase : attributeBase o "split" X.env (eval o X.env) = eval o X.env := by rfl) (hline : (apos.endLine == pos.line) = true := by rfl) :
    EV X (.Call (.Attribute o "split" apos) [e] [] pos) σ H Q :=
  ⟨_, L2.pe_split pe_ev pe_ev hs hbase hline, ev_mono q fun x H1 ⟨z, h⟩ => ⟨z, ev_mono h fun y H2 ⟨a, b, h1, h2, h3, h4, h5⟩ => ⟨a, b, h1, by rw [h2], h3, h4, h5⟩⟩⟩
theorem ov_inS {c : Nat} {z : Str} (q : Q (.bl (decide (c ∈ z.cps.toList))) H) : OV X (compareOp .In) (.str ⟨#[c]⟩) (.str z) H Q := ⟨_, op_in_sign, c, z, rfl, rfl, q⟩
theorem iv_str {z : Str} {i : Int} {c : Nat} (hz : z.length ≤ sizeLine) (h : atI z.cps.toList i = some c) (q : Q (.str ⟨#[c]⟩) H) : IV X (.str z) (.int i) H Q := ⟨_, ix_str, z, i, c, rfl, rfl, hz, h, q⟩
theorem ov_eqb {x y : Bool} (q : Q (.bl (decide (x = y))) H) : OV X (compareOp .Eq) (.bl x) (.bl y) H Q := ⟨_, op_eq, rfl, by
  cases x <;> cases y <;> exact q⟩
theorem ov_neb {x y : Bool} (q : Q (.bl (!decide (x = y))) H) : OV X (compareOp .NotEq) (.bl x) (.bl y) H Q := ⟨_, op_ne, rfl, by
  cases x <;> cases y <;> exact q⟩
/-- == of data, != of data -/
theorem ov_eqD {k : Nat} {x y : V} {d e : PyData} (hr : RoomG k X.A) (hx : Dp X.K H x d) (hy : Dp X.K H y e) (sd : SeqAt.shaped d = true) (se : SeqAt.shaped e = true) (q : Q (.bl (PyData.eqv d e)) H) : OV X (compareOp .Eq) x y H Q :=
  ⟨_, op_eqD hr.r.units, d, e, hx, hy, sd, se, q⟩
theorem ov_neD {k : Nat} {x y : V} {d e : PyData} (hr : RoomG k X.A) (hx : Dp X.K H x d) (hy : Dp X.K H y e) (sd : SeqAt.shaped d = true) (se : SeqAt.shaped e = true) (q : Q (.bl (!PyData.eqv d e)) H) : OV X (compareOp .NotEq) x y H Q :=
  ⟨_, op_neD hr.r.units, d, e, hx, hy, sd, se, q⟩
/-! ### starred -/
theorem av_star {Q : List V → Hp → Prop} (q : EV X e σ H fun x H1 => ∃ a xs, x = .ref a ∧ (SqT X.K H1 a xs ∨ SqL X.K H1 a xs) ∧ AV X es σ H1 fun vs H2 => Q (xs ++ vs) H2) (hs : starEach (.Starred e p :: es) X.env = (true, eval e X.env) :: starEach es X.env := by rfl) :
    AV X (.Starred e p :: es) σ H Q := ⟨_, StX.pa_star pe_ev pa_av hs, q⟩
/-- a, *b = a list -/
def gStar (K : PySem.W.Frag) (t : TGs) : TG := fun v σ H Q => ∃ l x r, v = .ref l ∧ SqL K H l (x :: r) ∧ ∀ D, H D = none → t [x, .ref D] σ (upd H D (.lst r)) Q
theorem pg_star {a b : Expr} {k : Nat} {t : TGs} (hc : X.calm = true) (h : PGs X [a, b] t) (he : assignEach [a, .Starred b p] X.env = [(false, assign a X.env), (true, assign b X.env)] := by rfl)
    (he2 : (assignEach [a, b] X.env).map (·.2) = [assign a X.env, assign b X.env] := by rfl) : PG X (.Tuple [a, .Starred b p] k pos) (gStar X.K t) := by
  refine ⟨fun pins s σ H v u Q I r hw => ?_⟩
  obtain ⟨l, x, rs, e1, hq, hw⟩ := hw
  subst e1
  cases r
  obtain ⟨its, rv, pl, hz⟩ := I.list hq
  cases rv with
  | @cons _ ux _ ur rx rr =>
  have hl := pl.isList
  have hlen : (ux :: ur).toArray.size = ur.length + 1 := by simp
  have hh : X.A.handled = none := I.ok.hd hc
  have hlt : l ≠ s.heap.objs.size := by obtain ⟨o, ho, _⟩ := hl; exact Nat.ne_of_lt (Heap.lt_size ho)
  have hll : l < s.heap.objs.size := by obtain ⟨o, ho, _⟩ := hl; exact Heap.lt_size ho
  rw [PyProof.Rows.assign_Tuple]
  refine wpAny_bind (wpAny_standAt ?_)
  unfold unpack
  rw [he]
  refine wpAny_bind (wpAny_holding ?_)
  show wpAny _ _ (unpackItems (.ref l) 2 (some 1)) _ _ s
  unfold unpackItems
  refine wpAny_bind ?_
  unfold notIterableAtAll
  refine wpAny_bind (wpAny_specialOf hl.typeIs slot_list_iter.lookup ?_)
  refine wpAny_pure ?_
  simp only [Bool.false_eq_true, if_false]
  refine wpAny_bind (wpAny_holding (wpAny_pyIter_list hl ?_))
  refine wpAny_bind (wpAny_holding (PySem.W.kun_draw hlt 1 0 _ _ ⟨_, Heap.get?_push_size _ rfl, rfl, rfl⟩ (hl.push _) (by rw [hlen]; omega) fun h₁ hit₁ hs₁ => ?_))
  have hl₁ : h₁.IsList l (ux :: ur).toArray := (hl.push _).extBut hs₁.extBut hlt
  rw [Nat.zero_add] at hit₁
  have hit₁' := hit₁
  obtain ⟨oi, hoi, _⟩ := hit₁'
  have hl₁' := hl₁
  obtain ⟨ol, hol, _⟩ := hl₁'
  have e1 : ((ux :: ur).toArray.toList.drop 0).take 1 = [ux] := by simp
  rw [e1, if_neg (by simp)]
  have hz2 : (ux :: ur).toArray.size ≤ sizeLine := by
    rw [hlen]
    have := rr.length
    simp only [List.length_cons] at hz
    omega
  refine wpAny_bind (wpAny_holding (PySem.W.kun_collect (s := { s with heap := h₁ }) (T := "list_iterator") (.inr (.inr (.inl rfl))) (PySem.Walks.list (A := X.A.in1) hh s.heap.objs.size l hlt (ux :: ur).toArray) (fun j u st => st.1.typeIs) (k := 1) (by rw [hlen]; omega) ⟨hit₁, hl₁⟩ (Heap.lt_size hoi) (Heap.lt_size hol) (fun h₂ tk hk => ?_) hz2))
  have e2 : (ux :: ur).toArray.toList.drop 1 = ur := by simp
  rw [e2]
  show wpAny _ _ (if ur.length < 0 then _ else _) _ _ _
  rw [if_neg (Nat.not_lt_zero _)]
  show wpAny _ _ (newList (ur.take ur.length) >>= fun d => pure ([ux] ++ [d] ++ ur.drop ur.length)) _ _ _
  rw [List.take_length, List.drop_length]
  have he : Heap.ExtBut s.heap.objs.size s.heap h₂ := fun b o hb e => hk b o hb (hs₁.extBut b o hb (Heap.get?_push_of_some _ e))
  have I1 : Inv X pins σ H { s with heap := h₂, toks := tk } := I.kept fun b o e => he b o (Nat.ne_of_lt (Heap.lt_size e)) e
  have hn := I1.hok.fresh (Nat.le_refl _)
  have hr2 : rs.length ≤ sizeLine := by
    simp only [List.length_cons] at hz
    omega
  refine wpAny_bind (wpAny_newList (wpAny_pure ?_) (by rw [← rr.length]; exact hr2))
  show wpAny _ _ (assignInOrder [assign a X.env, assign b X.env] [ux, .ref h₂.objs.size]) _ _ _
  rw [← he2]
  have I2 : Inv X pins σ (upd H h₂.objs.size (.lst rs)) { s with heap := h₂.push { cls := .type "list", data := .seq ur.toArray }, toks := tk } :=
    I1.laid (t' := tk) (fun b o q => Heap.get?_push_of_some _ q) (Nat.le_refl _) ⟨hr2, ur, _, rr, Heap.get?_push_size _ rfl⟩
  exact h.run pins _ σ _ [x, .ref h₂.objs.size] [ux, .ref h₂.objs.size] Q I2 (.cons rx (.cons rfl .nil)) (hw _ hn)
end
/-! ### static methods -/
/-- C.m is a static method: its record at p, its def at g -/
structure SMet (K : PySem.W.Frag) (C : Addr) (mc : Value) (m : Str) (p g : Addr) : Prop where
  at_ : PySem.W.findCls K (.ref C) mc m = some (.get (.builtin "staticmethod.__get__") (.ref p) .none (.ref C))
  rc : ∃ rest, PySem.W.recIn K p "staticmethod" = some (.ref g :: rest)
  hv : PySem.W.handedIn (.ref g) = true
  kp : PySem.W.keepIn K (.ref g) = true
section
variable {X : Cx} {o e : Expr} {es : List Expr} {σ : L2.St} {H : Hp} {Q : VK} {pos p apos : Pos} {C pr g : Addr} {mc : Value} {m : Str} {k j : Nat} {sp : Sp} {E : XK} {pl : Sem Bool}
theorem ev_static (r : ClX.CRead X.K C mc) (c : SMet X.K C mc m pr g) (F : FnX X k g sp) (hr : RoomG j X.A) (hj : k ≤ j) (hx : PassX X E)
    (q : EV X o σ H fun x H1 => x = .ref C ∧ AV X (e :: es) σ H1 fun ws H2 => sp ws H2 Q E)
    (hst : starEach (e :: es) X.env = (false, eval e X.env) :: starEach es X.env := by rfl) (hpl : (backTo pos (starEach es X.env)).any (·.1) = false := by rfl)
    (ht : eval (.Call (.Attribute o m apos) (e :: es) [] pos) X.env = (do
      let ov ← eval o X.env
      standAt apos.atName
      let (f, first) ← holding [ov] (getMethod ov m pl)
      callWith pos f first (backTo pos (starEach (e :: es) X.env)) (backToKw pos (keywordEach [] X.env))) := by rfl) :
    EV X (.Call (.Attribute o m apos) (e :: es) [] pos) σ H Q := by
  refine ⟨fun σ H Q => EV X o σ H fun x H1 => x = .ref C ∧ AV X (e :: es) σ H1 fun ws H2 => sp ws H2 Q E, ⟨fun pins s σ H Q I h => ?_⟩, q⟩
  refine PySem.W.methodCall_KW (pl := pl) (thn (pe_ev.run pins s σ H _ I h) fun u s1 ⟨x, H1, I1, rx, ex, q⟩ => ?_) ht
  subst ex
  obtain rfl : u = Value.ref C := rx
  obtain ⟨rest, hp⟩ := c.rc
  refine PySem.W.method_cls I1.kIn r.ga (PySem.W.cls_bind I1.kIn r.rd c.at_ (wpAny_call (PySem.W.sm_get (s := { s1 with toks := s1.toks + 1 }) I1.kIn hp (PySem.W.handed_on c.hv ?_))))
  have I2 : Inv X pins σ H1 { s1 with toks := s1.toks + 1 } := I1.tok _
  refine PySem.W.callWith_K (first := []) (h₀ := X.base) I2.ok.mod.kin c.kp (thn (pa_av.run pos pins _ σ H1 _ I2 q) fun us s2 ⟨ws, H2, I3, rv, q2⟩ => ⟨I3.kIn, ?_⟩) hst hpl
  exact wpAny_call (run_g (us := us) (vs := ws) F (hr.mono hj) hx I3 rv q2)
/-! ### built-in methods -/
theorem ev_bm {T id : String} {name : Str} {r : V → List V → Hp → VK → Prop} (pa : PlainAttrs T) (slot : Slot T name id) (hty : typeOf (.builtin id) = pure (.type "method_descriptor")) (hm : MtR X id r)
    (q : EV X o σ H fun x H1 => tyV X.K T x H1 ∧ AV X (e :: es) σ H1 fun vs H2 => r x vs H2 Q)
    (hbase : attributeBase o name X.env (eval o X.env) = eval o X.env := by rfl)
    (hfew : ((backTo pos (starEach (e :: es) X.env)).all (fun x => !x.1) && (backToKw pos (keywordEach [] X.env)).all (fun x => x.1.isSome)
      && decide ((e :: es).length + ([] : List Keyword).length + (if ([] : List Keyword).isEmpty then 0 else 1) < 30)) = true := by rfl)
    (hline : (apos.endLine == pos.line) = true := by rfl) (hs : starEach (e :: es) X.env = (false, eval e X.env) :: starEach es X.env := by rfl) (hplain : (backTo pos (starEach es X.env)).any (·.1) = false := by rfl) :
    EV X (.Call (.Attribute o name apos) (e :: es) [] pos) σ H Q := ⟨_, L2.pe_bm pa slot hty hm pe_ev pa_av hbase hfew hline hs hplain, q⟩
theorem ty_lst {K : PySem.W.Frag} {H : Hp} {p : Addr} {xs : List V} (h : H p = some (.lst xs)) : tyV K "list" (.ref p) H := .inl ⟨rfl, xs, .of h⟩
/-- xs.insert(i, y) -/
theorem ev_insert (q : EV X o σ H fun x H1 => tyV X.K "list" x H1 ∧ AV X (e :: es) σ H1 fun vs H2 => ∃ (l : Addr) (xs : List V) (i : Int) (y : V), x = .ref l ∧ vs = [.int i, y] ∧ H2 l = some (.lst xs) ∧ xs.length < sizeLine ∧ 0 ≤ i ∧ i < 2 ^ 63 ∧
      Q .non (upd H2 l (.lst (xs.take i.toNat ++ [y] ++ xs.drop i.toNat))))
    (hbase : attributeBase o "insert" X.env (eval o X.env) = eval o X.env := by rfl)
    (hfew : ((backTo pos (starEach (e :: es) X.env)).all (fun x => !x.1) && (backToKw pos (keywordEach [] X.env)).all (fun x => x.1.isSome)
      && decide ((e :: es).length + ([] : List Keyword).length + (if ([] : List Keyword).isEmpty then 0 else 1) < 30)) = true := by rfl)
    (hline : (apos.endLine == pos.line) = true := by rfl) (hs : starEach (e :: es) X.env = (false, eval e X.env) :: starEach es X.env := by rfl) (hplain : (backTo pos (starEach es X.env)).any (·.1) = false := by rfl) :
    EV X (.Call (.Attribute o "insert" apos) (e :: es) [] pos) σ H Q := ev_bm PySem.F.plainAttrs_list PySem.F.slot_list_insert PySem.F.type_list_insert mt_insert q hbase hfew hline hs hplain
/-- xs.append(y) -/
theorem ev_append (q : EV X o σ H fun x H1 => tyV X.K "list" x H1 ∧ AV X (e :: es) σ H1 fun vs H2 => rAppend x vs H2 Q)
    (hbase : attributeBase o "append" X.env (eval o X.env) = eval o X.env := by rfl)
    (hfew : ((backTo pos (starEach (e :: es) X.env)).all (fun x => !x.1) && (backToKw pos (keywordEach [] X.env)).all (fun x => x.1.isSome)
      && decide ((e :: es).length + ([] : List Keyword).length + (if ([] : List Keyword).isEmpty then 0 else 1) < 30)) = true := by rfl)
    (hline : (apos.endLine == pos.line) = true := by rfl) (hs : starEach (e :: es) X.env = (false, eval e X.env) :: starEach es X.env := by rfl) (hplain : (backTo pos (starEach es X.env)).any (·.1) = false := by rfl) :
    EV X (.Call (.Attribute o "append" apos) (e :: es) [] pos) σ H Q := ev_bm PySem.F.plainAttrs_list PySem.F.slot_list_append PySem.F.type_list_append mt_append q hbase hfew hline hs hplain
/-- xs.pop(i) -/
theorem ev_popAt (q : EV X o σ H fun x H1 => tyV X.K "list" x H1 ∧ AV X (e :: es) σ H1 fun vs H2 => rPopAt x vs H2 Q)
    (hbase : attributeBase o "pop" X.env (eval o X.env) = eval o X.env := by rfl)
    (hfew : ((backTo pos (starEach (e :: es) X.env)).all (fun x => !x.1) && (backToKw pos (keywordEach [] X.env)).all (fun x => x.1.isSome)
      && decide ((e :: es).length + ([] : List Keyword).length + (if ([] : List Keyword).isEmpty then 0 else 1) < 30)) = true := by rfl)
    (hline : (apos.endLine == pos.line) = true := by rfl) (hs : starEach (e :: es) X.env = (false, eval e X.env) :: starEach es X.env := by rfl) (hplain : (backTo pos (starEach es X.env)).any (·.1) = false := by rfl) :
    EV X (.Call (.Attribute o "pop" apos) (e :: es) [] pos) σ H Q := ev_bm PySem.F.plainAttrs_list PySem.F.slot_list_pop PySem.F.type_list_pop mt_popAt q hbase hfew hline hs hplain
/-! ### for over zip -/
variable {D : Ends} {body : List Stmt}
/-- for x, y in zip(a, b): two lists that the body leaves as they are -/
theorem sv_forZ (j k : Nat) {x y : Str} {px py pt p p2 : Pos} {kk : Nat} {e e2 : Expr} (B : Blt X.mg) (hp : PassesOwn (model X.prog X.w) X.A X.env X.xe) (hc : X.calm = true)
    (hg : PG X (.Tuple [.Name x px, .Name y py] kk pt) (gTup X.K 2 (gCons (gName j) (gCons (gName k) gNil))))
    (q : AV X [e, e2] σ H fun vs H1 => ∃ a b xs zs, vs = [.ref a, .ref b] ∧ SqL X.K H1 a xs ∧ SqL X.K H1 b zs ∧ ∃ Pv : Nat → L2.St → Hp → Prop, Pv 0 σ H1 ∧ (∀ i σ H, Pv i σ H → SqL X.K H a xs ∧ SqL X.K H b zs) ∧
      (∀ i v w σ H T, xs[i]? = some v → zs[i]? = some w → H T = none → Pv i σ H → BV X body { D with nx := Pv (i + 1), ct := Pv (i + 1), bk := D.nx } ((σ.set j (some v)).set k (some w)) (upd H T (.tup [v, w]))) ∧
      ∀ σ H, Pv (min xs.length zs.length) σ H → D.nx σ H) (hgl : Gl X "zip" := by rfl)
    (hst : starEach [e, e2] X.env = (false, eval e X.env) :: starEach [e2] X.env := by rfl) (hpl : (backTo p2 (starEach [e2] X.env)).any (·.1) = false := by rfl) (hs : ∀ x, foldedSetIterable (.Call (.Name "zip" p) [e, e2] [] p2) X.env x = pure x := by intro _; rfl) :
    SV X (.For (.Tuple [.Name x px, .Name y py] kk pt) (.Call (.Name "zip" p) [e, e2] [] p2) body [] pos) D σ H := by
  refine sv_for hp hc (RZ.pi_zipA hgl (B.at_ 20) pa_av hst hpl) hg gtup2_mono (fun σ H R R' im h => av_mono h fun v H' ⟨a, b, xs, ys, h1, h2⟩ => ⟨a, b, xs, ys, h1, h2.elim (fun h => .inl ⟨h.1, h.2.1, im _ _ h.2.2⟩) fun h => .inr ⟨h.1, h.2.1, im _ _ h.2.2⟩⟩) hs ?_
  refine av_mono q fun v H1 ⟨a, b, xs, zs, h1, h2, h3, Pv, h0, hG, hs, hd⟩ => ⟨a, b, xs, zs, h1, .inl ⟨h2, h3, min xs.length zs.length, _, _, walk_zip (xs := xs) (ys := zs) rfl, Pv, h0, hG, fun i v σ H H' hi e1 ⟨T, v1, w1, e4, e5, e6, e7, e8⟩ => ?_, hd⟩⟩
  subst e4 e6
  exact ⟨T, [v1, w1], rfl, .of upd_same, rfl, v1, [w1], rfl, w1, [], rfl, rfl, hs i v1 w1 σ H T e7 e8 e5 e1⟩
/-! ### over a text, sign by sign -/
variable {scope : Scope} {own : List (Str × Nat)} {elt iter : Expr}
theorem ev_lcS (j : Nat) {x : Str} {px : Pos} (hc : X.calm = true) (hN : X.N.Nodup) (ok : BlkOk X.N X.env.scope scope own)
    (hg : ∀ (s : Shared) (H : Hp) (C : Addr) (cl : List (Str × Addr)) (fp : List Addr), PG (Cx.blk0 X scope s H C cl fp) (.Name x px) (gName j)) (hw : ∀ v, wipe ((wipe σ (own.map (·.2))).set j (some v)) (own.map (·.2)) = wipe σ (own.map (·.2)))
    (q : EV X iter σ H fun v H1 => ∃ z : Str, v = .str z ∧ z.cps.size ≤ 100000 ∧ ∀ D, H1 D = none → ∃ In : Nat → List V → Hp → Prop, In 0 [] (upd H1 D (.lst [])) ∧
      (∀ i ys c H, z.cps[i]? = some c → ys.length = i → H D = some (.lst ys) → In i ys H → LE X scope elt ((wipe σ (own.map (·.2))).set j (some (.str ⟨#[c]⟩))) H fun y H4 => H4 D = some (.lst ys) ∧ In (i + 1) (ys ++ [y]) (upd H4 D (.lst (ys ++ [y])))) ∧
      ∀ ys H, ys.length = z.cps.size → H D = some (.lst ys) → In z.cps.size ys H → Q (.ref D) H) (hs : ∀ x, foldedSetIterable iter X.env x = pure x := by intro _; rfl) :
    EV X (.ListComp elt [⟨.Name x px, iter, [], 0⟩] scope pos) σ H Q := by
  refine ev_lc hc hN (pi_str pe_ev) ok hg gname_mono (fun σ H R R' im h => ev_mono h fun v H' ⟨z, h1, h2⟩ => ⟨z, h1, im _ _ h2⟩) hs ?_
  refine ev_mono q fun v H1 ⟨z, h1, h2, h4⟩ => ⟨z, h1, z.cps.size, _, _, walk_str, h2, fun D hD => ?_⟩
  obtain ⟨In, h0, hs, hd⟩ := h4 D hD
  exact ⟨In, h0, fun _ _ _ _ => trivial, fun i ys v H H' hi e1 e2 e3 ⟨e4, c, e5, e6⟩ => by subst e4 e6; exact ⟨hw _, hs i ys c _ e5 e1 e2 e3⟩, hd⟩
end
end Hv
/-! HS: texts of ints and of fractions as lists of signs; reading them. No program in sight. -/
namespace Hv
open PySem PySem.Spec PyProof.Rows L2 SX
section
variable {X : Cx} {H : Hp} {Q : VK}
/-- x, *y = e, e a list of one item at least -/
theorem sv_star {D : Ends} {σ : L2.St} {x y : Str} {e : Expr} {px py ps pt pos : Pos} {kt : Nat} (i j : Nat) (hc : X.calm = true) (hN : X.N.Nodup) (hi : X.N[i]? = some x) (hj : X.N[j]? = some y) (lx : Loc X.env.scope x) (ly : Loc X.env.scope y)
    (q : EV X e σ H fun v H1 => ∃ l v0 r, v = .ref l ∧ SqL X.K H1 l (v0 :: r) ∧ ∀ p, H1 p = none → D.nx ((σ.set i (some v0)).set j (some (.ref p))) (upd H1 p (.lst r)))
    (hs : swapsWithSole [.Tuple [.Name x px, .Starred (.Name y py) ps] kt pt] e pos.line X.env = pure false := by rfl) (hw : swappedStores [.Tuple [.Name x px, .Starred (.Name y py) ps] kt pt] e X.env = pure none := by rfl)
    (hfx : X.fn x = true ∨ X.env.scope.names.lookup x = some .local := by first | exact .inl rfl | exact .inr rfl | assumption) (hfy : X.fn y = true ∨ X.env.scope.names.lookup y = some .local := by first | exact .inl rfl | exact .inr rfl | assumption) :
    SV X (.Assign [.Tuple [.Name x px, .Starred (.Name y py) ps] kt pt] e pos) D σ H :=
  ⟨_, ps_asg pe_ev (pg_star hc (pgs_cons (pg_name hN hi lx hfx) (pgs_cons (pg_name hN hj ly hfy) pgs_nil)) rfl rfl) hs hw rfl, ev_mono q fun v H1 ⟨l, v0, r, h1, h2, h3⟩ => ⟨l, v0, r, h1, h2, fun p hp => ⟨v0, [.ref p], rfl, .ref p, [], rfl, rfl, h3 p hp⟩⟩⟩
theorem cv_lenS {z : Str} (hz : z.length ≤ sizeLine) (q : Q (.int z.length) H) : CV X (.builtin "len") [.str z] H Q := ⟨_, call_len_str, z, rfl, hz, q⟩
end
/-- an int's signs -/
def intL (i : Int) : List Nat := if i < 0 then 45 :: TL.numL i.natAbs else TL.numL i.natAbs
theorem sofs (x : String) : (Str.ofString x).cps.toList = x.toList.map Char.toNat := signs_ofString x
theorem str_int (i : Int) : (Str.ofString (toString i)) = S (intL i) := by
  unfold intL
  split
  · rename_i h
    obtain ⟨m, rfl⟩ : ∃ m : Nat, i = -((m : Nat) : Int) := ⟨i.natAbs, by omega⟩
    have hm : m ≠ 0 := by omega
    refine TL.ext_tl ?_
    have e : toString (-((m : Nat) : Int)) = "-" ++ toString ((m : Nat) : Int) := by
      cases m with
      | zero => exact absurd rfl hm
      | succ m => rfl
    show (Str.ofString (toString (-((m : Nat) : Int)))).cps.toList = 45 :: TL.numL (-((m : Nat) : Int)).natAbs
    rw [e, sofs, String.toList_append, List.map_append, ← sofs (toString ((m : Nat) : Int)), show (Str.ofString (toString ((m : Nat) : Int))).cps.toList = TL.numL m from TL.tl_num m, Int.natAbs_neg, Int.natAbs_natCast]
    rfl
  · obtain ⟨m, rfl⟩ : ∃ m : Nat, i = ((m : Nat) : Int) := ⟨i.natAbs, by omega⟩
    rw [num_S, Int.natAbs_natCast]
/-- a fraction's signs, without the sign ahead; all of them -/
def ratM (n d : Nat) : List Nat := TL.numL n ++ if d = 1 then [] else 47 :: TL.numL d
def ratL (q : Rat) : List Nat := if q.num < 0 then 45 :: ratM q.num.natAbs q.den else ratM q.num.natAbs q.den
def ratT (q : Rat) : Str := S (ratL q)
theorem ratL_one {q : Rat} (h : q.den = 1) : ratL q = intL q.num := by
  unfold ratL ratM intL
  rw [if_pos h, List.append_nil]
theorem ratL_two {q : Rat} (h : q.den ≠ 1) : ratL q = intL q.num ++ (47 :: TL.numL q.den) := by
  unfold ratL ratM intL
  rw [if_neg h]
  split <;> simp
theorem e_nil : ("" : Str) = S [] := by decide +kernel
theorem e_zero : ("0" : Str) = S [48] := by decide +kernel
theorem e_slash : ("/" : Str) = S [47] := by decide +kernel
theorem e_minus : ("-" : Str) = S [45] := by decide +kernel
/-- one figure or more, no zero ahead of others -/
def figB (l : List Nat) : Bool := decide (l ≠ []) && l.all (fun c => decide (48 ≤ c) && decide (c ≤ 57)) && (decide (l = [48]) || decide (l.head? ≠ some 48))
theorem numL_head (n : Nat) : (TL.numL n).head? = some 48 → n = 0 := by
  induction n using Nat.strongRecOn with
  | _ n ih =>
    intro h
    by_cases h10 : n < 10
    · rw [TL.numL_lt h10] at h
      simp at h
      omega
    · rw [TL.numL_step (by omega)] at h
      have z := TL.numL_ne (n / 10)
      have : (TL.numL (n / 10)).head? = some 48 := by
        cases q : TL.numL (n / 10) with
        | nil => exact absurd q z
        | cons c r => rw [q] at h; exact h
      have := ih (n / 10) (by omega) this
      omega
theorem fig_num (n : Nat) : figB (TL.numL n) = true := by
  unfold figB
  have h1 : decide (TL.numL n ≠ []) = true := decide_eq_true (TL.numL_ne n)
  have h2 : (TL.numL n).all (fun c => decide (48 ≤ c) && decide (c ≤ 57)) = true := List.all_eq_true.mpr fun c hc => by
    have := TL.numL_digits n c hc
    simp [this.1, this.2]
  rw [h1, h2]
  by_cases h : n = 0
  · subst h
    have : TL.numL 0 = [48] := TL.numL_lt (by decide)
    rw [this] <;> rfl
  · have : (TL.numL n).head? ≠ some 48 := fun z => h (numL_head n z)
    simp [this]
theorem no_slash (n : Nat) : 47 ∉ TL.numL n := TL.numL_free (.inl (by decide))
theorem no_minus (n : Nat) : (TL.numL n).head? ≠ some 45 := fun h => by
  cases q : TL.numL n with
  | nil => exact TL.numL_ne n q
  | cons c r =>
    rw [q] at h
    have : c = 45 := Option.some.inj h
    exact TL.numL_free (n := n) (s := 45) (.inl (by decide)) (by rw [q, this]; exact List.mem_cons_self ..)
def ratP (n d : Nat) : List (List Nat) := TL.numL n :: if d = 1 then [] else [TL.numL d]
theorem split_rat (n d : Nat) : Txt.split (S (ratM n d)) "/" = (ratP n d).map S := by
  rw [e_slash, split_S (by simp) (by decide)]
  congr 1
  have h : ∀ p ∈ ratP n d, 47 ∉ p := fun p hp => by
    unfold ratP at hp
    split at hp
    · rw [List.mem_singleton.mp hp]; exact no_slash n
    · simp only [List.mem_cons, List.not_mem_nil, or_false] at hp
      rcases hp with rfl | rfl
      · exact no_slash n
      · exact no_slash d
  have e := spl_join (c := 47) (sep := []) (parts := ratP n d) (by unfold ratP; simp) h
  have e2 : TL.joinL [47] (ratP n d) = ratM n d := by
    unfold ratP ratM
    split
    · show TL.numL n = _
      rw [List.append_nil]
    · show TL.numL n ++ ([47] ++ TL.numL d) = _
      rfl
  rw [e2] at e
  exact e
theorem num_short {n : Nat} (h : n < 2 ^ 1900) : (TL.numL n).length ≤ 600 := TL.numL_len (by decide) (Nat.lt_trans h (by decide +kernel))
theorem ratM_len {n d : Nat} (hn : n < 2 ^ 1900) (hd : d < 2 ^ 1900) : (ratM n d).length ≤ 1201 := by
  have h1 := num_short hn
  have h2 := num_short hd
  unfold ratM
  split <;> simp <;> omega
theorem ratL_len {q : Rat} (hn : q.num.natAbs < 2 ^ 1900) (hd : q.den < 2 ^ 1900) : (ratL q).length ≤ 1202 := by
  have h := ratM_len hn hd
  unfold ratL
  split
  · simp; omega
  · omega
theorem ratL_head (q : Rat) : decide ((ratL q).take 1 = [45]) = decide (q.num < 0) := by
  have z : ∀ (n d : Nat), (ratM n d).take 1 ≠ [45] := fun n d h => by
    have z := no_minus n
    unfold ratM at h
    cases e : TL.numL n with
    | nil => exact TL.numL_ne n e
    | cons c r =>
      rw [e] at h z
      simp at h
      simp [h] at z
  unfold ratL
  split
  · rename_i h
    simp [h]
  · rename_i h
    rw [decide_eq_false h, decide_eq_false (z _ _)]
theorem int_back {n : Nat} (h : n < 2 ^ 1900) : PySem.intText? (S (TL.numL n)) = some (n : Int) := by
  rw [← num_S]
  exact TL.int_num (Nat.le_trans (num_short h) (by decide))
theorem slash_cat (a b : Str) : a ++ b = S (TL.tl a ++ TL.tl b) := TL.ext_tl (TL.tl_append a b)
theorem rat_eq_of_text {p q : Rat} (h : ratT p = ratT q) (hp : p.num.natAbs < 2 ^ 1900) : ratL p = ratL q := S_inj h
end Hv
/-! HV: name = [..], as a statement (the list is stored before the block's own names come back). -/
namespace Hv
open PySem PySem.Spec PyProof.Rows L2
section
variable {X : Cx} {elt tg iter : Expr} {scope : Scope} {own : List (Str × Nat)} {σ : L2.St} {H : Hp} {EE : Ends} {pos sps pyy : Pos} {yy : Str}
theorem sv_lc (ii : Nat) {wi : TI} {g : TG} (hc : X.calm = true) (hN : X.N.Nodup) (hy : X.N[ii]? = some yy) (hyl : X.env.scope.names.lookup yy = some .local) (hsw : swapsWith (.ListComp elt [⟨tg, iter, [], 0⟩] scope pos) (some (.Name yy pyy)) sps.line X.env = pure true) (hi : PI X tg iter wi) (ok : BlkOk X.N X.env.scope scope own)
    (hg : ∀ (s : Shared) (H : Hp) (C : Addr) (cl : List (Str × Addr)) (fp : List Addr), PG (Cx.blk0 X scope s H C cl fp) tg g)
    (gm : ∀ x σ H Q Q', (∀ σ' H', Q σ' H' → Q' σ' H') → g x σ H Q → g x σ H Q')
    (wm : ∀ σ H R R', (∀ J H', R J H' → R' J H') → wi σ H R → wi σ H R') (hs : ∀ x, foldedSetIterable iter X.env x = pure x)
    (q : wi σ H fun J H1 => ∃ n Y G, Walk J n G Y ∧ n ≤ 100000 ∧ ∀ D, H1 D = none → ∃ In : Nat → List V → Hp → Prop, In 0 [] (upd H1 D (.lst [])) ∧ (∀ i ys H, In i ys H → G H) ∧
      (∀ i ys x H H', i < n → ys.length = i → H D = some (.lst ys) → In i ys H → Y i H x H' → g x (wipe σ (own.map (·.2))) H' fun σ2 H2 => wipe σ2 (own.map (·.2)) = wipe σ (own.map (·.2)) ∧
        LE X scope elt σ2 H2 fun y H4 => H4 D = some (.lst ys) ∧ In (i + 1) (ys ++ [y]) (upd H4 D (.lst (ys ++ [y])))) ∧
      ∀ ys H, ys.length = n → H D = some (.lst ys) → In n ys H → EE.nx (σ.set ii (some (.ref D))) H) :
    SV X (.Assign [.Name yy pyy] (.ListComp elt [⟨tg, iter, [], 0⟩] scope pos) sps) EE σ H := by
  refine ⟨_, ps_setLc hc hN hy hyl hsw hi ok hg (fun _ _ _ _ _ => pts_nil) (fun s H C cl fp => pe_le s H C cl fp) hs, ?_⟩
  show tLc _ _ _ _ _ σ H (fun x H1 => EE.nx (σ.set ii (some x)) H1)
  refine wm _ _ _ _ (fun J H1 h D hD => ?_) q
  obtain ⟨n, Y, G, w, hn, h⟩ := h
  obtain ⟨In, h0, hG, hs, hd⟩ := h D hD
  refine lc_it w (fun i H => ∃ ys, ys.length = i ∧ H D = some (.lst ys) ∧ In i ys H) ⟨[], rfl, upd_same, h0⟩ (fun i H _ ⟨ys, _, _, a⟩ => hG i ys H a) ?_ (fun H ⟨ys, a, b, c⟩ => hd ys H a b c)
  rintro i x H H' hi ⟨ys, e1, e2, e3⟩ y
  refine gm _ _ _ _ _ (fun σ2 H2 h2 => ⟨h2.1, ?_⟩) (hs i ys x H H' hi e1 e2 e3 y)
  dsimp only [tYes]
  rw [if_pos rfl]
  intro s H0 C cl fp
  refine ev_mono (e := elt) (h2.2 s H0 C cl fp) fun y H4 z => ⟨ys, z.1, ?_, ys ++ [y], by simp [e1], upd_same, z.2⟩
  have : (100000 : Nat) < sizeLine := by decide
  omega
theorem sv_lcL (ii : Nat) (j : Nat) {x : Str} {px : Pos} (hc : X.calm = true) (hN : X.N.Nodup) (hy : X.N[ii]? = some yy) (hyl : X.env.scope.names.lookup yy = some .local) (hsw : swapsWith (.ListComp elt [⟨.Name x px, iter, [], 0⟩] scope pos) (some (.Name yy pyy)) sps.line X.env = pure true) (ok : BlkOk X.N X.env.scope scope own)
    (hg : ∀ (s : Shared) (H : Hp) (C : Addr) (cl : List (Str × Addr)) (fp : List Addr), PG (Cx.blk0 X scope s H C cl fp) (.Name x px) (gName j)) (hw : ∀ v, wipe ((wipe σ (own.map (·.2))).set j (some v)) (own.map (·.2)) = wipe σ (own.map (·.2)))
    (q : EV X iter σ H fun v H1 => ∃ a xs, v = .ref a ∧ SqL X.K H1 a xs ∧ xs.length ≤ 100000 ∧ ∀ D, H1 D = none → ∃ In : Nat → List V → Hp → Prop, In 0 [] (upd H1 D (.lst [])) ∧ (∀ i ys H, In i ys H → SqL X.K H a xs) ∧
      (∀ i ys v H, xs[i]? = some v → ys.length = i → H D = some (.lst ys) → In i ys H → LE X scope elt ((wipe σ (own.map (·.2))).set j (some v)) H fun y H4 => H4 D = some (.lst ys) ∧ In (i + 1) (ys ++ [y]) (upd H4 D (.lst (ys ++ [y])))) ∧
      ∀ ys H, ys.length = xs.length → H D = some (.lst ys) → In xs.length ys H → EE.nx (σ.set ii (some (.ref D))) H) (hs : ∀ x, foldedSetIterable iter X.env x = pure x := by intro _; rfl) :
    SV X (.Assign [.Name yy pyy] (.ListComp elt [⟨.Name x px, iter, [], 0⟩] scope pos) sps) EE σ H := by
  refine sv_lc ii hc hN hy hyl hsw (pi_list pe_ev) ok hg gname_mono (fun σ H R R' im h => ev_mono h fun v H' ⟨a, h1, h2, h3⟩ => ⟨a, h1, h2, im _ _ h3⟩) hs ?_
  refine ev_mono q fun v H1 ⟨a, xs, h1, h2, h3, h4⟩ => ⟨a, h1, ⟨xs, h2⟩, xs.length, _, _, walk_list, h3, fun D hD => ?_⟩
  obtain ⟨In, h0, hG, hs, hd⟩ := h4 D hD
  exact ⟨In, h0, hG, fun i ys v H H' hi e1 e2 e3 ⟨e4, e5⟩ => by subst e4; exact ⟨hw v, hs i ys v _ e5 e1 e2 e3⟩, hd⟩
theorem sv_lcR (ii : Nat) (j : Nat) {x : Str} {px p p2 : Pos} {e : Expr} (B : Blt X.mg) (hc : X.calm = true) (hN : X.N.Nodup) (hy : X.N[ii]? = some yy) (hyl : X.env.scope.names.lookup yy = some .local) (hsw : swapsWith (.ListComp elt [⟨.Name x px, .Call (.Name "range" p) [e] [] p2, [], 0⟩] scope pos) (some (.Name yy pyy)) sps.line X.env = pure true) (ok : BlkOk X.N X.env.scope scope own)
    (hg : ∀ (s : Shared) (H : Hp) (C : Addr) (cl : List (Str × Addr)) (fp : List Addr), PG (Cx.blk0 X scope s H C cl fp) (.Name x px) (gName j)) (hw : ∀ v, wipe ((wipe σ (own.map (·.2))).set j (some v)) (own.map (·.2)) = wipe σ (own.map (·.2)))
    (q : AV X [e] σ H fun vs H1 => ∃ n : Nat, vs = [.int n] ∧ n ≤ 100000 ∧ ∀ D, H1 D = none → ∃ In : Nat → List V → Hp → Prop, In 0 [] (upd H1 D (.lst [])) ∧
      (∀ i ys H, i < n → ys.length = i → H D = some (.lst ys) → In i ys H → LE X scope elt ((wipe σ (own.map (·.2))).set j (some (.int i))) H fun y H4 => H4 D = some (.lst ys) ∧ In (i + 1) (ys ++ [y]) (upd H4 D (.lst (ys ++ [y])))) ∧
      ∀ ys H, ys.length = n → H D = some (.lst ys) → In n ys H → EE.nx (σ.set ii (some (.ref D))) H) (hgl : Gl X "range" := by rfl) (hst : starEach [e] X.env = [(false, eval e X.env)] := by rfl) (hs : ∀ x, foldedSetIterable (.Call (.Name "range" p) [e] [] p2) X.env x = pure x := by intro _; rfl) :
    SV X (.Assign [.Name yy pyy] (.ListComp elt [⟨.Name x px, .Call (.Name "range" p) [e] [] p2, [], 0⟩] scope pos) sps) EE σ H := by
  refine sv_lc ii hc hN hy hyl hsw (pi_range1 hgl (B.at_ 12) pa_av hst) ok hg gname_mono (fun σ H R R' im h => av_mono h fun v H' ⟨a, h1, h2, h3, h4⟩ => ⟨a, h1, h2, h3, im _ _ h4⟩) hs ?_
  refine av_mono q fun v H1 ⟨n, h1, h3, h4⟩ => ⟨n, h1, by omega, by omega, n, _, _, walk_range, h3, fun D hD => ?_⟩
  obtain ⟨In, h0, hs, hd⟩ := h4 D hD
  exact ⟨In, h0, fun _ _ _ _ => trivial, fun i ys v H H' hi e1 e2 e3 ⟨e4, e5⟩ => by
    subst e4 e5
    have z : (0 : Int) + (i : Int) = i := by omega
    show gName j (V.int ((0 : Int) + (i : Int))) _ _ _
    rw [z]
    exact ⟨hw _, hs i ys _ hi e1 e2 e3⟩, hd⟩
theorem sv_lcZ (ii : Nat) (j k : Nat) {x y : Str} {px py pt p p2 : Pos} {kk : Nat} {e e2 : Expr} (B : Blt X.mg) (hc : X.calm = true) (hN : X.N.Nodup) (hy : X.N[ii]? = some yy) (hyl : X.env.scope.names.lookup yy = some .local) (hsw : swapsWith (.ListComp elt [⟨.Tuple [.Name x px, .Name y py] kk pt, .Call (.Name "zip" p) [e, e2] [] p2, [], 0⟩] scope pos) (some (.Name yy pyy)) sps.line X.env = pure true) (ok : BlkOk X.N X.env.scope scope own)
    (hg : ∀ (s : Shared) (H : Hp) (C : Addr) (cl : List (Str × Addr)) (fp : List Addr), PG (Cx.blk0 X scope s H C cl fp) (.Tuple [.Name x px, .Name y py] kk pt) (gTup X.K 2 (gCons (gName j) (gCons (gName k) gNil))))
    (hw : ∀ v w, wipe (((wipe σ (own.map (·.2))).set j (some v)).set k (some w)) (own.map (·.2)) = wipe σ (own.map (·.2)))
    (q : AV X [e, e2] σ H fun vs H1 => ∃ a b xs zs, vs = [.ref a, .ref b] ∧ SqL X.K H1 a xs ∧ SqL X.K H1 b zs ∧ xs.length ≤ 100000 ∧ ∀ D, H1 D = none → ∃ In : Nat → List V → Hp → Prop, In 0 [] (upd H1 D (.lst [])) ∧ (∀ i ys H, In i ys H → SqL X.K H a xs ∧ SqL X.K H b zs) ∧
      (∀ i ys v w H T, xs[i]? = some v → zs[i]? = some w → ys.length = i → H D = some (.lst ys) → In i ys H → H T = none → LE X scope elt (((wipe σ (own.map (·.2))).set j (some v)).set k (some w)) (upd H T (.tup [v, w])) fun y H4 => H4 D = some (.lst ys) ∧ In (i + 1) (ys ++ [y]) (upd H4 D (.lst (ys ++ [y])))) ∧
      ∀ ys H, ys.length = min xs.length zs.length → H D = some (.lst ys) → In (min xs.length zs.length) ys H → EE.nx (σ.set ii (some (.ref D))) H) (hgl : Gl X "zip" := by rfl)
    (hst : starEach [e, e2] X.env = (false, eval e X.env) :: starEach [e2] X.env := by rfl) (hpl : (backTo p2 (starEach [e2] X.env)).any (·.1) = false := by rfl) (hs : ∀ x, foldedSetIterable (.Call (.Name "zip" p) [e, e2] [] p2) X.env x = pure x := by intro _; rfl) :
    SV X (.Assign [.Name yy pyy] (.ListComp elt [⟨.Tuple [.Name x px, .Name y py] kk pt, .Call (.Name "zip" p) [e, e2] [] p2, [], 0⟩] scope pos) sps) EE σ H := by
  refine sv_lc ii hc hN hy hyl hsw (RZ.pi_zipA hgl (B.at_ 20) pa_av hst hpl) ok hg gtup2_mono (fun σ H R R' im h => av_mono h fun v H' ⟨a, b, xs, ys, h1, h2⟩ => ⟨a, b, xs, ys, h1, h2.elim (fun h => .inl ⟨h.1, h.2.1, im _ _ h.2.2⟩) fun h => .inr ⟨h.1, h.2.1, im _ _ h.2.2⟩⟩) hs ?_
  refine av_mono q fun v H1 ⟨a, b, xs, zs, h1, h2, h3, h5, h4⟩ => ⟨a, b, xs, zs, h1, .inl ⟨h2, h3, min xs.length zs.length, _, _, walk_zip (xs := xs) (ys := zs) rfl, by omega, fun D hD => ?_⟩⟩
  obtain ⟨In, h0, hG, hs, hd⟩ := h4 D hD
  refine ⟨In, h0, hG, fun i ys v H H' hi e1 e2 e3 ⟨T, v1, w1, e4, e5, e6, e7, e8⟩ => ?_, hd⟩
  subst e4 e6
  exact ⟨T, [v1, w1], rfl, .of upd_same, rfl, v1, [w1], rfl, w1, [], rfl, rfl, hw _ _, hs i ys v1 w1 H T e7 e8 e1 e2 e3 e5⟩
theorem sv_lcS (ii : Nat) (j : Nat) {x : Str} {px : Pos} (hc : X.calm = true) (hN : X.N.Nodup) (hy : X.N[ii]? = some yy) (hyl : X.env.scope.names.lookup yy = some .local) (hsw : swapsWith (.ListComp elt [⟨.Name x px, iter, [], 0⟩] scope pos) (some (.Name yy pyy)) sps.line X.env = pure true) (ok : BlkOk X.N X.env.scope scope own)
    (hg : ∀ (s : Shared) (H : Hp) (C : Addr) (cl : List (Str × Addr)) (fp : List Addr), PG (Cx.blk0 X scope s H C cl fp) (.Name x px) (gName j)) (hw : ∀ v, wipe ((wipe σ (own.map (·.2))).set j (some v)) (own.map (·.2)) = wipe σ (own.map (·.2)))
    (q : EV X iter σ H fun v H1 => ∃ z : Str, v = .str z ∧ z.cps.size ≤ 100000 ∧ ∀ D, H1 D = none → ∃ In : Nat → List V → Hp → Prop, In 0 [] (upd H1 D (.lst [])) ∧
      (∀ i ys c H, z.cps[i]? = some c → ys.length = i → H D = some (.lst ys) → In i ys H → LE X scope elt ((wipe σ (own.map (·.2))).set j (some (.str ⟨#[c]⟩))) H fun y H4 => H4 D = some (.lst ys) ∧ In (i + 1) (ys ++ [y]) (upd H4 D (.lst (ys ++ [y])))) ∧
      ∀ ys H, ys.length = z.cps.size → H D = some (.lst ys) → In z.cps.size ys H → EE.nx (σ.set ii (some (.ref D))) H) (hs : ∀ x, foldedSetIterable iter X.env x = pure x := by intro _; rfl) :
    SV X (.Assign [.Name yy pyy] (.ListComp elt [⟨.Name x px, iter, [], 0⟩] scope pos) sps) EE σ H := by
  refine sv_lc ii hc hN hy hyl hsw (pi_str pe_ev) ok hg gname_mono (fun σ H R R' im h => ev_mono h fun v H' ⟨z, h1, h2⟩ => ⟨z, h1, im _ _ h2⟩) hs ?_
  refine ev_mono q fun v H1 ⟨z, h1, h2, h4⟩ => ⟨z, h1, z.cps.size, _, _, walk_str, h2, fun D hD => ?_⟩
  obtain ⟨In, h0, hs, hd⟩ := h4 D hD
  exact ⟨In, h0, fun _ _ _ _ => trivial, fun i ys v H H' hi e1 e2 e3 ⟨e4, c, e5, e6⟩ => by subst e4 e6; exact ⟨hw _, hs i ys c _ e5 e1 e2 e3⟩, hd⟩
end
end Hv
/-! HQ: values beside numbers, item by item; a sort by insertion. No program in sight. -/
namespace Hv
open PySem PySem.Spec PyProof.Rows L2
section
variable {α β : Type}
inductive Bes (R : α → β → Prop) : List α → List β → Prop
  | nil : Bes R [] []
  | cons {a : α} {b : β} {as : List α} {bs : List β} (h : R a b) (t : Bes R as bs) : Bes R (a :: as) (b :: bs)
variable {R S : α → β → Prop} {as as' : List α} {bs bs' : List β}
theorem Bes.len (h : Bes R as bs) : as.length = bs.length := by
  induction h with
  | nil => rfl
  | cons _ _ ih => rw [List.length_cons, List.length_cons, ih]
theorem Bes.imp (h : Bes R as bs) (f : ∀ a b, R a b → S a b) : Bes S as bs := by
  induction h with
  | nil => exact .nil
  | cons h _ ih => exact .cons (f _ _ h) ih
theorem Bes.app (h : Bes R as bs) (h' : Bes R as' bs') : Bes R (as ++ as') (bs ++ bs') := by
  induction h with
  | nil => exact h'
  | cons h _ ih => exact .cons h ih
theorem Bes.one {a : α} {b : β} (h : R a b) : Bes R [a] [b] := .cons h .nil
theorem Bes.snoc {a : α} {b : β} (h : Bes R as bs) (h' : R a b) : Bes R (as ++ [a]) (bs ++ [b]) := h.app (.one h')
theorem Bes.take (h : Bes R as bs) : ∀ n, Bes R (as.take n) (bs.take n) := by
  induction h with
  | nil => intro n; simp; exact .nil
  | cons h _ ih =>
    intro n
    cases n with
    | zero => exact .nil
    | succ n => exact .cons h (ih n)
theorem Bes.drop (h : Bes R as bs) : ∀ n, Bes R (as.drop n) (bs.drop n) := by
  induction h with
  | nil => intro n; simp; exact .nil
  | cons h t ih =>
    intro n
    cases n with
    | zero => exact .cons h t
    | succ n => exact ih n
theorem Bes.get (h : Bes R as bs) : ∀ (i : Nat) (a : α), as[i]? = some a → ∃ b, bs[i]? = some b ∧ R a b := by
  induction h with
  | nil => intro i a e; simp at e
  | cons h _ ih =>
    intro i a e
    cases i with
    | zero => cases e; exact ⟨_, rfl, h⟩
    | succ i => exact ih i a e
theorem Bes.getR (h : Bes R as bs) : ∀ (i : Nat) (b : β), bs[i]? = some b → ∃ a, as[i]? = some a ∧ R a b := by
  induction h with
  | nil => intro i a e; simp at e
  | cons h _ ih =>
    intro i a e
    cases i with
    | zero => cases e; exact ⟨_, rfl, h⟩
    | succ i => exact ih i a e
end
/-- q behind all that are not above it, where the list ascends -/
def insAt (q : Rat) (l : List Rat) : Nat := (l.takeWhile fun p => decide (p ≤ q)).length
def ins (q : Rat) (l : List Rat) : List Rat := l.take (insAt q l) ++ [q] ++ l.drop (insAt q l)
def isort (l : List Rat) : List Rat := l.foldl (fun acc q => ins q acc) []
theorem insAt_le (q : Rat) (l : List Rat) : insAt q l ≤ l.length := by
  unfold insAt
  induction l with
  | nil => simp
  | cons c r ih =>
    rw [List.takeWhile_cons]
    split
    · simp only [List.length_cons]; omega
    · simp
theorem insAt_of {q : Rat} : ∀ {l : List Rat} {i : Nat}, i ≤ l.length → (∀ j p, j < i → l[j]? = some p → p ≤ q) → (∀ p, l[i]? = some p → ¬ p ≤ q) → i = insAt q l
  | [], i, hi, _, _ => by
    have : i = 0 := by simpa using hi
    subst this
    rfl
  | c :: r, 0, _, _, h2 => by
    unfold insAt
    rw [List.takeWhile_cons, if_neg (by simpa using h2 c rfl)]
    rfl
  | c :: r, i + 1, hi, h1, h2 => by
    have hc : c ≤ q := h1 0 c (by omega) rfl
    have ih := insAt_of (l := r) (i := i) (by simpa using hi) (fun j p hj e => h1 (j + 1) p (by omega) e) (fun p e => h2 p e)
    unfold insAt at ih ⊢
    rw [List.takeWhile_cons, if_pos (by simpa using hc), List.length_cons, ← ih]
theorem ins_cons (q c : Rat) (l : List Rat) : ins q (c :: l) = if c ≤ q then c :: ins q l else q :: c :: l := by
  unfold ins insAt
  rw [List.takeWhile_cons]
  by_cases h : c ≤ q
  · simp [h]
  · simp [h]
theorem ins_mem {q x : Rat} : ∀ {l : List Rat}, x ∈ ins q l ↔ x = q ∨ x ∈ l
  | [] => by simp [ins, insAt]
  | c :: l => by
    rw [ins_cons]
    split
    · rw [List.mem_cons, ins_mem (l := l), List.mem_cons]
      exact ⟨fun h => h.elim (fun h => .inr (.inl h)) fun h => h.elim .inl fun h => .inr (.inr h), fun h => h.elim (fun h => .inr (.inl h)) fun h => h.elim .inl fun h => .inr (.inr h)⟩
    · rw [List.mem_cons]
theorem ins_pw {q : Rat} : ∀ {l : List Rat}, l.Pairwise (· ≤ ·) → (ins q l).Pairwise (· ≤ ·)
  | [], _ => by simp [ins, insAt]
  | c :: l, h => by
    rw [ins_cons]
    rw [List.pairwise_cons] at h
    split
    · rename_i hc
      rw [List.pairwise_cons]
      refine ⟨fun x hx => ?_, ins_pw h.2⟩
      rcases ins_mem.mp hx with rfl | hx
      · exact hc
      · exact h.1 x hx
    · rename_i hc
      have hq : q ≤ c := Rat.le_of_lt (Rat.not_le.mp hc)
      rw [List.pairwise_cons]
      refine ⟨fun x hx => ?_, List.pairwise_cons.mpr h⟩
      rcases List.mem_cons.mp hx with rfl | hx
      · exact hq
      · exact Rat.le_trans hq (h.1 x hx)
theorem fold_pw : ∀ (l acc : List Rat), acc.Pairwise (· ≤ ·) → (l.foldl (fun acc q => ins q acc) acc).Pairwise (· ≤ ·)
  | [], _, h => h
  | q :: l, acc, h => fold_pw l _ (ins_pw h)
theorem isort_pw (l : List Rat) : (isort l).Pairwise (· ≤ ·) := fold_pw l [] .nil
theorem fold_mem {x : Rat} : ∀ (l acc : List Rat), x ∈ l.foldl (fun acc q => ins q acc) acc → x ∈ l ∨ x ∈ acc
  | [], _, h => .inr h
  | q :: l, acc, h => by
    rcases fold_mem l _ h with h | h
    · exact .inl (List.mem_cons_of_mem _ h)
    · rcases ins_mem.mp h with rfl | h
      · exact .inl (List.mem_cons_self ..)
      · exact .inr h
theorem isort_mem {x : Rat} {l : List Rat} (h : x ∈ isort l) : x ∈ l := (fold_mem l [] h).resolve_right (by simp)
theorem ins_len (q : Rat) (l : List Rat) : (ins q l).length = l.length + 1 := by
  have := insAt_le q l
  unfold ins
  simp
  omega
theorem isort_snoc (l : List Rat) (q : Rat) : isort (l ++ [q]) = ins q (isort l) := by
  unfold isort
  rw [List.foldl_append]
  rfl
theorem isort_len (l : List Rat) : (isort l).length = l.length := by
  have : ∀ (l acc : List Rat), (l.foldl (fun acc q => ins q acc) acc).length = acc.length + l.length := by
    intro l
    induction l with
    | nil => intro acc; rfl
    | cons q l ih => intro acc; rw [List.foldl_cons, ih, ins_len, List.length_cons]; omega
  rw [isort, this]
  simp
theorem pw_next {l : List Rat} (h : l.Pairwise (· ≤ ·)) {i : Nat} {p q : Rat} (h1 : l[i]? = some p) (h2 : l[i + 1]? = some q) : p ≤ q := by
  obtain ⟨a, rfl⟩ := List.getElem?_eq_some_iff.mp h1
  obtain ⟨b, rfl⟩ := List.getElem?_eq_some_iff.mp h2
  exact List.pairwise_iff_getElem.mp h i (i + 1) a b (by omega)
end Hv
/-! HX: the package's errors: a class over ValueError whose __init__(self, value) says super().__init__(value), then self.value = value; classes under it that add nothing. -/
namespace HvE
open PySem PySem.W PySem.Calls PyProof.Rows PySem.HandSPX
/-- the text of __init__ -/
def iA (a1 a2 : Pos) : Arguments := { posonlyargs := [], args := [{ arg := "self", annotation := none, pos := a1 }, { arg := "value", annotation := none, pos := a2 }], vararg := none, kwonlyargs := [], kw_defaults := [], kwarg := none, defaults := [] }
def iB (p0 p1 p2 p3 p4 p5 q1 q2 q3 q4 : Pos) : List Stmt := [.Expr (.Call (.Attribute (.Call (.Name "super" p0) [] [] p1) "__init__" p2) [.Name "value" p3] [] p4) p5, .Assign [.Attribute (.Name "self" q1) "value" q2] (.Name "value" q3) q4]
/-- what the written part says of the base class at D, its __init__ at fI -/
structure HovT (prog : Program) (K : Frag) (D fI : Addr) : Prop where
  clsD : (clsIn K D).isSome = true
  ns : nsIn K mainGlobals "super" = some none
  st : nsIn K cStatics "thirdparty.any" = some none
  top : (prog.main.scope.names.lookup ("super" : Str)).isSome = false
  fn : ∃ (oc ct : Value) (od : Option Addr) (doc pm : Value) (an : Option Addr) (osl : Array (Option Value)) (a1 a2 p0 p1 p2 p3 p4 p5 q1 q2 q3 q4 : Pos) (sc : Scope) (cda cc : Addr),
    K.lookup fI = some ⟨oc, od, .func (ksFn "__init__" "HoverError.__init__" (iA a1 a2) (iB p0 p1 p2 p3 p4 p5 q1 q2 q3 q4) sc .none .none doc pm an (.ref cda) ct cc), osl⟩ ∧ codeIn K (.ref cda) "HoverError.__init__" = true ∧
    (∃ (c1 : Value) (d1 : Option Addr) (vs : Array Value) (s1 : Array (Option Value)) (file : Str) (tf : Tok), K.lookup cda = some ⟨c1, d1, .fields vs, s1⟩ ∧ vs[2]? = some (.str file tf) ∧ ((prog.main.file : Str) == file) = true) ∧
    (∃ (c1 : Value) (d1 : Option Addr) (s1 : Array (Option Value)), K.lookup cc = some ⟨c1, d1, .cell (some (.ref D)), s1⟩) ∧
    sc.kind = .function ∧ sc.isCoroutine = false ∧ sc.isGenerator = false ∧ (∀ x ∈ sc.names, x.2 ≠ .cell) ∧ sc.names.lookup ("self" : Str) = some .local ∧ sc.names.lookup ("value" : Str) = some .local ∧
    sc.names.lookup ("super" : Str) = some .globalImplicit ∧ sc.names.lookup ("__class__" : Str) = some .free ∧
    ∀ e : Env, ∃ pl : Sem Bool, eval (.Call (.Attribute (.Call (.Name "super" p0) [] [] p1) "__init__" p2) [.Name "value" p3] [] p4) e = (do
      let ov ← attributeBase (.Call (.Name "super" p0) [] [] p1) "__init__" e (eval (.Call (.Name "super" p0) [] [] p1) e)
      standAt p2.atName
      let (f, first) ← holding [ov] (getMethod ov "__init__" pl)
      callWith p4 f first (backTo p4 (starEach [.Name "value" p3] e)) [])
/-- what it says of an error class at C under D -/
structure ExcT (K : Frag) (D fI C : Addr) : Prop where
  cls : ∃ nm q N bs bm sn sub ab col dd k0 k1 k2 k3 k5, K.lookup C = some (excClassObj nm q C N bs bm true sn sub ab col dd k0 k1 k2 k3 k5 "ValueError.__new__") ∧ refsVE bm = true
  sa : findIn K (.ref C) "__setattr__" = some (some (.builtin "object.__setattr__"))
  ga : findIn K (.ref C) "__getattribute__" = some (some (.builtin "BaseException.__getattribute__"))
  gg : findIn K (.ref C) "__getattr__" = some none
  noN : findIn K (.ref C) "value" = some none
  iC : findIn K (.ref C) "__init__" = some (some (.ref fI))
  tC : typeIn K (.ref fI) = some (.type "function")
  kC : keepIn K (.ref C) = true
  exC : subIn K (.ref C) (.type "BaseException") = some true
  veC : subIn K (.ref C) (.type "ValueError") = some true
  tyC : typeIn K (.ref C) = some (.type "type")
  hdC : hasDictIn K C = true
  sD : mroIn K C (.ref D) = some true
  sup : ks_superIn K C D "__init__" = some (some (.builtin "ValueError.__init__"))
theorem one_size (v : Value) : [v].length ≤ sizeLine := by
  rw [sizeLine_eq]
  exact (by decide : 1 ≤ 16777216)
section
variable {prog : Program} {w : World} {A : Around} {E : Value → Shared → Prop} {R : Result → Shared → Prop} {s : Shared} {K : Frag} {mg mb : Str → Option Value} {D fI C : Addr}
variable {h : Heap} {g : Array GenState} {d : Drawn} {t : Nat} {os : OsState}
/-- ValueError.__init__ bound to the exception at e, called -/
theorem call_mw {nm q : Str} {N : Addr} {bs bm : List Value} {hdct : Bool} {sn : List Str} {sub : List Value} {ab : Bool} {col : Option Bool} {dd : Option Addr} {k0 k1 k2 k3 k5 : Option Value} {u e t0 : Addr} {rest : List Value} {Q : Value → Shared → Prop}
    (hC : h.get? C = some (excClassObj nm q C N bs bm hdct sn sub ab col dd k0 k1 k2 k3 k5 "ValueError.__new__")) (he : h.get? e = some (excO C t0)) (hu : h.get? u = some (kxs_mw "ValueError.__init__" e)) (hrest : rest.length ≤ sizeLine)
    (hq : ∀ h' t1, (∀ b o, b ≠ e → h.get? b = some o → h'.get? b = some o) → h'.get? e = some (excO C t1) → Q .none ⟨h', g, d, t, os⟩) :
    wpAny (model prog w) A (call (.ref u) rest) Q E ⟨h, g, d, t, os⟩ := by
  refine wpAny_call (codeAny_of_tree ?_)
  show wpAny _ A.in1 (callAny (.ref u) ⟨rest, []⟩) _ _ _
  simp only [callAny]
  refine wpAny_bind (wpAny_load hu ?_)
  simp only [kxs_mw, show (Value.type "method-wrapper" == Value.type "method" || Value.type "method-wrapper" == Value.type "builtin_function_or_method" || Value.type "method-wrapper" == Value.type "method-wrapper") = true by decide, if_true]
  refine KFB.if_so (by decide) ?_
  refine wpAny_bind (check_bound_init F.excBase_ValueError.toExcCallFacts hC he rfl ?_)
  refine wpAny_bind (wpAny_pure (wpAny_pure ?_))
  refine ⟨plainId_quiet F.excBase_ValueError.init.plain _, codeAny_builtin F.excBase_ValueError.initEntry ?_⟩
  refine exc_init_tree (cls := .ref C) (t0 := t0) (dv := none) (c2 := .none) (c3 := .none) (b4 := .bool false) he hrest fun h' k e' _ => ?_
  exact hq h' _ k e'
/-- a new exception at x behind __init__ -/
structure InitEnd (h h' : Heap) (x C dx t1 : Addr) (v : Value) : Prop where
  keep : ∀ b o, b ≠ x → h.get? b = some o → h'.get? b = some o
  obj : h'.get? x = some { cls := .ref C, dict := some dx, data := .fields #[.ref t1, .none, .none, .none, .bool false, .none] }
  dbig : h.objs.size ≤ dx
  dne : dx ≠ x
  ns : h'.Ns1 dx (fun y => if y = "value" then some v else none)
theorem hov_init (T : HovT prog K D fI) (U : ExcT K D fI C) {x t0 : Addr} {v : Value} (X : K.In s.heap) (hns : s.heap.Ns mainGlobals mg) (hb : s.heap.Ns builtinsNs mb) (hbb : ∀ x : Str, x ≠ "__name__" → mb x = bootBuiltins x) (hlim : s.heap.NoLimit)
    (hx : s.heap.get? x = some (excO C t0)) (hnx : K.lookup x = none) (hroom : A.depth < recursionLimit)
    (hq : ∀ h' tk dx t1, InitEnd s.heap h' x C dx t1 v → R (.ok (.ret .none)) { s with heap := h', toks := tk }) :
    codeAny (model prog w) A (.call (.ref fI) ⟨[.ref x, v], []⟩) R s := by
  obtain ⟨oc, ct, od, doc, pm, an, osl, a1, a2, p0, p1, p2, p3, p4, p5, q1, q2, q3, q4, sc, cda, cc, ho, hcd, ⟨c1, d1, vs, s1, file, tf, hcode, hvs, hfile⟩, ⟨c2, d2, s2, hcell⟩, hk, hco, hgen, hnc, hks, hkv, hsu, hkc, hform⟩ := T.fn
  obtain ⟨nm, q, N, bs, bm, sn, sub, ab, col, dd, k0, k1, k2, k3, k5, hC, hbm⟩ := U.cls
  obtain ⟨cdD, hcD⟩ := Option.isSome_iff_exists.mp T.clsD
  have hcl : clsIn K C = some { name := nm, bases := bs, mro := .ref C :: bm, ns := N, qualname := q, hasDict := true, slotNames := sn, subclasses := sub, abstract := ab, collection := col, hasDel := false } := by unfold clsIn; rw [hC] <;> rfl
  refine ks_codeAny_call_defAt (fd := ksFn "__init__" "HoverError.__init__" (iA a1 a2) (iB p0 p1 p2 p3 p4 p5 q1 q2 q3 q4) sc .none .none doc pm an (.ref cda) ct cc) (binds := [("self", .ref x), ("value", v)]) hroom (X _ _ ho) rfl hlim (codeRec_of X hcd) rfl
    (BindsTo.of_eq (by first | rfl | with_unfolding_all rfl)) hnc (by
      intro y hy
      simp only [List.mem_cons, List.not_mem_nil, or_false] at hy
      rcases hy with rfl | rfl
      · exact hks
      · exact hkv) (fun h0 n0 kp => ?_) hco hgen hk
  have hxL : s.heap.objs.size ≠ x := Nat.ne_of_gt (Heap.lt_size hx)
  have X0 : K.In h0 := X.keeps kp
  have hx0 := kp _ _ hx
  have vS : (fun y => List.lookup y ([("self", Value.ref x), ("value", v)] : List (Str × Value)).reverse) ("self" : Str) = some (.ref x) := by first | rfl | with_unfolding_all rfl | kernel_rfl
  have vV : (fun y => List.lookup y ([("self", Value.ref x), ("value", v)] : List (Str × Value)).reverse) ("value" : Str) = some v := by first | rfl | with_unfolding_all rfl | kernel_rfl
  obtain ⟨oD, hD1, hD2⟩ : ∃ oD, h0.get? D = some oD ∧ oD.data = .cls cdD := by
    unfold clsIn at hcD
    split at hcD
    · rename_i c d cd' sl ho'
      cases hcD
      exact ⟨_, X0 _ _ ho', rfl⟩
    · cases hcD
  obtain ⟨hp, g, d, t, os⟩ := s
  show _root_.PySem.wpAt _ _ (.func _ (ksEnv "HoverError.__init__" sc hp.objs.size fI (.ref cda) cc)) (execs _ (ksEnv "HoverError.__init__" sc hp.objs.size fI (.ref cda) cc)) _ _ _
  obtain ⟨pl, hev⟩ := hform (ksEnv "HoverError.__init__" sc hp.objs.size fI (.ref cda) cc)
  refine ks_wpAt_execs_cons (ks_wpAt_Expr_any (ks_wpAt_MethodCall ?_ hev) (by simp [interactive, hk]) (by rfl))
  refine ks_wpAt_super_base (env := ksEnv "HoverError.__init__" sc hp.objs.size fI (.ref cda) cc) hsu hkc rfl rfl (X0 _ _ ho) rfl rfl rfl (X0 _ _ hcode) rfl hvs hfile T.top ?_
  refine ks_loadName_global hk hsu (loadGlobal_builtin (env := ksEnv "HoverError.__init__" sc hp.objs.size fI (.ref cda) cc) (hns.keeps kp) (mg_none_of X hns T.ns) (hb.keeps kp) ((hbb _ (by decide +kernel)).trans PyProof.Rows.Boot.«super») ⟨rfl, ?_⟩)
  refine wpAny_loadName_free hk hkc rfl ⟨_, X0 _ _ hcell, rfl⟩ ?_
  refine wpAny_loadName_local hk hks n0 vS ?_
  refine ks_wpAny_isType_cls hD1 hD2 ⟨rfl, ?_⟩
  refine ks_wpAny_call_super hD1 hD2 hx0 rfl (fun c e => by cases e) (looks_mroIn X0 U.sD) (fun h1 e1 k1 => ?_)
  have X1 : K.In h1 := X0.keeps k1
  have hx1 := k1 _ _ hx0
  have hmr : Looks (model prog w) h1 (mroOf (.ref C)) (.ref C :: bm) := (looks_clsIn X1 hcl).andThen .now
  have hI : Looks (model prog w) h1 (isInstance (.ref x) (.type "ValueError")) true := (InstAt.type (od := none) ⟨hx1, rfl, rfl, trivial⟩ : Looks (model prog w) h1 (typeOf (.ref x)) (.ref C)).andThen (looks_subIn X1 U.veC)
  have hsup : alongIn K "__init__" (((Value.ref C :: bm).dropWhile (· != .ref D)).drop 1) = some (some (.builtin "ValueError.__init__")) := by
    have z := U.sup
    unfold ks_superIn at z
    rw [hcl] at z
    exact z
  have hxC : x ≠ C := fun z => by
    have y := X _ _ hC
    rw [← z, hx] at y
    cases y
  refine kxs_getMethod kxs_ValueError e1 (looks_opaque X1 T.st) hmr rfl X1 hsup hI hxC rfl ?_
  have hu : (h1.push (kxs_mw "ValueError.__init__" x)).get? h1.objs.size = some (kxs_mw "ValueError.__init__" x) := Heap.get?_push_at rfl rfl
  have k2 : ∀ b o, h1.get? b = some o → (h1.push (kxs_mw "ValueError.__init__" x)).get? b = some o := fun b o e => Heap.get?_push_of_some _ e
  have n2 := (n0.keeps k1).keeps k2
  generalize (h1.push (kxs_mw "ValueError.__init__" x)) = h2 at hu k2 n2 ⊢
  refine kxs_callWith (i := "ValueError.__init__") (x := x) (by rfl) ?_
  show wpAny _ _ (evalArgs _ true [(false, eval (.Name "value" p3) (ksEnv "HoverError.__init__" sc hp.objs.size fI (.ref cda) cc))] []) _ _ _
  refine evalArgs_plain (spliced_cons (wpAny_Name (wpAny_loadName_local (env := ksEnv "HoverError.__init__" sc hp.objs.size fI (.ref cda) cc) hk hkv n2 vV ?_) rfl))
  refine spliced_nil ⟨hu, ?_⟩
  have X2 : K.In h2 := X1.keeps k2
  refine call_mw (X2 _ _ hC) (k2 _ _ hx1) hu (one_size v) fun h3 t1 k3 hx3 => ?_
  have kp3 : ∀ b o, b ≠ x → hp.get? b = some o → h3.get? b = some o := fun b o hb e => k3 b o hb (k2 b o (k1 b o (kp b o e)))
  have X3 : K.In h3 := fun a o e => k3 a o (fun z => by rw [z, hnx] at e; cases e) (X2 a o e)
  have n3 := n2.at (fun o q => k3 _ o hxL q)
  refine wpAt_of_wpAny ?_
  refine wpAny_execs_cons (plainObj_wpAny_Assign_Attribute ?_)
  refine wpAny_Name (wpAny_loadName_local (env := ksEnv "HoverError.__init__" sc hp.objs.size fI (.ref cda) cc) hk hkv n3 vV ?_) rfl
  refine wpAny_Name (wpAny_loadName_local (env := ksEnv "HoverError.__init__" sc hp.objs.size fI (.ref cda) cc) hk hks n3 vS ?_) rfl
  refine set_plain X3 (ox := excO C t1) (od := none) ⟨hx3, rfl, rfl, trivial⟩ U.sa ?_
  refine exc_osa X3 hx3 hcl (show refsVE (.ref C :: bm) = true from hbm) rfl U.noN (fun h4 tk4 dx k4 dn dne hx4 hn4 => ?_)
  refine wpAny_execs_nil (hq h4 tk4 dx t1 ⟨fun b o hb e => k4 b o hb (kp3 b o hb e), hx4, ?_, dne, hn4⟩)
  have z1 : hp.objs.size < h3.objs.size := n3.lt
  exact Nat.le_trans (Nat.le_of_lt z1) dn
/-- a made error at e, its dict at d -/
structure OwnMade (h h' : Heap) (e C d : Addr) (v : Value) : Prop where
  keep : ∀ b o, h.get? b = some o → h'.get? b = some o
  new : h.objs.size ≤ e
  obj : ∃ oe vs, h'.get? e = some oe ∧ oe.cls = .ref C ∧ oe.dict = some d ∧ oe.data = .fields vs ∧ vs[1]? = some .none ∧ vs[2]? = some .none ∧ 4 < vs.size
  dbig : h.objs.size ≤ d
  dne : d ≠ e
  ns : h'.Ns1 d (fun y => if y = "value" then some v else none)
theorem hov_made (T : HovT prog K D fI) (U : ExcT K D fI C) {v : Value} (X : K.In s.heap) (hns : s.heap.Ns mainGlobals mg) (hb : s.heap.Ns builtinsNs mb) (hbb : ∀ x : Str, x ≠ "__name__" → mb x = bootBuiltins x) (hlim : s.heap.NoLimit) (hroom : A.depth + 1 < recursionLimit)
    (hq : ∀ h' tk e d, OwnMade s.heap h' e C d v → R (.ok (.ret (.ref e))) { s with heap := h', toks := tk }) :
    codeAny (model prog w) A (.call (.ref C) ⟨[v], []⟩) R s := by
  obtain ⟨nm, q, N, bs, bm, sn, sub, ab, col, dd, k0, k1, k2, k3, k5, hC, hbm⟩ := U.cls
  obtain ⟨hp, g, dr, tk, os⟩ := s
  have k : ∀ b o, hp.get? b = some o → ((hp.push (kdv_tup [v])).push (excO C hp.objs.size)).get? b = some o := fun b o e => Heap.get?_push_of_some _ (Heap.get?_push_of_some _ e)
  have hget : ((hp.push (kdv_tup [v])).push (excO C hp.objs.size)).get? (hp.objs.size + 1) = some (excO C hp.objs.size) := by heap_get
  have hnx : K.lookup (hp.objs.size + 1) = none := by
    cases e : K.lookup (hp.objs.size + 1) with
    | none => rfl
    | some o =>
      have z : hp.get? (hp.objs.size + 1) = some o := X _ _ e
      exact absurd (Nat.lt_of_succ_lt (Heap.lt_size z)) (Nat.lt_irrefl _)
  refine call_own F.excBase_ValueError (fun X => refsVE_contains X bm hbm) (X _ _ hC) (looks_findIn X U.iC) (fun self => bind_fn X self U.tC) (one_size v) ?_
  refine hov_init (s := ⟨(hp.push (kdv_tup [v])).push (excO C hp.objs.size), g, dr, tk, os⟩) T U (X.keeps k) (hns.keeps k) (hb.keeps k) hbb (hlim.keeps k) hget hnx ?_ fun h' tk' dx t1 ⟨k', hx, dn, dne, hns'⟩ => ?_
  · show A.depth + 1 < recursionLimit
    exact hroom
  · have old : ∀ b o, hp.get? b = some o → h'.get? b = some o := fun b o e => k' b o (Nat.ne_of_lt (Nat.lt_succ_of_lt (Heap.lt_size e))) (k b o e)
    have z : hp.objs.size + 1 + 1 ≤ dx := by
      have q := dn
      rw [Heap.size_push, Heap.size_push] at q
      exact q
    exact ⟨rfl, hq h' tk' (hp.objs.size + 1) dx ⟨old, Nat.le_succ _, ⟨_, _, hx, rfl, rfl, rfl, rfl, rfl, (by show 4 < 6; decide)⟩, Nat.le_trans (Nat.le_trans (Nat.le_succ _) (Nat.le_succ _)) z, dne, hns'⟩⟩
end
end HvE
/-! HH: a head's Hook of one's own: defs by paths, any Bool of the written part. -/
namespace Hv
open PySem PySem.Spec PyProof.Rows L2
/-- one def of the text: a path to it, and what stands there -/
structure De where
  at_ : PySem.W.Frag → Addr
  name : Str
  qual : Str
  st : Stmt
  dfl : List He.Dv := []
  kwd : List (Str × He.Dv) := []
  clo : List Str := []
abbrev FW : Type := Option (Str × Str × Arguments × FuncBody × Scope × Addr × List Str × Addr)
def fwAt (K : PySem.W.Frag) (a : Addr) : FW := match K.lookup a with
  | some ⟨_, _, .func fd, _⟩ => some (fd.name, fd.qualname, fd.params, fd.body, fd.scope, fd.globals, fd.closure.map Prod.fst, fd.builtins)
  | _ => none
def De.val (d : De) : FW := some (d.name, d.qual, defArgs d.st, .stmts (defBody d.st), defScope d.st, mainGlobals, d.clo, builtinsNs)
def De.dvs (K : PySem.W.Frag) (d : De) : List V := d.dfl.map (He.Dv.v K)
def De.kws (K : PySem.W.Frag) (d : De) : List (Str × V) := d.kwd.map fun q => (q.1, q.2.v K)
def De.ok (K : PySem.W.Frag) (d : De) : Bool := PySem.W.keepIn K (.ref (d.at_ K)) && (match K.lookup (d.at_ K) with
  | some ⟨_, _, .func fd, _⟩ => PySem.W.codeIn K fd.code d.qual && (He.dflB K fd.defaults (d.dvs K) && He.kwdB K fd.kwdefaults (d.kws K))
  | _ => false)
theorem De.funD {K : PySem.W.Frag} {d : De} (hc : d.clo = []) (e : fwAt K (d.at_ K) = d.val) (c : d.ok K = true) :
    ∃ fd, FunD K d.name d.qual (defArgs d.st) (defBody d.st) (defScope d.st) (d.dvs K) (d.kws K) (d.at_ K) fd := by
  obtain ⟨kp, c2⟩ := He.ba c
  unfold fwAt at e
  cases q : K.lookup (d.at_ K) with
  | none => rw [q] at c2; cases c2
  | some o =>
    obtain ⟨oc, od, dt, osl⟩ := o
    rw [q] at c2 e
    cases dt with
    | func fd =>
      obtain ⟨n1, n2, n3, n4, n5, n6, n7, n8, n9, n10, n11, n12, n13, n14, n15⟩ := fd
      have e2 : (some (n1, n2, n3, n4, n5, n6, n7.map Prod.fst, n15) : FW) = some (d.name, d.qual, defArgs d.st, .stmts (defBody d.st), defScope d.st, mainGlobals, d.clo, builtinsNs) := e
      simp only [Option.some.injEq, Prod.mk.injEq] at e2
      obtain ⟨h1, h2, h3, h4, h5, h6, h7, h8⟩ := e2
      rw [hc, List.map_eq_nil_iff] at h7
      subst h1 h2 h3 h4 h5 h6 h7 h8
      obtain ⟨k1, k2⟩ := He.ba (show (PySem.W.codeIn K n13 d.qual && (He.dflB K n8 (d.dvs K) && He.kwdB K n9 (d.kws K))) = true from c2)
      obtain ⟨k3, k4⟩ := He.ba k2
      exact ⟨_, ⟨oc, od, n8, n9, n10, n11, n12, n13, n14, osl, rfl, q, k1, He.dflB_ok k3, He.kwdB_ok k4⟩, kp⟩
    | _ => cases c2
abbrev Al : Type := Bool × List FW
def obsK (ex : PySem.W.Frag → Bool) (fn : List De) (K : PySem.W.Frag) : Al := (ex K && fn.all fun d => d.ok K, fn.map fun d => fwAt K (d.at_ K))
def valK (fn : List De) : Al := (true, fn.map De.val)
def Says (ex : PySem.W.Frag → Bool) (fn : List De) (K : PySem.W.Frag) : Prop := obsK ex fn K = valK fn
def obsG (n : Nat) (ex : PySem.W.Frag → Bool) (fn : List De) (g : Addr → Option Obj) : Al := obsK ex fn (He.frG g (cStatics :: sysModules :: He.asD g n))
def hookG (n : Nat) (ex : PySem.W.Frag → Bool) (fn : List De) : PySem.W.Hook where
  α := Al
  obs := fun s => obsG n ex fn s.heap.get?
  val := fun _ => valK fn
  says := fun _ h => ∃ K : PySem.W.Frag, K.In h ∧ Says ex fn K
  of := fun _ _ e => ⟨_, He.frG_in, e⟩
  keeps := fun _ _ _ ⟨K, hK, c⟩ k => ⟨K, PySem.W.Frag.In.keeps hK k, c⟩
theorem obsG_eq {n : Nat} {ex : PySem.W.Frag → Bool} {fn : List De} {g : Addr → Option Obj} {s : Shared} (h : ∀ a, g a = s.heap.get? a) : obsG n ex fn g = (hookG n ex fn).obs s := by
  have e : g = s.heap.get? := funext h
  rw [e] <;> rfl
section
variable {ex : PySem.W.Frag → Bool} {fn : List De} {K : PySem.W.Frag}
theorem Says.more (c : Says ex fn K) : ex K = true := (He.ba (show (ex K && fn.all fun d => d.ok K) = true from congrArg (fun z : Al => z.1) c)).1
theorem Says.def_ (c : Says ex fn K) (i : Nat) {d : De} (h : fn[i]? = some d := by rfl) (hc : d.clo = [] := by rfl) :
    ∃ fd, FunD K d.name d.qual (defArgs d.st) (defBody d.st) (defScope d.st) (d.dvs K) (d.kws K) (d.at_ K) fd := by
  have c2 := (He.ba (show (ex K && fn.all fun d => d.ok K) = true from congrArg (fun z : Al => z.1) c)).2
  have e : fn.map (fun d => fwAt K (d.at_ K)) = fn.map De.val := congrArg (fun z : Al => z.2) c
  have e2 : (fn.map fun d => fwAt K (d.at_ K))[i]? = (fn.map De.val)[i]? := by rw [e]
  rw [List.getElem?_map, List.getElem?_map, h] at e2
  exact De.funD hc (Option.some.inj e2) (List.all_eq_true.mp c2 d (List.mem_of_getElem? h))
/-- a def whose class its text asks for: one closure cell -/
theorem Says.defC (c : Says ex fn K) (i : Nat) {d : De} {x : Str} (h : fn[i]? = some d := by rfl) (hc : d.clo = [x] := by rfl) :
    ∃ (oc : Value) (od : Option Addr) (osl : Array (Option Value)) (cc : Addr) (dV kV doc pm : Value) (an : Option Addr) (cdv ct : Value),
      K.lookup (d.at_ K) = some ⟨oc, od, .func (PySem.W.fnX d.name d.qual (defArgs d.st) (defBody d.st) (defScope d.st) [(x, cc)] dV kV doc pm an cdv ct), osl⟩ ∧ PySem.W.codeIn K cdv d.qual = true ∧
        He.dflB K dV (d.dvs K) = true ∧ He.kwdB K kV (d.kws K) = true ∧ PySem.W.keepIn K (.ref (d.at_ K)) = true := by
  have c2 := (He.ba (show (ex K && fn.all fun d => d.ok K) = true from congrArg (fun z : Al => z.1) c)).2
  have e : fn.map (fun d => fwAt K (d.at_ K)) = fn.map De.val := congrArg (fun z : Al => z.2) c
  have e2 : (fn.map fun d => fwAt K (d.at_ K))[i]? = (fn.map De.val)[i]? := by rw [e]
  rw [List.getElem?_map, List.getElem?_map, h] at e2
  have e : fwAt K (d.at_ K) = d.val := Option.some.inj e2
  obtain ⟨kp, c2⟩ := He.ba (List.all_eq_true.mp c2 d (List.mem_of_getElem? h))
  unfold fwAt at e
  cases q : K.lookup (d.at_ K) with
  | none => rw [q] at c2; cases c2
  | some o =>
    obtain ⟨oc, od, dt, osl⟩ := o
    rw [q] at c2 e
    cases dt with
    | func fd =>
      obtain ⟨n1, n2, n3, n4, n5, n6, n7, n8, n9, n10, n11, n12, n13, n14, n15⟩ := fd
      have e2 : (some (n1, n2, n3, n4, n5, n6, n7.map Prod.fst, n15) : FW) = some (d.name, d.qual, defArgs d.st, .stmts (defBody d.st), defScope d.st, mainGlobals, d.clo, builtinsNs) := e
      simp only [Option.some.injEq, Prod.mk.injEq] at e2
      obtain ⟨h1, h2, h3, h4, h5, h6, h7, h8⟩ := e2
      rw [hc] at h7
      obtain ⟨cc, rfl⟩ : ∃ cc, n7 = [(x, cc)] := by
        match n7, h7 with
        | [(y, b)], h7 =>
          cases h7
          exact ⟨b, rfl⟩
      subst h1 h2 h3 h4 h5 h6 h8
      obtain ⟨k1, k2⟩ := He.ba (show (PySem.W.codeIn K n13 d.qual && (He.dflB K n8 (d.dvs K) && He.kwdB K n9 (d.kws K))) = true from c2)
      obtain ⟨k3, k4⟩ := He.ba k2
      exact ⟨oc, od, osl, cc, n8, n9, n10, n11, n12, n13, n14, rfl, k1, k3, k4, kp⟩
    | _ => cases c2
end
end Hv
/-! HI: facts of the written part as Bools: classes with slots that count as numbers, their slots, properties. -/
namespace Hv
open PySem PySem.Spec PyProof.Rows L2 SlX He
/-- the getter of the property f of the class at C -/
def pgAt (K : PySem.W.Frag) (C : Addr) (f : Str) : Addr := match PySem.W.recIn K (ma K C f) "property" with
  | some (.ref g :: _) => g
  | _ => 0
/-- the def of the static method f of the class at C -/
def smAt (K : PySem.W.Frag) (C : Addr) (f : Str) : Addr := match PySem.W.recIn K (ma K C f) "staticmethod" with
  | some (.ref g :: _) => g
  | _ => 0
def statB (K : PySem.W.Frag) (C : Addr) (f : Str) : Bool := match PySem.W.findCls K (.ref C) (.type "type") f with
  | some (.get (.builtin g) (.ref p) .none (.ref C2)) => decide (g = "staticmethod.__get__") && (decide (p = ma K C f) && decide (C2 = C))
  | _ => false
inductive Fb where
  | fa (f : Fa)
  | num (x : Str)
  | slot (x f : Str) (i : Nat)
  | prop (x f : Str)
  | stat (x f : Str)
  | ne (x y : Str)
  | etup (x m : Str) (i : Nat)
  | nosq (x : Str)
def Fb.ok (K : PySem.W.Frag) : Fb → Bool
  | .fa f => f.ok K
  | .num x => (PySem.W.plainGet K (ga K x) Str.empty && (PySem.W.isClsIn K (ga K x) && (PySem.W.plainOver K (ga K x) && eqO (PySem.W.findIn K (.ref (ga K x)) "__setattr__") (some (some (.builtin "object.__setattr__")))))) &&
      ((eqO (PySem.W.findIn K (.ref (ga K x)) "__class__") (some (some (.builtin "object.__class__"))) && (eqO (PySem.W.specialIn K (.builtin "object.__class__") "__get__") (some (some (.builtin "getset_descriptor.__get__"))) &&
        (decide (PySem.W.takesIn K (.builtin "object.__class__") = some true) && decide (PySem.W.mroIn K (ga K x) (.type "object") = some true)))) &&
      (PySem.W.selfFirst K (ga K x) && decide (PySem.W.subIn K (.ref (ga K x)) (.type "int") = some false)))
  | .slot x f i => eqO (PySem.W.findIn K (.ref (ga K x)) f) (some (some (.ref (ma K (ga K x) f)))) && (eqO (PySem.W.specialIn K (.ref (ma K (ga K x) f)) "__get__") (some (some (.builtin "member_descriptor.__get__"))) &&
      (decide (PySem.W.takesIn K (.ref (ma K (ga K x) f)) = some true) && (decide (PySem.W.typeIn K (.ref (ma K (ga K x) f)) = some (.type "member_descriptor")) && (decide (PySem.W.slotIn K (ma K (ga K x) f) (ga K x) = some i) && decide (i < 1000)))))
  | .prop x f => eqO (PySem.W.findIn K (.ref (ga K x)) f) (some (some (.ref (ma K (ga K x) f)))) && (eqO (PySem.W.specialIn K (.ref (ma K (ga K x) f)) "__get__") (some (some (.builtin "property.__get__"))) &&
      (decide (PySem.W.takesIn K (.ref (ma K (ga K x) f)) = some true) && (match PySem.W.recIn K (ma K (ga K x) f) "property" with
        | some (.ref _ :: _) => true
        | _ => false)))
  | .stat x f => statB K (ga K x) f && ((match PySem.W.recIn K (ma K (ga K x) f) "staticmethod" with
        | some (.ref _ :: _) => true
        | _ => false) && (PySem.W.handedIn (.ref (smAt K (ga K x) f)) && (PySem.W.keepIn K (.ref (smAt K (ga K x) f)) && (PySem.W.readsIn K (ga K x) (.type "type") && eqO (PySem.W.specialIn K (.ref (ga K x)) "__getattribute__") (some (some (.builtin "type.__getattribute__")))))))
  | .ne x y => decide (ga K x ≠ ga K y)
  | .etup x m i => (match K.lookup (dflAt (x, some m) i K) with
    | some ⟨.type n, _, .seq its _, _⟩ => decide (n = "tuple") && decide (its.size = 0)
    | _ => false)
  | .nosq x => PySem.W.noSeq K (ga K x)
section
variable {K : PySem.W.Frag}
theorem ne_ok {x y : Str} (c : (Fb.ne x y).ok K = true) : ga K x ≠ ga K y := of_decide_eq_true c
theorem nosq_ok {x : Str} (c : (Fb.nosq x).ok K = true) : PySem.W.noSeq K (ga K x) = true := c
/-- an empty tuple among the defaults -/
theorem etup_ok {x m : Str} {i : Nat} (c : (Fb.etup x m i).ok K = true) (H : Hp) : SqT K H (dflAt (x, some m) i K) [] := by
  have c : (match K.lookup (dflAt (x, some m) i K) with
    | some ⟨.type n, _, .seq its _, _⟩ => decide (n = "tuple") && decide (its.size = 0)
    | _ => false) = true := c
  split at c
  · rename_i n d its k sl e
    obtain ⟨c1, c2⟩ := ba c
    refine .inr ⟨_, its, k, e, ?_, rfl, ?_, ?_⟩
    · rw [of_decide_eq_true c1]
    · rw [of_decide_eq_true c2]; exact Nat.zero_le _
    · have h : its = #[] := Array.eq_empty_of_size_eq_zero (of_decide_eq_true c2)
      rw [h]
      exact .nil
  · cases c
theorem num_ok {x : Str} (c : (Fb.num x).ok K = true) : NumC K (ga K x) := by
  obtain ⟨c1, c⟩ := ba c
  obtain ⟨a1, a⟩ := ba c1
  obtain ⟨a2, a⟩ := ba a
  obtain ⟨a3, a4⟩ := ba a
  obtain ⟨c2, c⟩ := ba c
  obtain ⟨b1, b⟩ := ba c2
  obtain ⟨b2, b⟩ := ba b
  obtain ⟨b3, b4⟩ := ba b
  obtain ⟨d1, d2⟩ := ba c
  refine ⟨⟨a1, a2, a3, eqO_ok a4⟩, ⟨eqO_ok b1, eqO_ok b2, of_decide_eq_true b3, of_decide_eq_true b4⟩, d1, of_decide_eq_true d2, ?_⟩
  unfold PySem.W.notFirst
  simp
theorem slot_ok {x f : Str} {i : Nat} (c : (Fb.slot x f i).ok K = true) : Slot1 K (ga K x) f (ma K (ga K x) f) i := by
  obtain ⟨c1, c⟩ := ba c
  obtain ⟨c2, c⟩ := ba c
  obtain ⟨c3, c⟩ := ba c
  obtain ⟨c4, c⟩ := ba c
  obtain ⟨c5, c6⟩ := ba c
  exact ⟨eqO_ok c1, eqO_ok c2, of_decide_eq_true c3, of_decide_eq_true c4, of_decide_eq_true c5, of_decide_eq_true c6⟩
theorem prop_ok {x f : Str} (c : (Fb.prop x f).ok K = true) : PropG K (ga K x) f (ma K (ga K x) f) (pgAt K (ga K x) f) := by
  obtain ⟨c1, c⟩ := ba c
  obtain ⟨c2, c⟩ := ba c
  obtain ⟨c3, c4⟩ := ba c
  refine ⟨eqO_ok c1, eqO_ok c2, of_decide_eq_true c3, ?_⟩
  unfold pgAt
  have c5 : (match PySem.W.recIn K (ma K (ga K x) f) "property" with
        | some (.ref _ :: _) => true
        | _ => false) = true := c4
  split at c5
  · rename_i g r q
    exact ⟨r, by rw [q]⟩
  · cases c5
theorem stat_ok {x f : Str} (c : (Fb.stat x f).ok K = true) : ClX.CRead K (ga K x) (.type "type") ∧ SMet K (ga K x) (.type "type") f (ma K (ga K x) f) (smAt K (ga K x) f) := by
  obtain ⟨c1, c⟩ := ba c
  obtain ⟨c2, c⟩ := ba c
  obtain ⟨c3, c⟩ := ba c
  obtain ⟨c4, c⟩ := ba c
  obtain ⟨c5, c6⟩ := ba c
  refine ⟨⟨c5, eqO_ok c6⟩, ?_, ?_, c3, c4⟩
  · unfold statB at c1
    split at c1
    · rename_i g p C2 q
      obtain ⟨d1, c1⟩ := ba c1
      obtain ⟨d2, d3⟩ := ba c1
      rw [q, of_decide_eq_true d1, of_decide_eq_true d2, of_decide_eq_true d3]
    · cases c1
  · unfold smAt
    have c7 : (match PySem.W.recIn K (ma K (ga K x) f) "staticmethod" with
        | some (.ref _ :: _) => true
        | _ => false) = true := c2
    split at c7
    · rename_i g r q
      exact ⟨r, by rw [q]⟩
    · cases c7
/-- the own classes told apart -/
def csB (K : PySem.W.Frag) (cs : List Addr) : Bool := cs.all fun C => (PySem.W.clsIn K C).isSome && decide (PySem.W.typeIn K (.ref C) = some (.type "type")) && tys.all (fun T => decide (PySem.W.subIn K (.ref C) (.type T) = some false)) &&
  cs.all fun D => decide (PySem.W.subIn K (.ref C) (.ref D) = some (decide (C = D)))
theorem csB_ok {cs : List Addr} (h : csB K cs = true) : Cs K cs := by
  unfold csB at h
  simp only [List.all_eq_true, Bool.and_eq_true, decide_eq_true_eq] at h
  exact ⟨fun C hC => (h C hC).1.1.1, fun C hC => (h C hC).1.1.2, fun C hC => (h C hC).1.2, fun C hC => (h C hC).2⟩
/-- all of them -/
def allB (l : List Fb) (K : PySem.W.Frag) : Bool := l.all fun f => f.ok K
theorem allB_at {l : List Fb} (h : allB l K = true) (i : Nat) {f : Fb} (e : l[i]? = some f := by rfl) : f.ok K = true :=
  List.all_eq_true.mp h f (List.mem_of_getElem? e)
end
theorem blt_ok {K : PySem.W.Frag} {h : Heap} {mg : Str → Option Value} (X : K.In h) (G : h.Ns mainGlobals mg) {l : List Fb} (c : allB l K = true) (hl : l.take blts.length = blts.map fun x => Fb.fa (.free x)) : Blt mg := by
  intro x hx
  have hm : Fb.fa (.free x) ∈ l.take blts.length := by
    rw [hl]
    exact List.mem_map_of_mem hx
  exact free_ok X G (List.all_eq_true.mp c _ (List.mem_of_mem_take hm))
end Hv
/-! HZ: the law's end for a promise that knows that no repr is under way. -/
namespace Hv
open PySem PySem.Spec PyProof.Rows L2
theorem room_caller {k : Nat} (h : Room k callerA) : RoomG k callerA := ⟨h, rfl⟩
section
variable {P : Program} {w : World} {K : PySem.W.Frag} {mg mb : Str → Option Value} {k : Nat} {fa a : Addr} {sp : Sp} {s : Shared} {vs : List Value} {ns : List Int}
/-- what is tracked at the law's entry: the script alone, as it stands; nothing if it is the module's own -/
def hp0 (K : PySem.W.Frag) (a : Addr) (o : Obj) (xs : List V) : Hp := fun b => if b = a ∧ K.lookup a = none then some (.frz o (.lst xs)) else none
theorem hp0_at {o : Obj} {xs : List V} {b : Addr} {u : HO} (h : hp0 K a o xs b = some u) : b = a ∧ K.lookup a = none ∧ u = .frz o (.lst xs) := by
  unfold hp0 at h
  split at h
  · rename_i c
    exact ⟨c.1, c.2, (Option.some.inj h).symm⟩
  · cases h
/-- the law's promise at the heap behind the top -/
theorem law_run (KX : K.In s.heap) (hns : s.heap.Ns mainGlobals mg) (hb : s.heap.Ns builtinsNs mb) (hbb : ∀ x : Str, x ≠ "__name__" → mb x = bootBuiltins x) (hlim : s.heap.NoLimit) (hg : s.gens = #[])
    (ha : s.heap.get? a = some { cls := .type "list", data := .seq vs.toArray }) (hi : IntsAre vs ns) (hl : ns.length ≤ sizeLine) (hr : Room k callerA)
    (F : ∀ base : Heap, K.In base → base.Ns mainGlobals mg → FnG P w K mg base k fa sp)
    (hsp : ∀ H : Hp, SqL K H a (ns.map V.int) → sp [.ref a] H (fun v _ => v = .bl true) E0) :
    codeAny (model P w) callerA (.call (.ref fa) ⟨[.ref a], []⟩) (fun r s' => r = .ok (.ret (.bool true)) ∧ OldK s.heap s'.heap ∧ s'.os = s.os ∧ AllBare s'.gens) s := by
  have rv := vals_ints hi
  have nl := hi.length
  let o : Obj := { cls := .type "list", data := .seq vs.toArray }
  let H := hp0 K a o (ns.map V.int)
  have hok : HOk P w H s.heap := fun b u z => by
    obtain ⟨rfl, _, rfl⟩ := hp0_at z
    exact ⟨ha, by rw [List.length_map]; exact hl, vs, _, rv, ha⟩
  have sq : SqL K H a (ns.map V.int) := by
    cases e : K.lookup a with
    | none => exact .inl (.inr ⟨o, by show (if _ then _ else _) = _; rw [if_pos ⟨rfl, e⟩]⟩)
    | some o' =>
      have z := KX a o' e
      rw [ha] at z
      cases z
      exact .inr ⟨_, vs.toArray, _, e, rfl, rfl, rfl, by rw [List.size_toArray, nl]; exact hl, by simpa using rv⟩
  have untr : ∀ {b : Addr} {ob : Obj}, s.heap.get? b = some ob → (∀ u, H b = some u → False) → (hidT s.heap H).get? b = some ob := fun {b ob} e n => hidT_get e (by
    cases z : H b with
    | none => rfl
    | some u => exact (n u z).elim)
  have dct : ∀ {b : Addr} {m : Str → Option Value}, s.heap.Ns b m → (hidT s.heap H).Ns b m := fun {b m} ⟨ob, es, ep, e, d, r⟩ => ⟨ob, es, ep, untr e (fun u z => by
    obtain ⟨rfl, _, _⟩ := hp0_at z
    rw [ha] at e
    cases e
    cases (show Data.seq vs.toArray _ = Data.dict es ep from d)), d, r⟩
  have kin : K.In (hidT s.heap H) := fun b ob e => untr (KX b ob e) fun u z => by
    obtain ⟨rfl, n, _⟩ := hp0_at z
    rw [n] at e
    cases e
  have md : Mod K mg (hidT s.heap H) := ⟨kin, dct hns, ⟨mb, dct hb, hbb⟩, let ⟨mc, h1, h2⟩ := hlim; ⟨mc, dct h1, h2⟩⟩
  have e0 : Env0 P w K mg (hidT s.heap H) callerA [] s H := ⟨rfl, md, fun b ob e => of_hidT e, Nat.le_of_eq (hidT_size _ _), trivial, fun b hb => absurd (show b ∈ ([] : List Addr) from hb) (by simp), hok, .of_eq hg⟩
  refine codeAny_mono (F _ kin (dct hns) callerA [] s H [.ref a] [.ref a] _ E0 (room_caller hr) e0 (.cons rfl .nil) (hsp H sq)) fun r s' z => ?_
  match r, z with
  | .error e, z => exact (noX z).elim
  | .ok (.ret u), z =>
    obtain ⟨v, H', os, bare, un, hok', r', q⟩ := z
    have q' : v = .bl true := q
    subst q'
    obtain rfl : u = Value.bool true := r'
    refine ⟨rfl, OldK.of_keep fun b ob e => ?_, os, bare⟩
    cases z : H b with
    | none => exact un.keep b ob e z (by intro z; exact absurd (show b ∈ ([] : List Addr) from z) (by simp)) (by simp)
    | some u =>
      obtain ⟨rfl, _, rfl⟩ := hp0_at z
      obtain ⟨e1, _⟩ := hok' b _ (un.frzs b _ _ z)
      rw [ha] at e
      cases e
      exact e1
/-- a law, from its promise: the goal that the head leaves -/
theorem walk_end {l : PySem.W.OpenLaw} {n k : Nat} {q : Program} {loose : List Str} {XP : (Str → Option Value) → Heap → Prop} {YP : World → Heap → Prop} {d : DefRec}
    (hn : l.most = some n) (hn2 : n ≤ sizeLine) (hdf : d.params.defaults = []) (hr : Room k callerA)
    (F : ∀ (w : World) (mg : Str → Option Value) (fa : Addr) (h : Heap), YP w h → h.Ns mainGlobals mg → mg d.name = some (.ref fa) →
      ∃ (K : PySem.W.Frag) (sp : Sp), K.In h ∧ (∀ (H : Hp) (a : Addr) (ns : List Int), ns.length ≤ n → SqL K H a (ns.map V.int) → sp [.ref a] H (fun v _ => v = .bl true) E0) ∧
        ∀ base : Heap, K.In base → base.Ns mainGlobals mg → FnG l.prog w K mg base k fa sp) :
    PySem.W.WalkO q loose XP YP l.row.toRowW d [] (fun f vs => PySem.call f vs) := by
  refine Att.attach_call hn hdf fun w s₀ s₁ mg mb fa o pm cd doc a vs ns G Y ho hd hcd hmg hobj hints hlen hg => ?_
  obtain ⟨K, sp, KX, hsp, hF⟩ := F w mg fa _ Y G.T.g hmg
  exact law_run KX G.T.g G.T.b G.T.builtins G.T.nolimit hg hobj hints (Nat.le_trans hlen hn2) hr hF fun H hS => hsp H a ns hlen hS
end
end Hv
/-! DA: values as trees (T), slots that own what they hold, worlds; what it means that an expression, a statement reads as a plain function on slots (Den ..). -/
namespace Dv
open PySem PySem.Spec PyProof.Rows L2 Hv
inductive T where
  | non | bl (b : Bool) | int (i : Int) | str (x : Str) | ty (n : String) | cls (c : Str)
  | tup (ts : List T) | lst (ts : List T) | scr (ts : List T) | wtu (ts : List T) | dic (kts : List (Key × T)) | rat (q : Rat) | ins (C : Str) (fs : List (Str × T)) | exc (c : Str) (v : T)
  deriving Inhabited
inductive Slot where
  | un | val (t : T) | own (t : T) | bor (t : T) | old (t : T) | nl (ts : List T)
  deriving Inhabited
/-- where lent slots stand; what was frozen when this region began -/
structure Bc where
  at_ : Nat → Option Addr
  old : Addr → Prop
abbrev Env := List Slot
/-- what comes of an expression; of a statement -/
inductive R (α : Type) where
  | ok (a : α) (ρ : Env) | ex (c : Str) (v : T) (ρ : Env) | bad
inductive RS where
  | nx (ρ : Env) | rt (s : Slot) (ρ : Env) | bk (ρ : Env) | ct (ρ : Env) | ex (c : Str) (v : T) (ρ : Env) | bad
abbrev M (α : Type) := Env → R α
abbrev S := Env → RS
def R.bind {α β : Type} (r : R α) (f : α → Env → R β) : R β := match r with
  | .ok a ρ => f a ρ
  | .ex c v ρ => .ex c v ρ
  | .bad => .bad
def M.bind {α β : Type} (m : M α) (f : α → M β) : M β := fun ρ => (m ρ).bind f
def M.pure {α : Type} (a : α) : M α := fun ρ => .ok a ρ
/-- an answer that may lack -/
def lift {α : Type} (o : Option α) : M α := fun ρ => match o with
  | some a => .ok a ρ
  | none => .bad
abbrev CRt (K : PySem.W.Frag) : Addr := He.ga K "Ratio"
/-- an exception of the class at C that is kept as a value, its dict at d -/
def exk (a C d : Addr) : HO := .ext fun h => ∃ (o : Obj) (vs : Array Value), h.get? a = some o ∧ o.cls = .ref C ∧ o.dict = some d ∧ o.data = .fields vs
section
variable (K : PySem.W.Frag) (F : Addr → Prop) (H : Hp)
mutual
inductive Rep : V → T → Prop
  | non : Rep .non .non
  | bl (b : Bool) : Rep (.bl b) (.bl b)
  | int (i : Int) : Rep (.int i) (.int i)
  | str (x : Str) : Rep (.str x) (.str x)
  | ty (n : String) : Rep (.ty n) (.ty n)
  | cls (c : Str) : Rep (.ref (He.ga K c)) (.cls c)
  | obj {a : Addr} {t : T} : F a → RepO a t → Rep (.ref a) t
  | wl {a : Addr} {vs : List V} {ts : List T} : (∀ H, SqL K H a vs) → Reps vs ts → Rep (.ref a) (.scr ts)
  | wt {a : Addr} {vs : List V} {ts : List T} : (∀ H, SqT K H a vs) → Reps vs ts → Rep (.ref a) (.wtu ts)
inductive RepO : Addr → T → Prop
  | tup {a : Addr} {vs : List V} {ts : List T} : H a = some (.tup vs) → Reps vs ts → RepO a (.tup ts)
  | lst {a : Addr} {vs : List V} {ts : List T} : H a = some (.lst vs) → Reps vs ts → RepO a (.lst ts)
  | scr {a : Addr} {vs : List V} {ts : List T} : Rd H a (.lst vs) → Reps vs ts → RepO a (.scr ts)
  | dic {a : Addr} {ob : Obj} {kvs : List (Key × V)} {kts : List (Key × T)} : H a = some (.frz ob (.dK kvs)) → kvs.map (·.1) = kts.map (·.1) → Reps (kvs.map (·.2)) (kts.map (·.2)) → RepO a (.dic kts)
  | rat {a dx : Addr} {q : Rat} : H a = some (SlX.SlO a (CRt K) dx [some (.int q.num), some (.int q.den)]) → F dx → H dx = some (.xd []) → RepO a (.rat q)
  | ins {a dx : Addr} {C : Str} {fvs : List (Str × V)} {fts : List (Str × T)} : H a = some (.ins (He.ga K C) dx fvs) → fvs.map (·.1) = fts.map (·.1) → Reps (fvs.map (·.2)) (fts.map (·.2)) → RepO a (.ins C fts)
  | exc {a d : Addr} {c : Str} {v : V} {u : T} : H a = some (exk a (He.ga K c) d) → F d → H d = some (.xd [("value", v)]) → Rep v u → RepO a (.exc c u)
inductive Reps : List V → List T → Prop
  | nil : Reps [] []
  | cons {v : V} {t : T} {vs : List V} {ts : List T} : Rep v t → Reps vs ts → Reps (v :: vs) (t :: ts)
end
/-- what a slot that owns holds -/
inductive OwnO : Addr → T → Prop
  | lst {a : Addr} {vs : List V} {ts : List T} : H a = some (.lst vs) → Reps K F H vs ts → OwnO a (.lst ts)
  | dic {a : Addr} {kvs : List (Key × V)} {kts : List (Key × T)} : H a = some (.dK kvs) → kvs.map (·.1) = kts.map (·.1) → Reps K F H (kvs.map (·.2)) (kts.map (·.2)) → OwnO a (.dic kts)
  | ins {a dx : Addr} {C : Str} {fvs : List (Str × V)} {fts : List (Str × T)} : H a = some (.ins (He.ga K C) dx fvs) → fvs.map (·.1) = fts.map (·.1) → Reps K F H (fvs.map (·.2)) (fts.map (·.2)) → OwnO a (.ins C fts)
end
section
variable {K : PySem.W.Frag} {F F' : Addr → Prop} {H H' : Hp} {a : Addr} {t : T} {vs : List V} {ts : List T} {v : V}
theorem Rd.mono {u : HO} (h : Rd H a u) (k : ∀ o, H a = some o → H' a = some o) : Rd H' a u := h.elim (fun h => .inl (k _ h)) fun ⟨o, h⟩ => .inr ⟨o, k _ h⟩
mutual
theorem Rep.mono (hF : ∀ a, F a → F' a) (hH : ∀ a o, F a → H a = some o → H' a = some o) : ∀ {v : V} {t : T}, Rep K F H v t → Rep K F' H' v t
  | _, _, .non => .non
  | _, _, .bl b => .bl b
  | _, _, .int i => .int i
  | _, _, .str x => .str x
  | _, _, .ty n => .ty n
  | _, _, .cls c => .cls c
  | _, _, .obj f o => .obj (hF _ f) (RepO.mono hF hH f o)
  | _, _, .wl h r => .wl h (Reps.mono hF hH r)
  | _, _, .wt h r => .wt h (Reps.mono hF hH r)
theorem RepO.mono (hF : ∀ a, F a → F' a) (hH : ∀ a o, F a → H a = some o → H' a = some o) : ∀ {a : Addr} {t : T}, F a → RepO K F H a t → RepO K F' H' a t
  | _, _, f, .tup h r => .tup (hH _ _ f h) (Reps.mono hF hH r)
  | _, _, f, .lst h r => .lst (hH _ _ f h) (Reps.mono hF hH r)
  | _, _, f, .scr h r => .scr (Rd.mono h (hH _ · f)) (Reps.mono hF hH r)
  | _, _, f, .dic h l r => .dic (hH _ _ f h) l (Reps.mono hF hH r)
  | _, _, f, .rat h f2 h2 => .rat (hH _ _ f h) (hF _ f2) (hH _ _ f2 h2)
  | _, _, f, .ins h l r => .ins (hH _ _ f h) l (Reps.mono hF hH r)
  | _, _, f, .exc h f2 h2 r => .exc (hH _ _ f h) (hF _ f2) (hH _ _ f2 h2) (Rep.mono hF hH r)
theorem Reps.mono (hF : ∀ a, F a → F' a) (hH : ∀ a o, F a → H a = some o → H' a = some o) : ∀ {vs : List V} {ts : List T}, Reps K F H vs ts → Reps K F' H' vs ts
  | _, _, .nil => .nil
  | _, _, .cons r s => .cons (Rep.mono hF hH r) (Reps.mono hF hH s)
end
theorem RepO.mono' (hF : ∀ a, F a → F' a) (h : RepO K F H a t) : RepO K F' H a t := by
  cases h with
  | tup h r => exact .tup h (r.mono hF fun _ _ _ e => e)
  | lst h r => exact .lst h (r.mono hF fun _ _ _ e => e)
  | scr h r => exact .scr h (r.mono hF fun _ _ _ e => e)
  | dic h l r => exact .dic h l (r.mono hF fun _ _ _ e => e)
  | rat h f2 h2 => exact .rat h (hF _ f2) h2
  | ins h l r => exact .ins h l (r.mono hF fun _ _ _ e => e)
  | exc h f2 h2 r => exact .exc h (hF _ f2) h2 (r.mono hF fun _ _ _ e => e)
theorem Reps.len : ∀ {vs : List V} {ts : List T}, Reps K F H vs ts → vs.length = ts.length
  | _, _, .nil => rfl
  | _, _, .cons _ s => by rw [List.length_cons, List.length_cons, Reps.len s]
theorem Reps.get : ∀ {vs : List V} {ts : List T} {i : Nat} {t : T}, Reps K F H vs ts → ts[i]? = some t → ∃ v, vs[i]? = some v ∧ Rep K F H v t
  | _, _, _, _, .nil, e => by simp at e
  | _, _, 0, _, .cons r _, e => by simp at e; subst e; exact ⟨_, rfl, r⟩
  | _, _, i + 1, t, .cons _ s, e => by
    obtain ⟨u, h1, h2⟩ := Reps.get (i := i) (t := t) s (by simpa using e)
    exact ⟨u, by simpa using h1, h2⟩
theorem Reps.getV : ∀ {vs : List V} {ts : List T} {i : Nat} {v : V}, Reps K F H vs ts → vs[i]? = some v → ∃ t, ts[i]? = some t ∧ Rep K F H v t
  | _, _, _, _, .nil, e => by simp at e
  | _, _, 0, _, .cons r _, e => by simp at e; subst e; exact ⟨_, rfl, r⟩
  | _, _, i + 1, t, .cons _ s, e => by
    obtain ⟨u, h1, h2⟩ := Reps.getV (i := i) (v := t) s (by simpa using e)
    exact ⟨u, by simpa using h1, h2⟩
theorem Reps.app : ∀ {vs ws : List V} {ts us : List T}, Reps K F H vs ts → Reps K F H ws us → Reps K F H (vs ++ ws) (ts ++ us)
  | _, _, _, _, .nil, s => s
  | _, _, _, _, .cons r t, s => .cons r (Reps.app t s)
theorem Reps.take : ∀ {vs : List V} {ts : List T} (n : Nat), Reps K F H vs ts → Reps K F H (vs.take n) (ts.take n)
  | _, _, 0, _ => .nil
  | _, _, _ + 1, .nil => .nil
  | _, _, n + 1, .cons r t => .cons r (Reps.take n t)
theorem Reps.drop : ∀ {vs : List V} {ts : List T} (n : Nat), Reps K F H vs ts → Reps K F H (vs.drop n) (ts.drop n)
  | _, _, 0, r => r
  | _, _, _ + 1, .nil => .nil
  | _, _, n + 1, .cons _ t => Reps.drop n t
theorem Reps.set : ∀ {vs : List V} {ts : List T} (i : Nat) {v : V} {t : T}, Rep K F H v t → Reps K F H vs ts → Reps K F H (vs.set i v) (ts.set i t)
  | _, _, _, _, _, _, .nil => .nil
  | _, _, 0, _, _, r, .cons _ s => .cons r s
  | _, _, i + 1, _, _, r, .cons q s => .cons q (Reps.set i r s)
theorem Reps.rev {vs : List V} {ts : List T} (h : Reps K F H vs ts) : Reps K F H vs.reverse ts.reverse := by
  induction vs generalizing ts with
  | nil => cases h; exact .nil
  | cons v vs ih =>
    cases h with
    | cons r s =>
      rw [List.reverse_cons, List.reverse_cons]
      exact (ih s).app (.cons r .nil)
theorem OwnO.mono (hF : ∀ a, F a → F' a) (hH : ∀ a o, F a → H a = some o → H' a = some o) (e : ∀ o, H a = some o → H' a = some o) (h : OwnO K F H a t) : OwnO K F' H' a t := by
  cases h with
  | lst h r => exact .lst (e _ h) (r.mono hF hH)
  | dic h l r => exact .dic (e _ h) l (r.mono hF hH)
  | ins h l r => exact .ins (e _ h) l (r.mono hF hH)
/-- dicts that are frozen are locked -/
def lockO (ob : Obj) : HO → HO
  | .dK kvs => .frz ob (.dK kvs)
  | u => u
theorem OwnO.lock (ob : Obj) (nf : ¬ F a) (h : OwnO K F H a t) : ∃ u, H a = some u ∧ RepO K F (upd H a (lockO ob u)) a t := by
  have hH : ∀ o b u, F b → H b = some u → upd H a o b = some u := fun o b u f e => by
    rw [upd_ne (fun z => by subst z; exact nf f)]
    exact e
  cases h with
  | lst h r => exact ⟨_, h, .lst upd_same (r.mono (fun _ f => f) (hH _))⟩
  | dic h l r => exact ⟨_, h, .dic upd_same l (r.mono (fun _ f => f) (hH _))⟩
  | ins h l r => exact ⟨_, h, .ins upd_same l (r.mono (fun _ f => f) (hH _))⟩
theorem OwnO.notImm {o : HO} (h : OwnO K F H a t) (e : H a = some o) (im : (∃ vs, o = .tup vs) ∨ (∃ a C dx vs, o = SlX.SlO a C dx vs) ∨ ∃ fs, o = .xd fs) : False := by
  have : (∃ vs, o = .lst vs) ∨ (∃ kvs, o = .dK kvs) ∨ ∃ C dx fs, o = .ins C dx fs := by
    cases h with
    | lst h r => rw [e] at h; exact .inl ⟨_, Option.some.inj h⟩
    | dic h l r => rw [e] at h; exact .inr (.inl ⟨_, Option.some.inj h⟩)
    | ins h l r => rw [e] at h; exact .inr (.inr ⟨_, _, _, Option.some.inj h⟩)
  rcases this with ⟨_, rfl⟩ | ⟨_, rfl⟩ | ⟨_, _, _, rfl⟩ <;> rcases im with ⟨_, im⟩ | ⟨_, _, _, _, im⟩ | ⟨_, im⟩ <;> cases im
theorem OwnO.there (h : OwnO K F H a t) : ∃ o, H a = some o := by
  cases h with
  | lst h r => exact ⟨_, h⟩
  | dic h l r => exact ⟨_, h⟩
  | ins h l r => exact ⟨_, h⟩
end
/-! ### states -/
structure Sx where
  F : Addr → Prop
  H : Hp
  σ : L2.St
  ρ : Env
def SlotOk (K : PySem.W.Frag) (β : Bc) (F : Addr → Prop) (H : Hp) (j : Nat) (o : Option V) : Slot → Prop
  | .un => True
  | .val t => ∃ v, o = some v ∧ Rep K F H v t
  | .own t => ∃ a, o = some (.ref a) ∧ ¬ F a ∧ OwnO K F H a t
  | .bor t => ∃ a, o = some (.ref a) ∧ β.at_ j = some a ∧ ¬ F a ∧ OwnO K F H a t
  | .old t => ∃ v, o = some v ∧ Rep K β.old H v t ∧ ∀ a, β.old a → F a
  | .nl ts => ∃ a vs, o = some (.ref a) ∧ F a ∧ H a = some (.lst vs) ∧ Reps K F H vs ts ∧ ∀ v ∈ vs, ∃ b, v = .ref b ∧ ¬ β.old b
def Owns (σ : L2.St) (ρ : Env) (i : Nat) (a : Addr) : Prop := σ[i]? = some (some (.ref a)) ∧ ∃ t, ρ[i]? = some (.own t) ∨ ρ[i]? = some (.bor t)
def Sx.ow (x : Sx) (a : Addr) : Prop := ∃ i, Owns x.σ x.ρ i a
structure St (K : PySem.W.Frag) (β : Bc) (x : Sx) : Prop where
  len : x.σ.length = x.ρ.length
  slot : ∀ (i : Nat) (o : Option V) (s : Slot), x.σ[i]? = some o → x.ρ[i]? = some s → SlotOk K β x.F x.H i o s
  apart : ∀ (i j : Nat) (a : Addr), Owns x.σ x.ρ i a → Owns x.σ x.ρ j a → i = j
  trk : ∀ a, x.F a → ∃ o, x.H a = some o
/-- what nobody owns: tuples, instances with slots, their dicts -/
def Imm (o : HO) : Prop := (∃ vs, o = .tup vs) ∨ (∃ a C dx vs, o = SlX.SlO a C dx vs) ∨ ∃ fs, o = .xd fs
structure Stp (x y : Sx) : Prop where
  ext : ∀ a, x.F a → y.F a
  keep : ∀ a o, x.H a = some o → ¬ x.ow a → y.H a = some o
  new : ∀ a, y.F a → x.F a ∨ x.ow a ∨ x.H a = none ∨ ∃ o, x.H a = some o ∧ Imm o
  wn : ∀ a, y.ow a → x.ow a ∨ x.H a = none
section
variable {K : PySem.W.Frag} {β : Bc} {x y z : Sx} {v : V} {t : T} {a p : Addr} {i j : Nat}
theorem St.noF (h : St K β x) (o : x.ow a) : ¬ x.F a ∧ ∃ t, OwnO K x.F x.H a t := by
  obtain ⟨i, e, t, q⟩ := o
  rcases q with q | q
  · obtain ⟨b, h1, h2, h3⟩ := h.slot i _ _ e q
    cases h1
    exact ⟨h2, t, h3⟩
  · obtain ⟨b, h1, _, h2, h3⟩ := h.slot i _ _ e q
    cases h1
    exact ⟨h2, t, h3⟩
theorem St.owNone (h : St K β x) (hp : x.H p = none) : ¬ x.ow p := fun o => by
  obtain ⟨_, _, q⟩ := h.noF o
  obtain ⟨_, e⟩ := q.there
  rw [hp] at e
  cases e
theorem St.fNone (h : St K β x) (hp : x.H p = none) : ¬ x.F p := fun o => by
  obtain ⟨_, e⟩ := h.trk p o
  rw [hp] at e
  cases e
theorem Stp.refl (x : Sx) : Stp x x := ⟨fun _ h => h, fun _ _ h _ => h, fun _ h => .inl h, fun _ h => .inl h⟩
theorem Stp.trans (a : Stp x y) (b : Stp y z) : Stp x z := by
  have back : ∀ c, y.H c = none → x.ow c ∨ x.H c = none := fun c e => by
    cases q : x.H c with
    | none => exact .inr rfl
    | some o =>
      by_cases w : x.ow c
      · exact .inl w
      · rw [a.keep c o q w] at e
        cases e
  refine ⟨fun c h => b.ext c (a.ext c h), fun c o h n => b.keep c o (a.keep c o h n) fun w => ?_, fun c h => ?_, fun c h => ?_⟩
  · rcases a.wn c w with w | w
    · exact n w
    · rw [w] at h
      cases h
  · rcases b.new c h with h | h | h | ⟨o, h, im⟩
    · exact a.new c h
    · exact .inr ((a.wn c h).imp_right .inl)
    · exact .inr ((back c h).imp_right .inl)
    · cases q : x.H c with
      | none => exact .inr (.inr (.inl rfl))
      | some o' =>
        by_cases w : x.ow c
        · exact .inr (.inl w)
        · have := a.keep c o' q w
          rw [h] at this
          cases this
          exact .inr (.inr (.inr ⟨_, rfl, im⟩))
  · rcases b.wn c h with h | h
    · exact a.wn c h
    · exact back c h
theorem Stp.fk (s : Stp x y) (h : St K β x) : ∀ a o, x.F a → x.H a = some o → y.H a = some o := fun a o f e => s.keep a o e fun w => (h.noF w).1 f
theorem Stp.rep (s : Stp x y) (h : St K β x) (r : Rep K x.F x.H v t) : Rep K y.F y.H v t := r.mono s.ext (s.fk h)
theorem Stp.reps (s : Stp x y) (h : St K β x) {vs : List V} {ts : List T} (r : Reps K x.F x.H vs ts) : Reps K y.F y.H vs ts := r.mono s.ext (s.fk h)
/-- a step -/
def Nx (K : PySem.W.Frag) (β : Bc) (x y : Sx) : Prop := St K β y ∧ Stp x y
theorem Nx.refl (h : St K β x) : Nx K β x x := ⟨h, .refl x⟩
theorem Nx.trans (a : Nx K β x y) (b : Nx K β y z) : Nx K β x z := ⟨b.1, a.2.trans b.2⟩
theorem set_get {α : Type} {l : List α} {i j : Nat} {b c : α} (h : (l.set i b)[j]? = some c) : (i = j ∧ c = b) ∨ (i ≠ j ∧ l[j]? = some c) := by
  by_cases e : i = j
  · subst e
    by_cases q : i < l.length
    · rw [List.getElem?_set_self q] at h
      exact .inl ⟨rfl, (Option.some.inj h).symm⟩
    · rw [List.getElem?_eq_none (by rw [List.length_set]; omega)] at h
      cases h
  · rw [List.getElem?_set_ne e] at h
    exact .inr ⟨e, h⟩
/-- the slot's meaning over a step that leaves its own object -/
theorem SlotOk.mono {F F' : Addr → Prop} {H H' : Hp} {o : Option V} {s : Slot} (hF : ∀ a, F a → F' a) (hH : ∀ a o, F a → H a = some o → H' a = some o)
    (own : ∀ a, o = some (.ref a) → (∃ t, s = .own t ∨ s = .bor t) → ¬ F a → ¬ F' a ∧ ∀ u, H a = some u → H' a = some u) (h : SlotOk K β F H j o s) : SlotOk K β F' H' j o s := by
  cases s with
  | un => trivial
  | val t => obtain ⟨v, e, r⟩ := h; exact ⟨v, e, r.mono hF hH⟩
  | own t =>
    obtain ⟨a, e, n, r⟩ := h
    obtain ⟨n', k⟩ := own a e ⟨t, .inl rfl⟩ n
    exact ⟨a, e, n', r.mono hF hH k⟩
  | bor t =>
    obtain ⟨a, e, b, n, r⟩ := h
    obtain ⟨n', k⟩ := own a e ⟨t, .inr rfl⟩ n
    exact ⟨a, e, b, n', r.mono hF hH k⟩
  | old t =>
    obtain ⟨v, e, r, sub⟩ := h
    exact ⟨v, e, r.mono (fun _ f => f) (fun a u f => hH a u (sub a f)), fun a f => hF a (sub a f)⟩
  | nl ts =>
    obtain ⟨a, vs, e, f, h, r, nw⟩ := h
    exact ⟨a, vs, e, hF a f, hH a _ f h, r.mono hF hH, nw⟩
/-- a new object, frozen from the start -/
def addF (F : Addr → Prop) (p : Addr) : Addr → Prop := fun a => F a ∨ a = p
theorem upd_k {H : Hp} {p a : Addr} {o u : HO} (hp : H p = none) (h : H a = some u) : upd H p o a = some u := upd_keep hp h
theorem Nx.laid {o : HO} (h : St K β x) (hp : x.H p = none) : Nx K β x ⟨addF x.F p, upd x.H p o, x.σ, x.ρ⟩ := by
  have hH : ∀ a u, x.H a = some u → upd x.H p o a = some u := fun a u e => upd_k hp e
  refine ⟨⟨h.len, fun i o s e1 e2 => ?_, h.apart, fun a f => ?_⟩, ⟨fun a f => .inl f, fun a u e _ => hH a u e, fun a f => ?_, fun a w => .inl w⟩⟩
  · refine (h.slot i o s e1 e2).mono (fun a f => .inl f) (fun a u _ e => hH a u e) fun a e q n => ⟨fun f => ?_, hH a⟩
    rcases f with f | f
    · exact n f
    · subst f
      subst e
      obtain ⟨t, q⟩ := q
      exact h.owNone hp ⟨i, e1, t, q.elim (fun q => .inl (q ▸ e2)) fun q => .inr (q ▸ e2)⟩
  · rcases f with f | f
    · obtain ⟨u, e⟩ := h.trk a f
      exact ⟨u, hH a u e⟩
    · subst f
      exact ⟨o, upd_same⟩
  · rcases f with f | f
    · exact .inl f
    · subst f
      exact .inr (.inr (.inl hp))
/-- a new object that nothing holds as yet -/
theorem Nx.laidO {o : HO} (h : St K β x) (hp : x.H p = none) : Nx K β x ⟨x.F, upd x.H p o, x.σ, x.ρ⟩ := by
  have hH : ∀ a u, x.H a = some u → upd x.H p o a = some u := fun a u e => upd_k hp e
  refine ⟨⟨h.len, fun i o s e1 e2 => ?_, h.apart, fun a f => ?_⟩, ⟨fun a f => f, fun a u e _ => hH a u e, fun a f => .inl f, fun a w => .inl w⟩⟩
  · exact (h.slot i o s e1 e2).mono (fun a f => f) (fun a u _ e => hH a u e) fun a e q n => ⟨n, hH a⟩
  · obtain ⟨u, e⟩ := h.trk a f
    exact ⟨u, hH a u e⟩
/-- a slot is set to a frozen value -/
theorem Nx.setV (h : St K β x) (r : Rep K x.F x.H v t) : Nx K β x ⟨x.F, x.H, x.σ.set j (some v), x.ρ.set j (.val t)⟩ := by
  have own : ∀ i a, Owns (x.σ.set j (some v)) (x.ρ.set j (.val t)) i a → Owns x.σ x.ρ i a ∧ i ≠ j := fun i a ⟨e1, u, e2⟩ => by
    have ne : j ≠ i := fun e => by
      subst e
      rcases e2 with e2 | e2 <;> rcases set_get e2 with ⟨_, q⟩ | ⟨q, _⟩ <;> first | exact nomatch q | exact q rfl
    rw [List.getElem?_set_ne ne] at e1
    rw [List.getElem?_set_ne ne] at e2
    exact ⟨⟨e1, u, e2⟩, ne.symm⟩
  refine ⟨⟨by simp [h.len], fun i o s e1 e2 => ?_, fun i k a p q => h.apart i k a (own i a p).1 (own k a q).1, h.trk⟩, ⟨fun _ f => f, fun _ _ e _ => e, fun _ f => .inl f, fun a ⟨i, w⟩ => .inl ⟨i, (own i a w).1⟩⟩⟩
  rcases set_get e1 with ⟨q, e⟩ | ⟨q, e⟩
  · subst q e
    rcases set_get e2 with ⟨_, e⟩ | ⟨q, _⟩
    · subst e
      exact ⟨v, rfl, r⟩
    · exact absurd rfl q
  · rw [List.getElem?_set_ne q] at e2
    exact h.slot i o s e e2
/-- a slot takes what nothing holds as yet -/
theorem Nx.setO (h : St K β x) (hF : ¬ x.F a) (r : OwnO K x.F x.H a t) (hw : ¬ x.ow a) : St K β ⟨x.F, x.H, x.σ.set j (some (.ref a)), x.ρ.set j (.own t)⟩ ∧ ∀ b, (Sx.mk x.F x.H (x.σ.set j (some (.ref a))) (x.ρ.set j (.own t))).ow b → x.ow b ∨ b = a := by
  have own : ∀ i b, Owns (x.σ.set j (some (.ref a))) (x.ρ.set j (.own t)) i b → (Owns x.σ x.ρ i b ∧ i ≠ j) ∨ (i = j ∧ b = a) := fun i b ⟨e1, u, e2⟩ => by
    rcases set_get e1 with ⟨q, e⟩ | ⟨q, e⟩
    · cases e
      exact .inr ⟨q.symm, rfl⟩
    · rw [List.getElem?_set_ne q] at e2
      exact .inl ⟨⟨e, u, e2⟩, q.symm⟩
  refine ⟨⟨by simp [h.len], fun i o s e1 e2 => ?_, fun i k b p q => ?_, h.trk⟩, fun b ⟨i, w⟩ => (own i b w).elim (fun w => .inl ⟨i, w.1⟩) fun w => .inr w.2⟩
  · rcases set_get e1 with ⟨q, e⟩ | ⟨q, e⟩
    · subst q e
      rcases set_get e2 with ⟨_, e⟩ | ⟨q, _⟩
      · subst e
        exact ⟨a, rfl, hF, r⟩
      · exact absurd rfl q
    · rw [List.getElem?_set_ne q] at e2
      exact h.slot i o s e e2
  · rcases own i b p with ⟨p', _⟩ | ⟨p', e⟩ <;> rcases own k b q with ⟨q', _⟩ | ⟨q', e'⟩
    · exact h.apart i k b p' q'
    · subst e'; exact absurd ⟨i, p'⟩ hw
    · subst e; exact absurd ⟨k, q'⟩ hw
    · rw [p', q']
/-- a slot's own object is frozen -/
theorem Nx.freeze {u : HO} {ob : Obj} (h : St K β x) (e1 : x.σ[j]? = some (some (.ref a))) (e2 : x.ρ[j]? = some (.own t)) (eu : x.H a = some u) :
    Nx K β x ⟨addF x.F a, upd x.H a (lockO ob u), x.σ, x.ρ.set j (.val t)⟩ ∧ Rep K (addF x.F a) (upd x.H a (lockO ob u)) (.ref a) t := by
  obtain ⟨b, q1, q2, q3⟩ := h.slot j _ _ e1 e2
  cases q1
  have hH : ∀ b v, b ≠ a → x.H b = some v → upd x.H a (lockO ob u) b = some v := fun b v n e => by rw [upd_ne n]; exact e
  have hHF : ∀ b v, x.F b → x.H b = some v → upd x.H a (lockO ob u) b = some v := fun b v f e => hH b v (fun z => q2 (z ▸ f)) e
  have rp : Rep K (addF x.F a) (upd x.H a (lockO ob u)) (.ref a) t := by
    obtain ⟨u', eu', r⟩ := q3.lock ob q2
    rw [eu] at eu'
    cases eu'
    exact .obj (.inr rfl) (r.mono' (fun _ f => .inl f))
  have me : Owns x.σ x.ρ j a := ⟨e1, t, .inl e2⟩
  have own : ∀ i b, Owns x.σ (x.ρ.set j (.val t)) i b → Owns x.σ x.ρ i b ∧ i ≠ j := fun i b ⟨e1, u, e2⟩ => by
    have ne : j ≠ i := fun e => by
      subst e
      rcases e2 with e2 | e2 <;> rcases set_get e2 with ⟨_, q⟩ | ⟨q, _⟩ <;> first | exact nomatch q | exact q rfl
    rw [List.getElem?_set_ne ne] at e2
    exact ⟨⟨e1, u, e2⟩, ne.symm⟩
  refine ⟨⟨⟨by simp [h.len], fun i o s f1 f2 => ?_, fun i k b p q => h.apart i k b (own i b p).1 (own k b q).1, fun b f => ?_⟩, ⟨fun _ f => .inl f, fun b v e n => hH b v (fun z => n ⟨j, z ▸ me⟩) e, fun b f => ?_, fun b ⟨i, w⟩ => .inl ⟨i, (own i b w).1⟩⟩⟩, rp⟩
  · rcases set_get f2 with ⟨q, e⟩ | ⟨q, e⟩
    · subst q e
      have : o = some (.ref a) := Option.some.inj (f1.symm.trans e1)
      subst this
      exact ⟨_, rfl, rp⟩
    · have na : ∀ c, o = some (.ref c) → (∃ t, s = .own t ∨ s = .bor t) → c ≠ a := fun c ec ⟨u, qs⟩ z => by
        subst z ec
        exact q (h.apart j i _ me ⟨f1, u, qs.elim (fun z => .inl (z ▸ e)) fun z => .inr (z ▸ e)⟩)
      refine (h.slot i o s f1 e).mono (fun _ f => .inl f) hHF fun c ec qs n => ⟨fun f => ?_, fun v => hH c v (na c ec qs)⟩
      rcases f with f | f
      · exact n f
      · exact na c ec qs f
  · rcases f with f | f
    · obtain ⟨v, e⟩ := h.trk b f
      exact ⟨v, hHF b v f e⟩
    · subst f
      exact ⟨_, upd_same⟩
  · rcases f with f | f
    · exact .inl f
    · subst f
      exact .inr (.inl ⟨j, me⟩)
/-- a slot is forgotten, whatever it is set to -/
theorem Nx.setU {o : Option V} (h : St K β x) : Nx K β x ⟨x.F, x.H, x.σ.set j o, x.ρ.set j .un⟩ := by
  have own : ∀ i a, Owns (x.σ.set j o) (x.ρ.set j .un) i a → Owns x.σ x.ρ i a ∧ i ≠ j := fun i a ⟨e1, u, e2⟩ => by
    have ne : j ≠ i := fun e => by
      subst e
      rcases e2 with e2 | e2 <;> rcases set_get e2 with ⟨_, q⟩ | ⟨q, _⟩ <;> first | exact nomatch q | exact q rfl
    rw [List.getElem?_set_ne ne] at e1
    rw [List.getElem?_set_ne ne] at e2
    exact ⟨⟨e1, u, e2⟩, ne.symm⟩
  refine ⟨⟨by simp [h.len], fun i o s e1 e2 => ?_, fun i k a p q => h.apart i k a (own i a p).1 (own k a q).1, h.trk⟩, ⟨fun _ f => f, fun _ _ e _ => e, fun _ f => .inl f, fun a ⟨i, w⟩ => .inl ⟨i, (own i a w).1⟩⟩⟩
  rcases set_get e1 with ⟨q, e⟩ | ⟨q, e⟩
  · subst q e
    rcases set_get e2 with ⟨_, e⟩ | ⟨q, _⟩
    · subst e
      trivial
    · exact absurd rfl q
  · rw [List.getElem?_set_ne q] at e2
    exact h.slot i o s e e2
/-- more is frozen of what nobody owns; the heap grows -/
theorem Nx.same {F' : Addr → Prop} {H' : Hp} (h : St K β x) (e : ∀ a o, x.H a = some o → H' a = some o) (hF : ∀ a, F' a → x.F a ∨ (∃ o, H' a = some o ∧ Imm o)) (hx : ∀ a, x.F a → F' a) : Nx K β x ⟨F', H', x.σ, x.ρ⟩ := by
  refine ⟨⟨h.len, fun i o s e1 e2 => ?_, h.apart, fun a f => ?_⟩, ⟨hx, fun a u q _ => e a u q, fun a f => ?_, fun a w => .inl w⟩⟩
  · refine (h.slot i o s e1 e2).mono hx (fun a u _ q => e a u q) fun a ea qs n => ⟨fun f => ?_, e a⟩
    rcases hF a f with f | ⟨u, f, im⟩
    · exact n f
    · obtain ⟨t, qs⟩ := qs
      subst ea
      obtain ⟨_, t', q⟩ := h.noF ⟨i, e1, t, qs.elim (fun z => .inl (z ▸ e2)) fun z => .inr (z ▸ e2)⟩
      obtain ⟨u', hu⟩ := q.there
      have := e a u' hu
      rw [f] at this
      cases this
      exact q.notImm hu im
  · rcases hF a f with f | ⟨u, f, im⟩
    · obtain ⟨u, q⟩ := h.trk a f
      exact ⟨u, e a u q⟩
    · exact ⟨u, f⟩
  · rcases hF a f with f | ⟨u, f, im⟩
    · exact .inl f
    · cases q : x.H a with
      | none => exact .inr (.inr (.inl rfl))
      | some o' =>
        have := e a o' q
        rw [f] at this
        cases this
        exact .inr (.inr (.inr ⟨_, rfl, im⟩))
/-- a slot's status with another content of its own object -/
def Slot.with : Slot → T → Slot
  | .own _, t => .own t
  | .bor _, t => .bor t
  | s, _ => s
def Slot.isOwn : Slot → Option T
  | .own t => some t
  | .bor t => some t
  | _ => none
/-- what a slot owns changes -/
theorem Nx.mut {o : HO} {s : Slot} {t' : T} (h : St K β x) (e1 : x.σ[j]? = some (some (.ref a))) (e2 : x.ρ[j]? = some s) (hs : s.isOwn = some t)
    (n : OwnO K x.F (upd x.H a o) a t') : Nx K β x ⟨x.F, upd x.H a o, x.σ, x.ρ.set j (s.with t')⟩ := by
  have me : Owns x.σ x.ρ j a := ⟨e1, t, by cases s <;> simp [Slot.isOwn] at hs <;> subst hs <;> simp [e2]⟩
  have hF : ¬ x.F a := (h.noF ⟨j, me⟩).1
  have hH : ∀ b u, b ≠ a → x.H b = some u → upd x.H a o b = some u := fun b u nb e => by rw [upd_ne nb]; exact e
  have hHF : ∀ b u, x.F b → x.H b = some u → upd x.H a o b = some u := fun b u f e => hH b u (fun z => hF (z ▸ f)) e
  have own : ∀ i b, Owns x.σ (x.ρ.set j (s.with t')) i b → Owns x.σ x.ρ i b := fun i b ⟨f1, u, f2⟩ => by
    by_cases q : j = i
    · subst q
      rw [e1] at f1
      cases f1
      exact me
    · rw [List.getElem?_set_ne q] at f2
      exact ⟨f1, u, f2⟩
  refine ⟨⟨by simp [h.len], fun i o' s' f1 f2 => ?_, fun i k b p q => h.apart i k b (own i b p) (own k b q), fun b f => ?_⟩, ⟨fun _ f => f, fun b u e w => hH b u (fun z => w ⟨j, z ▸ me⟩) e, fun b f => .inl f, fun b ⟨i, w⟩ => .inl ⟨i, own i b w⟩⟩⟩
  · rcases set_get f2 with ⟨q, e⟩ | ⟨q, e⟩
    · subst q e
      have : o' = some (.ref a) := Option.some.inj (f1.symm.trans e1)
      subst this
      have old := h.slot j _ _ e1 e2
      cases s with
      | un => simp [Slot.isOwn] at hs
      | val _ => simp [Slot.isOwn] at hs
      | old _ => simp [Slot.isOwn] at hs
      | nl _ => simp [Slot.isOwn] at hs
      | own _ => exact ⟨a, rfl, hF, n⟩
      | bor _ =>
        obtain ⟨b, q1, q2, _⟩ := old
        cases q1
        exact ⟨a, rfl, q2, hF, n⟩
    · refine (h.slot i o' s' f1 e).mono (fun _ f => f) hHF fun c ec qs nc => ⟨nc, fun u eu => hH c u (fun z => ?_) eu⟩
      subst z ec
      obtain ⟨u, qs⟩ := qs
      exact q (h.apart j i _ me ⟨f1, u, qs.elim (fun z => .inl (z ▸ e)) fun z => .inr (z ▸ e)⟩)
  · obtain ⟨u, e⟩ := h.trk b f
    exact ⟨u, hHF b u f e⟩
end
end Dv
/-! DB: readings as plain functions (Den, DenF, DenT, DenA, DenS, DenB) and their rules: expressions, tests, statements. -/
namespace Dv
open PySem PySem.Spec PyProof.Rows L2 Hv
/-- an error of the class c, made with u -/
def ExR (K : PySem.W.Frag) (F : Addr → Prop) (H : Hp) (cls : Value) (d : Option Addr) (c : Str) (u : T) : Prop :=
  ∃ a v, cls = Value.ref (He.ga K c) ∧ d = some a ∧ F a ∧ H a = some (.xd [("value", v)]) ∧ Rep K F H v u
/-- what a result slot means -/
def SlR (K : PySem.W.Frag) (x y : Sx) (v : V) : Slot → Prop
  | .val t => Rep K y.F y.H v t
  | .own t => ∃ a, v = .ref a ∧ ¬ y.F a ∧ OwnO K y.F y.H a t ∧ ¬ y.ow a ∧ (x.ow a ∨ x.H a = none)
  | _ => False
section
variable (K : PySem.W.Frag) (β : Bc) (W : WX)
def GoX (x : Sx) (σ : L2.St) (c : Str) (u : T) (ρ' : Env) : Prop := ∀ F' H' cls d, Nx K β x ⟨F', H', σ, ρ'⟩ → ExR K F' H' cls d c u → W cls d σ H'
def GoE (x : Sx) (r : R T) (Q : VK) : Prop := match r with
  | .ok t ρ' => ∀ F' H' v, Nx K β x ⟨F', H', x.σ, ρ'⟩ → Rep K F' H' v t → Q v H'
  | .ex c u ρ' => GoX K β W x x.σ c u ρ'
  | .bad => False
def GoF (x : Sx) (r : R Slot) (Q : VK) : Prop := match r with
  | .ok s ρ' => ∀ F' H' v, Nx K β x ⟨F', H', x.σ, ρ'⟩ → SlR K x ⟨F', H', x.σ, ρ'⟩ v s → Q v H'
  | .ex c u ρ' => GoX K β W x x.σ c u ρ'
  | .bad => False
def GoT (x : Sx) (r : R Bool) (Q : Bool → Hp → Prop) : Prop := match r with
  | .ok b ρ' => ∀ F' H', Nx K β x ⟨F', H', x.σ, ρ'⟩ → Q b H'
  | .ex c u ρ' => GoX K β W x x.σ c u ρ'
  | .bad => False
def GoA (x : Sx) (r : R (List T)) (Q : List V → Hp → Prop) : Prop := match r with
  | .ok ts ρ' => ∀ F' H' vs, Nx K β x ⟨F', H', x.σ, ρ'⟩ → Reps K F' H' vs ts → Q vs H'
  | .ex c u ρ' => GoX K β W x x.σ c u ρ'
  | .bad => False
def GoS (x : Sx) (D : Ends) (r : RS) : Prop := match r with
  | .nx ρ' => ∀ F' H' σ', Nx K β x ⟨F', H', σ', ρ'⟩ → D.nx σ' H'
  | .rt s ρ' => ∀ F' H' σ' v, Nx K β x ⟨F', H', σ', ρ'⟩ → SlR K x ⟨F', H', σ', ρ'⟩ v s → D.rt v H'
  | .bk ρ' => ∀ F' H' σ', Nx K β x ⟨F', H', σ', ρ'⟩ → D.bk σ' H'
  | .ct ρ' => ∀ F' H' σ', Nx K β x ⟨F', H', σ', ρ'⟩ → D.ct σ' H'
  | .ex c u ρ' => ∀ F' H' σ' cls d, Nx K β x ⟨F', H', σ', ρ'⟩ → ExR K F' H' cls d c u → W cls d σ' H'
  | .bad => False
end
def Den (X : Cx) (W : WX) (e : Expr) (m : M T) : Prop := ∀ β x Q, St X.K β x → GoE X.K β W x (m x.ρ) Q → EV X e x.σ x.H Q
def DenF (X : Cx) (W : WX) (e : Expr) (m : M Slot) : Prop := ∀ β x Q, St X.K β x → GoF X.K β W x (m x.ρ) Q → EV X e x.σ x.H Q
def DenT (X : Cx) (W : WX) (e : Expr) (m : M Bool) : Prop := ∀ β x Q, St X.K β x → GoT X.K β W x (m x.ρ) Q → TV X e x.σ x.H Q
def DenA (X : Cx) (W : WX) (es : List Expr) (m : M (List T)) : Prop := ∀ β x Q, St X.K β x → GoA X.K β W x (m x.ρ) Q → AV X es x.σ x.H Q
def DenS (X : Cx) (W : WX) (st : Stmt) (m : S) : Prop := ∀ β x D, St X.K β x → GoS X.K β W x D (m x.ρ) → SV X st D x.σ x.H
def DenB (X : Cx) (W : WX) (sts : List Stmt) (m : S) : Prop := ∀ β x D, St X.K β x → GoS X.K β W x D (m x.ρ) → BV X sts D x.σ x.H
section
variable {X : Cx} {W : WX} {K : PySem.W.Frag} {β : Bc} {x y : Sx} {e a b c : Expr} {es : List Expr} {Q : VK} {pos p : Pos}
theorem wv_mono {e : Expr} {σ : L2.St} {H : Hp} {Q Q' : Bool → Hp → Prop} (h : WV X e σ H Q) (im : ∀ v H', Q v H' → Q' v H') : WV X e σ H Q' :=
  ⟨fun σ H Q' => ∃ Q, WV X e σ H Q ∧ ∀ v H', Q v H' → Q' v H', ⟨fun whole pins s σ H Q' I ⟨Q, h, im⟩ => thn (pw_wv.run whole pins s σ H Q I h) fun u s' ⟨H', I', q⟩ => ⟨H', I', im _ _ q⟩⟩, Q, h, im⟩
theorem sv_mono {st : Stmt} {D D' : Ends} {σ : L2.St} {H : Hp} (h : SV X st D σ H) (h1 : ∀ σ H, D.nx σ H → D'.nx σ H) (h2 : ∀ v H, D.rt v H → D'.rt v H) (h3 : ∀ σ H, D.bk σ H → D'.bk σ H) (h4 : ∀ σ H, D.ct σ H → D'.ct σ H) : SV X st D' σ H := by
  refine ⟨fun D' σ H => ∃ D : Ends, SV X st D σ H ∧ (∀ σ H, D.nx σ H → D'.nx σ H) ∧ (∀ v H, D.rt v H → D'.rt v H) ∧ (∀ σ H, D.bk σ H → D'.bk σ H) ∧ (∀ σ H, D.ct σ H → D'.ct σ H), ⟨fun pins s σ H D' I ⟨D, h, h1, h2, h3, h4⟩ => ?_⟩, D, h, h1, h2, h3, h4⟩
  refine thn (ps_sv.run pins s σ H D I h) fun f s1 z => ?_
  cases f with
  | next => exact let ⟨σ', H', I', q⟩ := z; ⟨σ', H', I', h1 _ _ q⟩
  | brk => exact let ⟨σ', H', I', q⟩ := z; ⟨σ', H', I', h3 _ _ q⟩
  | cont => exact let ⟨σ', H', I', q⟩ := z; ⟨σ', H', I', h4 _ _ q⟩
  | ret u => exact let ⟨v, σ', H', I', r, q⟩ := z; ⟨v, σ', H', I', r, h2 _ _ q⟩
theorem bv_mono {sts : List Stmt} {D D' : Ends} {σ : L2.St} {H : Hp} (h : BV X sts D σ H) (h1 : ∀ σ H, D.nx σ H → D'.nx σ H) (h2 : ∀ v H, D.rt v H → D'.rt v H) (h3 : ∀ σ H, D.bk σ H → D'.bk σ H) (h4 : ∀ σ H, D.ct σ H → D'.ct σ H) : BV X sts D' σ H := by
  refine ⟨fun D' σ H => ∃ D : Ends, BV X sts D σ H ∧ (∀ σ H, D.nx σ H → D'.nx σ H) ∧ (∀ v H, D.rt v H → D'.rt v H) ∧ (∀ σ H, D.bk σ H → D'.bk σ H) ∧ (∀ σ H, D.ct σ H → D'.ct σ H), ⟨fun pins s σ H D' I ⟨D, h, h1, h2, h3, h4⟩ => ?_⟩, D, h, h1, h2, h3, h4⟩
  refine thn (pss_bv.run pins s σ H D I h) fun f s1 z => ?_
  cases f with
  | next => exact let ⟨σ', H', I', q⟩ := z; ⟨σ', H', I', h1 _ _ q⟩
  | brk => exact let ⟨σ', H', I', q⟩ := z; ⟨σ', H', I', h3 _ _ q⟩
  | cont => exact let ⟨σ', H', I', q⟩ := z; ⟨σ', H', I', h4 _ _ q⟩
  | ret u => exact let ⟨v, σ', H', I', r, q⟩ := z; ⟨v, σ', H', I', r, h2 _ _ q⟩
/-! ### goals move along steps -/
theorem SlR.back {z : Sx} {v : V} {s : Slot} (n : Nx K β x y) (h : SlR K y z v s) : SlR K x z v s := by
  cases s with
  | un => exact h
  | val t => exact h
  | bor t => exact h
  | old t => exact h
  | nl t => exact h
  | own t =>
    obtain ⟨a, h1, h2, h3, h4, h5⟩ := h
    refine ⟨a, h1, h2, h3, h4, ?_⟩
    rcases h5 with h5 | h5
    · exact n.2.wn a h5
    · cases q : x.H a with
      | none => exact .inr rfl
      | some o =>
        by_cases w : x.ow a
        · exact .inl w
        · rw [n.2.keep a o q w] at h5
          cases h5
theorem GoX.on {σ : L2.St} {c : Str} {u : T} {ρ' : Env} (n : Nx K β x y) (g : GoX K β W x σ c u ρ') : GoX K β W y σ c u ρ' := fun F' H' cls d n' r => g F' H' cls d (n.trans n') r
theorem GoE.on {r : R T} (n : Nx K β x y) (e : y.σ = x.σ) (g : GoE K β W x r Q) : GoE K β W y r Q := by
  cases r with
  | ok t ρ' => exact fun F' H' v n' rp => g F' H' v (n.trans (e ▸ n')) rp
  | ex c u ρ' => exact fun F' H' cls d n' r => e ▸ g F' H' cls d (n.trans (e ▸ n')) r
  | bad => exact g
theorem GoF.on {r : R Slot} (n : Nx K β x y) (e : y.σ = x.σ) (g : GoF K β W x r Q) : GoF K β W y r Q := by
  cases r with
  | ok t ρ' => exact fun F' H' v n' rp => g F' H' v (n.trans (e ▸ n')) (SlR.back n (e ▸ rp))
  | ex c u ρ' => exact fun F' H' cls d n' r => e ▸ g F' H' cls d (n.trans (e ▸ n')) r
  | bad => exact g
theorem GoT.on {r : R Bool} {Q : Bool → Hp → Prop} (n : Nx K β x y) (e : y.σ = x.σ) (g : GoT K β W x r Q) : GoT K β W y r Q := by
  cases r with
  | ok t ρ' => exact fun F' H' n' => g F' H' (n.trans (e ▸ n'))
  | ex c u ρ' => exact fun F' H' cls d n' r => e ▸ g F' H' cls d (n.trans (e ▸ n')) r
  | bad => exact g
theorem GoA.on {r : R (List T)} {Q : List V → Hp → Prop} (n : Nx K β x y) (e : y.σ = x.σ) (g : GoA K β W x r Q) : GoA K β W y r Q := by
  cases r with
  | ok t ρ' => exact fun F' H' v n' rp => g F' H' v (n.trans (e ▸ n')) rp
  | ex c u ρ' => exact fun F' H' cls d n' r => e ▸ g F' H' cls d (n.trans (e ▸ n')) r
  | bad => exact g
theorem GoS.on {r : RS} {D : Ends} (n : Nx K β x y) (g : GoS K β W x D r) : GoS K β W y D r := by
  cases r with
  | nx ρ' => exact fun F' H' σ' n' => g F' H' σ' (n.trans n')
  | rt s ρ' => exact fun F' H' σ' v n' rp => g F' H' σ' v (n.trans n') (SlR.back n rp)
  | bk ρ' => exact fun F' H' σ' n' => g F' H' σ' (n.trans n')
  | ct ρ' => exact fun F' H' σ' n' => g F' H' σ' (n.trans n')
  | ex c u ρ' => exact fun F' H' σ' cls d n' r => g F' H' σ' cls d (n.trans n') r
  | bad => exact g
/-- where one stands behind a value -/
structure At (K : PySem.W.Frag) (β : Bc) (x : Sx) (F : Addr → Prop) (H : Hp) (ρ : Env) (v : V) (t : T) : Prop where
  nx : Nx K β x ⟨F, H, x.σ, ρ⟩
  rep : Rep K F H v t
theorem At.st {F : Addr → Prop} {H : Hp} {ρ : Env} {v : V} {t : T} (h : At K β x F H ρ v t) : St K β ⟨F, H, x.σ, ρ⟩ := h.nx.1
theorem Den.then {m : M T} {f : T → M T} (h : Den X W e m) (hs : St X.K β x) (g : GoE X.K β W x (M.bind m f x.ρ) Q) :
    EV X e x.σ x.H fun v H1 => ∃ F1 ρ1 t, At X.K β x F1 H1 ρ1 v t ∧ m x.ρ = .ok t ρ1 ∧ GoE X.K β W ⟨F1, H1, x.σ, ρ1⟩ (f t ρ1) Q := by
  refine h β x _ hs ?_
  unfold M.bind at g
  cases q : m x.ρ with
  | ok t ρ1 => rw [q] at g; exact fun F' H' v n rp => ⟨F', ρ1, t, ⟨n, rp⟩, rfl, GoE.on n rfl g⟩
  | ex c u ρ1 => rw [q] at g; exact g
  | bad => rw [q] at g; exact g
theorem Den.thenF {m : M T} {f : T → M Slot} (h : Den X W e m) (hs : St X.K β x) (g : GoF X.K β W x (M.bind m f x.ρ) Q) :
    EV X e x.σ x.H fun v H1 => ∃ F1 ρ1 t, At X.K β x F1 H1 ρ1 v t ∧ m x.ρ = .ok t ρ1 ∧ GoF X.K β W ⟨F1, H1, x.σ, ρ1⟩ (f t ρ1) Q := by
  refine h β x _ hs ?_
  unfold M.bind at g
  cases q : m x.ρ with
  | ok t ρ1 => rw [q] at g; exact fun F' H' v n rp => ⟨F', ρ1, t, ⟨n, rp⟩, rfl, GoF.on n rfl g⟩
  | ex c u ρ1 => rw [q] at g; exact g
  | bad => rw [q] at g; exact g
theorem Den.thenT {m : M T} {f : T → M Bool} {Q : Bool → Hp → Prop} (h : Den X W e m) (hs : St X.K β x) (g : GoT X.K β W x (M.bind m f x.ρ) Q) :
    EV X e x.σ x.H fun v H1 => ∃ F1 ρ1 t, At X.K β x F1 H1 ρ1 v t ∧ m x.ρ = .ok t ρ1 ∧ GoT X.K β W ⟨F1, H1, x.σ, ρ1⟩ (f t ρ1) Q := by
  refine h β x _ hs ?_
  unfold M.bind at g
  cases q : m x.ρ with
  | ok t ρ1 => rw [q] at g; exact fun F' H' v n rp => ⟨F', ρ1, t, ⟨n, rp⟩, rfl, GoT.on n rfl g⟩
  | ex c u ρ1 => rw [q] at g; exact g
  | bad => rw [q] at g; exact g
theorem Den.thenA {m : M T} {f : T → M (List T)} {Q : List V → Hp → Prop} (h : Den X W e m) (hs : St X.K β x) (g : GoA X.K β W x (M.bind m f x.ρ) Q) :
    EV X e x.σ x.H fun v H1 => ∃ F1 ρ1 t, At X.K β x F1 H1 ρ1 v t ∧ m x.ρ = .ok t ρ1 ∧ GoA X.K β W ⟨F1, H1, x.σ, ρ1⟩ (f t ρ1) Q := by
  refine h β x _ hs ?_
  unfold M.bind at g
  cases q : m x.ρ with
  | ok t ρ1 => rw [q] at g; exact fun F' H' v n rp => ⟨F', ρ1, t, ⟨n, rp⟩, rfl, GoA.on n rfl g⟩
  | ex c u ρ1 => rw [q] at g; exact g
  | bad => rw [q] at g; exact g
/-- then, for statements: f takes the value to what follows -/
def M.thenS {α : Type} (m : M α) (f : α → S) : S := fun ρ => match m ρ with
  | .ok a ρ => f a ρ
  | .ex c v ρ => .ex c v ρ
  | .bad => .bad
theorem Den.thenS {m : M T} {f : T → S} {D : Ends} (h : Den X W e m) (hs : St X.K β x) (g : GoS X.K β W x D (m.thenS f x.ρ)) :
    EV X e x.σ x.H fun v H1 => ∃ F1 ρ1 t, At X.K β x F1 H1 ρ1 v t ∧ m x.ρ = .ok t ρ1 ∧ GoS X.K β W ⟨F1, H1, x.σ, ρ1⟩ D (f t ρ1) := by
  refine h β x _ hs ?_
  unfold M.thenS at g
  cases q : m x.ρ with
  | ok t ρ1 => rw [q] at g; exact fun F' H' v n rp => ⟨F', ρ1, t, ⟨n, rp⟩, rfl, GoS.on n g⟩
  | ex c u ρ1 => rw [q] at g; exact fun F' H' cls d n r => g F' H' x.σ cls d n r
  | bad => rw [q] at g; exact g
theorem DenF.thenS {m : M Slot} {f : Slot → S} {D : Ends} (h : DenF X W e m) (hs : St X.K β x) (g : GoS X.K β W x D (m.thenS f x.ρ)) :
    EV X e x.σ x.H fun v H1 => ∃ F1 ρ1 s, Nx X.K β x ⟨F1, H1, x.σ, ρ1⟩ ∧ SlR X.K x ⟨F1, H1, x.σ, ρ1⟩ v s ∧ m x.ρ = .ok s ρ1 ∧ GoS X.K β W ⟨F1, H1, x.σ, ρ1⟩ D (f s ρ1) := by
  refine h β x _ hs ?_
  unfold M.thenS at g
  cases q : m x.ρ with
  | ok t ρ1 => rw [q] at g; exact fun F' H' v n rp => ⟨F', ρ1, t, n, rp, rfl, GoS.on n g⟩
  | ex c u ρ1 => rw [q] at g; exact fun F' H' cls d n r => g F' H' x.σ cls d n r
  | bad => rw [q] at g; exact g
theorem DenT.thenS {m : M Bool} {f : Bool → S} {D : Ends} (h : DenT X W e m) (hs : St X.K β x) (g : GoS X.K β W x D (m.thenS f x.ρ)) :
    TV X e x.σ x.H fun b H1 => ∃ F1 ρ1, Nx X.K β x ⟨F1, H1, x.σ, ρ1⟩ ∧ m x.ρ = .ok b ρ1 ∧ GoS X.K β W ⟨F1, H1, x.σ, ρ1⟩ D (f b ρ1) := by
  refine h β x _ hs ?_
  unfold M.thenS at g
  cases q : m x.ρ with
  | ok t ρ1 => rw [q] at g; exact fun F' H' n => ⟨F', ρ1, n, rfl, GoS.on n g⟩
  | ex c u ρ1 => rw [q] at g; exact fun F' H' cls d n r => g F' H' x.σ cls d n r
  | bad => rw [q] at g; exact g
theorem DenT.then {m : M Bool} {f : Bool → M T} (h : DenT X W e m) (hs : St X.K β x) (g : GoE X.K β W x (M.bind m f x.ρ) Q) :
    TV X e x.σ x.H fun b H1 => ∃ F1 ρ1, Nx X.K β x ⟨F1, H1, x.σ, ρ1⟩ ∧ m x.ρ = .ok b ρ1 ∧ GoE X.K β W ⟨F1, H1, x.σ, ρ1⟩ (f b ρ1) Q := by
  refine h β x _ hs ?_
  unfold M.bind at g
  cases q : m x.ρ with
  | ok t ρ1 => rw [q] at g; exact fun F' H' n => ⟨F', ρ1, n, rfl, GoE.on n rfl g⟩
  | ex c u ρ1 => rw [q] at g; exact g
  | bad => rw [q] at g; exact g
theorem DenT.thenT {m : M Bool} {f : Bool → M Bool} {Q : Bool → Hp → Prop} (h : DenT X W e m) (hs : St X.K β x) (g : GoT X.K β W x (M.bind m f x.ρ) Q) :
    TV X e x.σ x.H fun b H1 => ∃ F1 ρ1, Nx X.K β x ⟨F1, H1, x.σ, ρ1⟩ ∧ m x.ρ = .ok b ρ1 ∧ GoT X.K β W ⟨F1, H1, x.σ, ρ1⟩ (f b ρ1) Q := by
  refine h β x _ hs ?_
  unfold M.bind at g
  cases q : m x.ρ with
  | ok t ρ1 => rw [q] at g; exact fun F' H' n => ⟨F', ρ1, n, rfl, GoT.on n rfl g⟩
  | ex c u ρ1 => rw [q] at g; exact g
  | bad => rw [q] at g; exact g
theorem DenA.then {m : M (List T)} {f : List T → M T} (h : DenA X W es m) (hs : St X.K β x) (g : GoE X.K β W x (M.bind m f x.ρ) Q) :
    AV X es x.σ x.H fun vs H1 => ∃ F1 ρ1 ts, Nx X.K β x ⟨F1, H1, x.σ, ρ1⟩ ∧ Reps X.K F1 H1 vs ts ∧ m x.ρ = .ok ts ρ1 ∧ GoE X.K β W ⟨F1, H1, x.σ, ρ1⟩ (f ts ρ1) Q := by
  refine h β x _ hs ?_
  unfold M.bind at g
  cases q : m x.ρ with
  | ok t ρ1 => rw [q] at g; exact fun F' H' v n rp => ⟨F', ρ1, t, n, rp, rfl, GoE.on n rfl g⟩
  | ex c u ρ1 => rw [q] at g; exact g
  | bad => rw [q] at g; exact g
theorem DenA.thenF {m : M (List T)} {f : List T → M Slot} (h : DenA X W es m) (hs : St X.K β x) (g : GoF X.K β W x (M.bind m f x.ρ) Q) :
    AV X es x.σ x.H fun vs H1 => ∃ F1 ρ1 ts, Nx X.K β x ⟨F1, H1, x.σ, ρ1⟩ ∧ Reps X.K F1 H1 vs ts ∧ m x.ρ = .ok ts ρ1 ∧ GoF X.K β W ⟨F1, H1, x.σ, ρ1⟩ (f ts ρ1) Q := by
  refine h β x _ hs ?_
  unfold M.bind at g
  cases q : m x.ρ with
  | ok t ρ1 => rw [q] at g; exact fun F' H' v n rp => ⟨F', ρ1, t, n, rp, rfl, GoF.on n rfl g⟩
  | ex c u ρ1 => rw [q] at g; exact g
  | bad => rw [q] at g; exact g
theorem DenA.thenA {m : M (List T)} {f : List T → M (List T)} {Q : List V → Hp → Prop} (h : DenA X W es m) (hs : St X.K β x) (g : GoA X.K β W x (M.bind m f x.ρ) Q) :
    AV X es x.σ x.H fun vs H1 => ∃ F1 ρ1 ts, Nx X.K β x ⟨F1, H1, x.σ, ρ1⟩ ∧ Reps X.K F1 H1 vs ts ∧ m x.ρ = .ok ts ρ1 ∧ GoA X.K β W ⟨F1, H1, x.σ, ρ1⟩ (f ts ρ1) Q := by
  refine h β x _ hs ?_
  unfold M.bind at g
  cases q : m x.ρ with
  | ok t ρ1 => rw [q] at g; exact fun F' H' v n rp => ⟨F', ρ1, t, n, rp, rfl, GoA.on n rfl g⟩
  | ex c u ρ1 => rw [q] at g; exact g
  | bad => rw [q] at g; exact g
/-! ### answers -/
theorem GoE.out {t : T} {v : V} (hs : St K β x) (g : GoE K β W x (.ok t x.ρ) Q) (r : Rep K x.F x.H v t) : Q v x.H := g x.F x.H v (Nx.refl hs) r
/-- a new object, frozen -/
theorem GoE.new {t : T} {o : HO} {p : Addr} (hs : St K β x) (g : GoE K β W x (.ok t x.ρ) Q) (hp : x.H p = none) (r : RepO K (addF x.F p) (upd x.H p o) p t) : Q (.ref p) (upd x.H p o) :=
  g _ _ _ (Nx.laid hs hp) (.obj (.inr rfl) r)
/-- a new object that is handed out -/
theorem GoF.new {t : T} {o : HO} {p : Addr} (hs : St K β x) (g : GoF K β W x (.ok (.own t) x.ρ) Q) (hp : x.H p = none) (r : OwnO K x.F (upd x.H p o) p t) : Q (.ref p) (upd x.H p o) :=
  g _ _ _ (Nx.laidO hs hp) ⟨p, rfl, hs.fNone hp, r, hs.owNone hp, .inr hp⟩
theorem Reps.laid {p : Addr} {o : HO} {vs : List V} {ts : List T} (hs : St K β x) (hp : x.H p = none) (r : Reps K x.F x.H vs ts) : Reps K (addF x.F p) (upd x.H p o) vs ts := (Nx.laid (o := o) hs hp).2.reps hs r
theorem Reps.laidO {p : Addr} {o : HO} {vs : List V} {ts : List T} (hs : St K β x) (hp : x.H p = none) (r : Reps K x.F x.H vs ts) : Reps K x.F (upd x.H p o) vs ts := (Nx.laidO (o := o) hs hp).2.reps hs r
/-- a dict is locked as it is frozen -/
theorem ev_lock {σ : L2.St} {H : Hp} (h : EV X e σ H fun v H1 => ∃ a u, v = .ref a ∧ H1 a = some u ∧ ∀ ob, Q v (upd H1 a (lockO ob u))) : EV X e σ H Q := by
  refine ⟨fun σ H Q => EV X e σ H fun v H1 => ∃ a u, v = .ref a ∧ H1 a = some u ∧ ∀ ob, Q v (upd H1 a (lockO ob u)), ⟨fun pins s σ H Q I h => ?_⟩, h⟩
  refine thn (pe_ev.run pins s σ H _ I h) fun w s1 ⟨v, H1, I1, r, a, u, e, eu, q⟩ => ?_
  have same : upd H1 a u = H1 := by
    funext b
    by_cases hb : b = a
    · subst hb; rw [upd_same, eu]
    · rw [upd_ne hb]
  cases u <;> first | exact ⟨v, H1, I1, r, by have := q default; simp only [lockO, same] at this; exact this⟩ | skip
  rename_i kvs
  obtain ⟨ob, I2⟩ := I1.lock eu trivial
  exact ⟨v, _, I2, r, q ob⟩
/-! ### names -/
/-- a name read for good: what the slot owns is frozen -/
def rd (i : Nat) : M T := fun ρ => match ρ[i]? with
  | some (.val t) => .ok t ρ
  | some (.own t) => .ok t (ρ.set i (.val t))
  | some (.old t) => .ok t ρ
  | some (.nl ts) => .ok (.lst ts) ρ
  | _ => .bad
theorem St.at_ {i : Nat} {s : Slot} (h : St K β x) (e : x.ρ[i]? = some s) : ∃ o, x.σ[i]? = some o ∧ SlotOk K β x.F x.H i o s := by
  have hi : i < x.σ.length := by rw [h.len]; exact (List.getElem?_eq_some_iff.mp e).1
  exact ⟨_, List.getElem?_eq_getElem hi, h.slot i _ _ (List.getElem?_eq_getElem hi) e⟩
theorem den_rd {n : Str} (i : Nat) (hp : PE X (.Name n pos) (tVar i)) : Den X W (.Name n pos) (rd i) := by
  intro β x Q hs g
  unfold rd at g
  cases q : x.ρ[i]? with
  | none => rw [q] at g; exact g.elim
  | some s =>
    rw [q] at g
    obtain ⟨o, e1, ok⟩ := hs.at_ q
    cases s with
    | un => exact g.elim
    | bor t => exact g.elim
    | val t =>
      obtain ⟨v, rfl, r⟩ := ok
      exact ev_var i hp e1 (GoE.out hs g r)
    | old t =>
      obtain ⟨v, rfl, r, sub⟩ := ok
      exact ev_var i hp e1 (GoE.out hs g (r.mono sub fun _ _ _ e => e))
    | nl ts =>
      obtain ⟨a, vs, rfl, f, h, r, _⟩ := ok
      exact ev_var i hp e1 (GoE.out hs g (.obj f (.lst h r)))
    | own t =>
      obtain ⟨a, rfl, _, r⟩ := ok
      obtain ⟨u, eu⟩ := r.there
      refine ev_lock (ev_var i hp e1 ⟨a, u, rfl, eu, fun ob => ?_⟩)
      have fz := Nx.freeze (ob := ob) hs e1 q eu
      exact g _ _ _ fz.1 fz.2
end
end Dv
/-! DC: what operations do to trees; their rules. -/
namespace Dv
open PySem PySem.Spec PyProof.Rows L2 Hv
/-- a value that is read where it stands -/
def RepP (K : PySem.W.Frag) (F : Addr → Prop) (H : Hp) (v : V) (t : T) : Prop := Rep K F H v t ∨ ∃ a, v = .ref a ∧ OwnO K F H a t
section
variable {K : PySem.W.Frag} {F : Addr → Prop} {H : Hp} {v : V} {t : T} {ts : List T}
theorem RepP.lst (h : RepP K F H v (.lst ts)) : ∃ a vs, v = .ref a ∧ H a = some (.lst vs) ∧ Reps K F H vs ts := by
  rcases h with h | ⟨a, rfl, h⟩
  · cases h with
    | obj f h => cases h with | lst h r => exact ⟨_, _, rfl, h, r⟩
  · cases h with | lst h r => exact ⟨_, _, rfl, h, r⟩
theorem RepP.tup (h : RepP K F H v (.tup ts)) : ∃ a vs, v = .ref a ∧ H a = some (.tup vs) ∧ Reps K F H vs ts := by
  rcases h with h | ⟨a, rfl, h⟩
  · cases h with
    | obj f h => cases h with | tup h r => exact ⟨_, _, rfl, h, r⟩
  · cases h
theorem RepP.wtu (h : RepP K F H v (.wtu ts)) : ∃ a vs, v = .ref a ∧ SqT K H a vs ∧ Reps K F H vs ts := by
  rcases h with h | ⟨a, rfl, h⟩
  · cases h with
    | obj f h => cases h
    | wt h r => exact ⟨_, _, rfl, h _, r⟩
  · cases h
theorem RepP.scr (h : RepP K F H v (.scr ts)) : ∃ a vs, v = .ref a ∧ SqL K H a vs ∧ Reps K F H vs ts := by
  rcases h with h | ⟨a, rfl, h⟩
  · cases h with
    | obj f h => cases h with | scr h r => exact ⟨_, _, rfl, .inl h, r⟩
    | wl h r => exact ⟨_, _, rfl, h _, r⟩
  · cases h
theorem RepP.dic {kts : List (Key × T)} (h : RepP K F H v (.dic kts)) : ∃ a kvs, v = .ref a ∧ Rd H a (.dK kvs) ∧ kvs.map (·.1) = kts.map (·.1) ∧ Reps K F H (kvs.map (·.2)) (kts.map (·.2)) := by
  rcases h with h | ⟨a, rfl, h⟩
  · cases h with
    | obj f h => cases h with | dic h l r => exact ⟨_, _, rfl, .inr ⟨_, h⟩, l, r⟩
  · cases h with | dic h l r => exact ⟨_, _, rfl, .inl h, l, r⟩
theorem RepP.int {i : Int} (h : RepP K F H v (.int i)) : v = .int i := by
  rcases h with h | ⟨a, rfl, h⟩
  · cases h with
    | obj f h => cases h
    | int => rfl
  · cases h
theorem RepP.str {x : Str} (h : RepP K F H v (.str x)) : v = .str x := by
  rcases h with h | ⟨a, rfl, h⟩
  · cases h with
    | obj f h => cases h
    | str => rfl
  · cases h
theorem RepP.bl {x : Bool} (h : RepP K F H v (.bl x)) : v = .bl x := by
  rcases h with h | ⟨a, rfl, h⟩
  · cases h with
    | obj f h => cases h
    | bl => rfl
  · cases h
theorem RepP.non (h : RepP K F H v .non) : v = .non := by
  rcases h with h | ⟨a, rfl, h⟩
  · cases h with
    | obj f h => cases h
    | non => rfl
  · cases h
theorem RepP.ty {n : String} (h : RepP K F H v (.ty n)) : v = .ty n := by
  rcases h with h | ⟨a, rfl, h⟩
  · cases h with
    | obj f h => cases h
    | ty => rfl
  · cases h
/-- lists and tuples by items -/
def seqT : T → Option (List T)
  | .lst ts => some ts
  | .tup ts => some ts
  | .scr ts => some ts
  | .wtu ts => some ts
  | _ => none
theorem RepP.seq (e : seqT t = some ts) (h : RepP K F H v t) : ∃ a vs, v = .ref a ∧ (SqL K H a vs ∨ SqT K H a vs) ∧ Reps K F H vs ts := by
  cases t <;> simp [seqT] at e <;> subst e
  · obtain ⟨a, vs, e, h, r⟩ := h.tup
    exact ⟨a, vs, e, .inr (.of h), r⟩
  · obtain ⟨a, vs, e, h, r⟩ := h.lst
    exact ⟨a, vs, e, .inl (.of h), r⟩
  · obtain ⟨a, vs, e, h, r⟩ := h.scr
    exact ⟨a, vs, e, .inl h, r⟩
  · obtain ⟨a, vs, e, h, r⟩ := h.wtu
    exact ⟨a, vs, e, .inr h, r⟩
end
/-! ### operands -/
abbrev Rdr := Env → Option T
def cont (ρ : Env) (i : Nat) : Option T := match ρ[i]? with
  | some (.val t) => some t
  | some (.own t) => some t
  | some (.bor t) => some t
  | some (.old t) => some t
  | some (.nl ts) => some (.lst ts)
  | _ => none
/-- a name: read when it is used -/
def oN (i : Nat) : M Rdr := fun ρ => if (cont ρ i).isSome then .ok (fun ρ => cont ρ i) ρ else .bad
def oE (m : M T) : M Rdr := m.bind fun t => M.pure fun _ => some t
def GoO (K : PySem.W.Frag) (β : Bc) (W : WX) (x : Sx) (r : R Rdr) (Q : VK) : Prop := match r with
  | .ok f ρ' => ∀ F' H' v, Nx K β x ⟨F', H', x.σ, ρ'⟩ → (∀ z, Nx K β ⟨F', H', x.σ, ρ'⟩ z → z.σ = x.σ → ∀ t, f z.ρ = some t → RepP K z.F z.H v t) → Q v H'
  | .ex c u ρ' => GoX K β W x x.σ c u ρ'
  | .bad => False
def DenO (X : Cx) (W : WX) (e : Expr) (m : M Rdr) : Prop := ∀ β x Q, St X.K β x → GoO X.K β W x (m x.ρ) Q → EV X e x.σ x.H Q
/-- one operand, two -/
def un1 (f : T → Option T) (a : M Rdr) : M T := a.bind fun r ρ => lift ((r ρ).bind f) ρ
def op2 (f : T → T → Option T) (a b : M Rdr) : M T := a.bind fun r => b.bind fun q ρ => lift ((r ρ).bind fun s => (q ρ).bind fun t => f s t) ρ
section
variable {X : Cx} {W : WX} {β : Bc} {x : Sx} {e a b c o : Expr} {es rest : List Expr} {Q : VK} {pos p : Pos} {ma mb : M Rdr} {m mc : M T}
theorem cont_at {i : Nat} {t : T} {K : PySem.W.Frag} (hs : St K β x) (h : cont x.ρ i = some t) : ∃ v, x.σ[i]? = some (some v) ∧ RepP K x.F x.H v t := by
  unfold cont at h
  cases q : x.ρ[i]? with
  | none => rw [q] at h; cases h
  | some s =>
    rw [q] at h
    obtain ⟨o, e1, ok⟩ := hs.at_ q
    cases s with
    | un => cases h
    | val t =>
      cases h
      obtain ⟨v, rfl, r⟩ := ok
      exact ⟨v, e1, .inl r⟩
    | own t =>
      cases h
      obtain ⟨a, rfl, _, r⟩ := ok
      exact ⟨_, e1, .inr ⟨a, rfl, r⟩⟩
    | bor t =>
      cases h
      obtain ⟨a, rfl, _, _, r⟩ := ok
      exact ⟨_, e1, .inr ⟨a, rfl, r⟩⟩
    | old t =>
      cases h
      obtain ⟨v, rfl, r, sub⟩ := ok
      exact ⟨v, e1, .inl (r.mono sub fun _ _ _ e => e)⟩
    | nl ts =>
      cases h
      obtain ⟨a, vs, rfl, f, h, r, _⟩ := ok
      exact ⟨_, e1, .inl (.obj f (.lst h r))⟩
theorem deno_n {n : Str} (i : Nat) (hp : PE X (.Name n pos) (tVar i)) : DenO X W (.Name n pos) (oN i) := by
  intro β x Q hs g
  unfold oN at g
  cases q : cont x.ρ i with
  | none => rw [q] at g; exact g.elim
  | some t =>
    rw [q] at g
    obtain ⟨v, e1, r⟩ := cont_at hs q
    refine ev_var i hp e1 (g _ _ v (Nx.refl hs) fun z n ez t' h => ?_)
    obtain ⟨v', e2, r'⟩ := cont_at n.1 h
    rw [ez, e1] at e2
    cases e2
    exact r'
theorem deno (h : Den X W e m) : DenO X W e (oE m) := by
  intro β x Q hs g
  refine h β x Q hs ?_
  unfold oE M.bind at g
  cases q : m x.ρ with
  | ok t ρ' =>
    rw [q] at g
    intro F' H' v n r
    refine g F' H' v n fun z n' ez t' e => ?_
    cases e
    exact .inl (n'.2.rep n.1 r)
  | ex c u ρ' => rw [q] at g; exact g
  | bad => rw [q] at g; exact g
/-- an operation on one value, on two -/
def UnD (X : Cx) (W : WX) (f : T → Option T) (G : V → Hp → VK → Prop) : Prop := ∀ β x v t Q, St X.K β x → RepP X.K x.F x.H v t → GoE X.K β W x (lift (f t) x.ρ) Q → G v x.H Q
def OpD (X : Cx) (W : WX) (f : T → T → Option T) (G : V → V → Hp → VK → Prop) : Prop := ∀ β x v w s t Q, St X.K β x → RepP X.K x.F x.H v s → RepP X.K x.F x.H w t → GoE X.K β W x (lift (f s t) x.ρ) Q → G v w x.H Q
theorem DenO.then1 {f : T → Option T} {G : V → Hp → VK → Prop} (h : DenO X W e ma) (d : UnD X W f G) (hs : St X.K β x) (g : GoE X.K β W x (un1 f ma x.ρ) Q) : EV X e x.σ x.H fun v H => G v H Q := by
  refine h β x _ hs ?_
  unfold un1 M.bind at g
  cases q : ma x.ρ with
  | ok r ρ1 =>
    rw [q] at g
    intro F' H' v n rp
    have g2 := GoE.on n rfl g
    cases q2 : r ρ1 with
    | none => simp only [R.bind, q2] at g2; exact g2.elim
    | some t =>
      simp only [R.bind, q2] at g2
      exact d β ⟨F', H', x.σ, ρ1⟩ v t Q n.1 (rp ⟨F', H', x.σ, ρ1⟩ (Nx.refl n.1) rfl t q2) g2
  | ex c u ρ1 => rw [q] at g; exact g
  | bad => rw [q] at g; exact g
theorem DenO.then2 {f : T → T → Option T} {G : V → V → Hp → VK → Prop} (ha : DenO X W a ma) (hb : DenO X W b mb) (d : OpD X W f G) (hs : St X.K β x) (g : GoE X.K β W x (op2 f ma mb x.ρ) Q) :
    EV X a x.σ x.H fun v H => EV X b x.σ H fun w H => G v w H Q := by
  refine ha β x _ hs ?_
  unfold op2 M.bind at g
  cases q : ma x.ρ with
  | ok r ρ1 =>
    rw [q] at g
    intro F1 H1 v n rp
    refine hb β ⟨F1, H1, x.σ, ρ1⟩ _ n.1 ?_
    simp only [R.bind] at g
    show GoO _ _ _ _ (mb ρ1) _
    cases q2 : mb ρ1 with
    | ok r2 ρ2 =>
      rw [q2] at g
      intro F2 H2 w n2 rp2
      have g2 := GoE.on (n.trans n2) rfl g
      simp only [R.bind] at g2
      cases q3 : r ρ2 with
      | none => rw [q3] at g2; exact g2.elim
      | some s =>
        cases q4 : r2 ρ2 with
        | none => rw [q3, q4] at g2; exact g2.elim
        | some t =>
          rw [q3, q4] at g2
          exact d β ⟨F2, H2, x.σ, ρ2⟩ v w s t Q n2.1 (rp ⟨F2, H2, x.σ, ρ2⟩ n2 rfl s q3) (rp2 ⟨F2, H2, x.σ, ρ2⟩ (Nx.refl n2.1) rfl t q4) g2
    | ex c u ρ2 => rw [q2] at g; exact GoX.on n g
    | bad => rw [q2] at g; exact g
  | ex c u ρ1 => rw [q] at g; exact g
  | bad => rw [q] at g; exact g
/-! ### expressions made of operands -/
def cst (t : T) : M T := M.pure t
theorem den_int {z : Int} {j : Nat} : Den X W (.Constant (.int z) j pos) (cst (.int z)) := fun β x Q hs g => ev_int (GoE.out hs g (.int z))
theorem den_str {z : Str} {j : Nat} : Den X W (.Constant (.str z) j pos) (cst (.str z)) := fun β x Q hs g => ev_str (GoE.out hs g (.str z))
theorem den_bl {z : Bool} {j : Nat} : Den X W (.Constant (.bool z) j pos) (cst (.bl z)) := fun β x Q hs g => ev_bl (GoE.out hs g (.bl z))
theorem den_non {j : Nat} : Den X W (.Constant .none j pos) (cst .non) := fun β x Q hs g => ev_non (GoE.out hs g .non)
theorem den_op {op : Operator} {f : T → T → Option T} (ha : DenO X W a ma) (hb : DenO X W b mb) (d : OpD X W f (OV X (binaryOp op))) : Den X W (.BinOp a op b pos) (op2 f ma mb) := fun β x Q hs g => ev_op (ha.then2 hb d hs g)
theorem den_un {op : UnaryOp} {f : T → Option T} (ha : DenO X W a ma) (d : UnD X W f (UV X (unaryOp op))) : Den X W (.UnaryOp op a pos) (un1 f ma) := fun β x Q hs g => ev_un (ha.then1 d hs g)
theorem den_cmp {op : CmpOp} {f : T → T → Option T} (ha : DenO X W a ma) (hb : DenO X W b mb) (d : OpD X W f (OV X (compareOp op))) (hm : behindInMarks op b = false := by first | exact nobehind _ (by decide) (by decide) | rfl) :
    Den X W (.Compare a [op] [b] pos) (op2 f ma mb) := fun β x Q hs g => ev_cmp (ha.then2 hb d hs g) hm
theorem den_ix {f : T → T → Option T} (ha : DenO X W a ma) (hb : DenO X W b mb) (d : OpD X W f (IV X)) (hp : PlainIx b := by exact fun _ _ => rfl) : Den X W (.Subscript a b pos) (op2 f ma mb) := fun β x Q hs g => ev_ix hp (ha.then2 hb d hs g)
/-- tests -/
def tst (m : M T) : M Bool := m.bind fun t => lift (match t with | .bl b => some b | _ => none)
theorem Rep.bl' {K : PySem.W.Frag} {F : Addr → Prop} {H : Hp} {v : V} {b : Bool} (h : Rep K F H v (.bl b)) : v = .bl b := RepP.bl (.inl h)
theorem den_tst (h : Den X W e m) (he : ∀ whole, isTrue e X.env whole = (do let v ← whole; standAt e.pos; holding [v] (truthy v)) := by intro _; rfl) : DenT X W e (tst m) := by
  intro β x Q hs g
  refine tv_val (ev_mono (h.thenT hs g) ?_) he
  rintro v H1 ⟨F1, ρ1, t, at_, e1, g1⟩
  cases t <;> simp only [lift] at g1 <;> first | exact g1.elim | skip
  rename_i b
  cases at_.rep.bl'
  exact ⟨b, rfl, g1 _ _ (Nx.refl at_.st)⟩
theorem dent_cmp {op : CmpOp} {f : T → T → Option T} (ha : DenO X W a ma) (hb : DenO X W b mb) (d : OpD X W f (OV X (compareOp op))) (hm : behindInMarks op b = false := by first | exact nobehind _ (by decide) (by decide) | rfl) :
    DenT X W (.Compare a [op] [b] pos) (tst (op2 f ma mb)) := by
  intro β x Q hs g
  refine tv_cmp ?_ hm
  refine ev_mono (ha.then2 hb d (Q := fun z H3 => ∃ k, z = .bl k ∧ Q k H3) hs ?_) fun _ _ h => h
  unfold tst M.bind at g
  cases q : op2 f ma mb x.ρ with
  | ok t ρ1 =>
    rw [q] at g
    intro F' H' v n r
    simp only [R.bind] at g
    cases t <;> simp only [lift] at g <;> first | exact g.elim | skip
    rename_i b
    cases r.bl'
    exact ⟨b, rfl, g _ _ n⟩
  | ex c u ρ1 => rw [q] at g; exact g
  | bad => rw [q] at g; exact g
def notM (m : M Bool) : M Bool := m.bind fun b => M.pure (!b)
theorem dent_not {m : M Bool} (h : DenT X W a m) : DenT X W (.UnaryOp .Not a pos) (notM m) := by
  intro β x Q hs g
  refine tv_not (tv_mono (h.thenT hs g) ?_)
  rintro b H1 ⟨F1, ρ1, n, _, g1⟩
  exact g1 _ _ (Nx.refl n.1)
/-- and, or as tests -/
def DenW (X : Cx) (W : WX) (e : Expr) (m : M Bool) : Prop := ∀ β x Q, St X.K β x → GoT X.K β W x (m x.ρ) Q → WV X e x.σ x.H Q
def andM (m n : M Bool) : M Bool := m.bind fun b => if b then n else M.pure false
def orM (m n : M Bool) : M Bool := m.bind fun b => if b then M.pure true else n
theorem denw_and1 {m : M Bool} (h : DenT X W a m) : DenW X W (.BoolOp .And [a] pos) m := fun β x Q hs g => wv_and1 (h β x Q hs g)
theorem denw_or1 {m : M Bool} (h : DenT X W a m) : DenW X W (.BoolOp .Or [a] pos) m := fun β x Q hs g => wv_or1 (h β x Q hs g)
theorem denw_and {m n : M Bool} (h : DenT X W a m) (h2 : DenW X W (.BoolOp .And (b :: rest) pos) n) : DenW X W (.BoolOp .And (a :: b :: rest) pos) (andM m n) := by
  intro β x Q hs g
  refine wv_and (tv_mono (h.thenT hs g) ?_)
  rintro k H1 ⟨F1, ρ1, nn, _, g1⟩
  cases k
  · exact g1 _ _ (Nx.refl nn.1)
  · exact h2 β ⟨F1, H1, x.σ, ρ1⟩ Q nn.1 g1
theorem denw_or {m n : M Bool} (h : DenT X W a m) (h2 : DenW X W (.BoolOp .Or (b :: rest) pos) n) : DenW X W (.BoolOp .Or (a :: b :: rest) pos) (orM m n) := by
  intro β x Q hs g
  refine wv_or (tv_mono (h.thenT hs g) ?_)
  rintro k H1 ⟨F1, ρ1, nn, _, g1⟩
  cases k
  · exact h2 β ⟨F1, H1, x.σ, ρ1⟩ Q nn.1 g1
  · exact g1 _ _ (Nx.refl nn.1)
theorem dent_w {m : M Bool} (h : DenW X W e m) : DenT X W e m := fun β x Q hs g => tv_wv (h β x Q hs g)
/-- a if t else b -/
def ifM (t : M Bool) (m n : M T) : M T := t.bind fun b => if b then m else n
theorem den_if {t : M Bool} {m n : M T} (hc : DenT X W c t) (ha : Den X W a m) (hb : Den X W b n) : Den X W (.IfExp c a b pos) (ifM t m n) := by
  intro β x Q hs g
  refine ev_if (tv_mono (hc.then hs g) ?_)
  rintro k H1 ⟨F1, ρ1, nn, _, g1⟩
  cases k
  · exact hb β ⟨F1, H1, x.σ, ρ1⟩ Q nn.1 g1
  · exact ha β ⟨F1, H1, x.σ, ρ1⟩ Q nn.1 g1
/-- truth of a value -/
def truT : T → Option Bool
  | .bl b => some b
  | .non => some false
  | _ => none
theorem truV {K : PySem.W.Frag} {F : Addr → Prop} {H : Hp} {v : V} {t : T} {k : Bool} (e : truT t = some k) (r : Rep K F H v t) : TruV K v H k := by
  cases t <;> simp [truT] at e <;> subst e
  · cases RepP.non (.inl r); rfl
  · cases r.bl'; rfl
def andE (m n : M T) : M T := m.bind fun t => match truT t with
  | some true => n
  | some false => M.pure t
  | none => fun _ => .bad
def orE (m n : M T) : M T := m.bind fun t => match truT t with
  | some true => M.pure t
  | some false => n
  | none => fun _ => .bad
theorem den_one {op : BoolOp} (h : Den X W a m) : Den X W (.BoolOp op [a] pos) m := fun β x Q hs g => ev_one (h β x Q hs g)
theorem den_and {n : M T} (h : Den X W a m) (h2 : Den X W (.BoolOp .And (b :: rest) pos) n) : Den X W (.BoolOp .And (a :: b :: rest) pos) (andE m n) := by
  intro β x Q hs g
  refine ev_and (ev_mono (h.then hs g) ?_)
  rintro v H1 ⟨F1, ρ1, t, at_, _, g1⟩
  cases q : truT t with
  | none => simp only [q] at g1; exact g1.elim
  | some k =>
    simp only [q] at g1
    refine ⟨k, truV q at_.rep, ?_⟩
    cases k
    · exact GoE.out (x := ⟨F1, H1, x.σ, ρ1⟩) at_.st g1 at_.rep
    · exact h2 β ⟨F1, H1, x.σ, ρ1⟩ Q at_.st g1
theorem den_or {n : M T} (h : Den X W a m) (h2 : Den X W (.BoolOp .Or (b :: rest) pos) n) : Den X W (.BoolOp .Or (a :: b :: rest) pos) (orE m n) := by
  intro β x Q hs g
  refine ev_or (ev_mono (h.then hs g) ?_)
  rintro v H1 ⟨F1, ρ1, t, at_, _, g1⟩
  cases q : truT t with
  | none => simp only [q] at g1; exact g1.elim
  | some k =>
    simp only [q] at g1
    refine ⟨k, truV q at_.rep, ?_⟩
    cases k
    · exact h2 β ⟨F1, H1, x.σ, ρ1⟩ Q at_.st g1
    · exact GoE.out (x := ⟨F1, H1, x.σ, ρ1⟩) at_.st g1 at_.rep
def notE (m : M T) : M T := m.bind fun t => lift ((truT t).map fun b => .bl (!b))
theorem den_not (h : Den X W a m) : Den X W (.UnaryOp .Not a pos) (notE m) := by
  intro β x Q hs g
  refine ev_not (ev_mono (h.then hs g) ?_)
  rintro v H1 ⟨F1, ρ1, t, at_, _, g1⟩
  cases q : truT t with
  | none => simp only [q, Option.map, lift] at g1; exact g1.elim
  | some k =>
    simp only [q, Option.map, lift] at g1
    exact ⟨k, truV q at_.rep, GoE.out (x := ⟨F1, H1, x.σ, ρ1⟩) at_.st g1 (.bl _)⟩
/-! ### displays, arguments -/
def nilA : M (List T) := M.pure []
def consA (m : M T) (n : M (List T)) : M (List T) := m.bind fun t => n.bind fun ts => M.pure (t :: ts)
theorem dena_nil : DenA X W [] nilA := fun β x Q hs g => av_nil (g x.F x.H [] (Nx.refl hs) .nil)
theorem dena_cons {n : M (List T)} (h : Den X W e m) (h2 : DenA X W es n) (he : starEach (e :: es) X.env = (false, eval e X.env) :: starEach es X.env := by rfl) : DenA X W (e :: es) (consA m n) := by
  intro β x Q hs g
  refine av_cons (ev_mono (h.thenA hs g) ?_) he
  rintro v H1 ⟨F1, ρ1, t, at_, _, g1⟩
  refine av_mono (h2.thenA (x := ⟨F1, H1, x.σ, ρ1⟩) at_.st g1) ?_
  rintro vs H2 ⟨F2, ρ2, ts, n2, r2, _, g2⟩
  exact g2 _ _ _ (Nx.refl n2.1) (.cons (n2.2.rep at_.st at_.rep) r2)
def starA (m : M Rdr) (n : M (List T)) : M (List T) := m.bind fun r ρ => match (r ρ).bind seqT with
  | some ss => (n.bind fun ts => M.pure (ss ++ ts)) ρ
  | none => .bad
theorem dena_star {n : M (List T)} (h : DenO X W e ma) (h2 : DenA X W es n) (he : starEach (.Starred e p :: es) X.env = (true, eval e X.env) :: starEach es X.env := by rfl) : DenA X W (.Starred e p :: es) (starA ma n) := by
  intro β x Q hs g
  refine av_star ?_ he
  refine h β x _ hs ?_
  unfold starA M.bind at g
  cases q : ma x.ρ with
  | ok r ρ1 =>
    rw [q] at g
    intro F1 H1 v n1 rp
    simp only [R.bind] at g
    cases q2 : r ρ1 with
    | none => rw [q2] at g; exact g.elim
    | some t =>
      rw [q2] at g
      cases q3 : seqT t with
      | none => simp only [Option.bind, q3] at g; exact g.elim
      | some ss =>
        simp only [Option.bind, q3] at g
        obtain ⟨l, vs, rfl, sq, rs⟩ := RepP.seq q3 (rp ⟨F1, H1, x.σ, ρ1⟩ (Nx.refl n1.1) rfl t q2)
        refine ⟨l, vs, rfl, sq.symm, ?_⟩
        refine av_mono (h2.thenA (x := ⟨F1, H1, x.σ, ρ1⟩) (f := fun ts => M.pure (ss ++ ts)) n1.1 (GoA.on n1 rfl g)) ?_
        rintro ws H2 ⟨F2, ρ2, ts, n2, r2, _, g2⟩
        exact g2 _ _ _ (Nx.refl n2.1) ((n2.2.reps n1.1 rs).app r2)
  | ex c u ρ1 => rw [q] at g; exact g
  | bad => rw [q] at g; exact g
def tupM (n : M (List T)) : M T := n.bind fun ts => lift (if ts.length ≤ 100000 then some (.tup ts) else none)
theorem den_tup {x1} {n : M (List T)} (h : DenA X W es n) : Den X W (.Tuple es x1 pos) (tupM n) := by
  intro β x Q hs g
  refine ev_tup (av_mono (h.then hs g) ?_)
  rintro vs H1 ⟨F1, ρ1, ts, n1, rs, _, g1⟩
  by_cases hl : ts.length ≤ 100000
  · rw [if_pos hl] at g1
    exact ⟨sz_ok (rs.len ▸ hl), fun p hp => GoE.new (x := ⟨F1, H1, x.σ, ρ1⟩) n1.1 g1 hp (.tup upd_same (Reps.laid n1.1 hp rs))⟩
  · rw [if_neg hl] at g1
    exact g1.elim
def lstF (n : M (List T)) : M Slot := n.bind fun ts => lift (if ts.length ≤ 100000 then some (.own (.lst ts)) else none)
theorem denf_lst {n : M (List T)} (h : DenA X W es n) : DenF X W (.List es pos) (lstF n) := by
  intro β x Q hs g
  refine ev_lst (av_mono (h.thenF hs g) ?_)
  rintro vs H1 ⟨F1, ρ1, ts, n1, rs, _, g1⟩
  by_cases hl : ts.length ≤ 100000
  · rw [if_pos hl] at g1
    exact ⟨sz_ok (rs.len ▸ hl), fun p hp => GoF.new (x := ⟨F1, H1, x.σ, ρ1⟩) n1.1 g1 hp (.lst upd_same (Reps.laidO n1.1 hp rs))⟩
  · rw [if_neg hl] at g1
    exact g1.elim
/-- what is handed out is frozen -/
def frz (m : M Slot) : M T := m.bind fun s => lift (match s with
  | .val t => some t
  | .own t => some t
  | _ => none)
theorem Nx.frzO {K : PySem.W.Frag} {y : Sx} {a : Addr} {t : T} {u : HO} {ob : Obj} (n : Nx K β x y) (nf : ¬ y.F a) (o : OwnO K y.F y.H a t) (nw : ¬ y.ow a) (h : x.ow a ∨ x.H a = none) (eu : y.H a = some u) : Nx K β x ⟨addF y.F a, upd y.H a (lockO ob u), y.σ, y.ρ⟩ ∧ Rep K (addF y.F a) (upd y.H a (lockO ob u)) (.ref a) t := by
  have hH : ∀ b v, b ≠ a → y.H b = some v → upd y.H a (lockO ob u) b = some v := fun b v n e => by rw [upd_ne n]; exact e
  have hHF : ∀ b v, y.F b → y.H b = some v → upd y.H a (lockO ob u) b = some v := fun b v f e => hH b v (fun z => by subst z; exact nf f) e
  have rp : Rep K (addF y.F a) (upd y.H a (lockO ob u)) (.ref a) t := by
    obtain ⟨u', eu', r⟩ := o.lock ob nf
    rw [eu] at eu'
    cases eu'
    exact .obj (.inr rfl) (r.mono' (fun _ f => .inl f))
  refine ⟨⟨⟨n.1.len, fun i o' s e1 e2 => ?_, n.1.apart, fun b f => ?_⟩, ⟨fun b f => .inl (n.2.ext b f), fun b v e w => hH b v (fun z => ?_) (n.2.keep b v e w), fun b f => ?_, n.2.wn⟩⟩, rp⟩
  · have na : ∀ c, o' = some (.ref c) → (∃ t, s = .own t ∨ s = .bor t) → c ≠ a := fun c ec ⟨u, qs⟩ z => by
      subst z ec
      exact nw ⟨i, e1, u, qs.elim (fun z => .inl (z ▸ e2)) fun z => .inr (z ▸ e2)⟩
    refine (n.1.slot i o' s e1 e2).mono (fun _ f => .inl f) hHF fun b eb qs nb => ⟨fun f => ?_, fun v => hH b v (na b eb qs)⟩
    rcases f with f | f
    · exact nb f
    · exact na b eb qs f
  · rcases f with f | f
    · obtain ⟨v, e⟩ := n.1.trk b f
      exact ⟨v, hHF b v f e⟩
    · subst f
      exact ⟨_, upd_same⟩
  · subst z
    rcases h with h | h
    · exact w h
    · rw [e] at h; cases h
  · rcases f with f | f
    · exact n.2.new b f
    · subst f
      exact .inr (h.imp_right .inl)
theorem den_frz {m : M Slot} (h : DenF X W e m) : Den X W e (frz m) := by
  intro β x Q hs g
  unfold frz M.bind at g
  by_cases ho : ∃ t ρ1, m x.ρ = .ok (.own t) ρ1
  · obtain ⟨t, ρ1, q⟩ := ho
    rw [q] at g
    refine ev_lock (h β x _ hs ?_)
    rw [q]
    intro F1 H1 v n r
    obtain ⟨a, rfl, h1, h2, h3, h4⟩ := r
    obtain ⟨u, eu⟩ := h2.there
    refine ⟨a, u, rfl, eu, fun ob => ?_⟩
    obtain ⟨n2, r2⟩ := Nx.frzO (ob := ob) n h1 h2 h3 h4 eu
    exact g _ _ _ n2 r2
  refine h β x Q hs ?_
  cases q : m x.ρ with
  | ok s ρ1 =>
    rw [q] at g
    intro F1 H1 v n r
    cases s with
    | un => exact r.elim
    | bor _ => exact r.elim
    | old _ => exact r.elim
    | nl _ => exact r.elim
    | val t => exact g F1 H1 v n r
    | own t => exact absurd ⟨t, ρ1, q⟩ ho
  | ex c u ρ1 => rw [q] at g; exact g
  | bad => rw [q] at g; exact g
/-- a value that is no new object, handed out -/
def hnd (m : M T) : M Slot := m.bind fun t => M.pure (.val t)
theorem denf (h : Den X W e m) : DenF X W e (hnd m) := by
  intro β x Q hs g
  refine ev_mono (h.thenF hs g) ?_
  rintro v H1 ⟨F1, ρ1, t, at_, _, g1⟩
  exact g1 _ _ _ (Nx.refl at_.st) at_.rep
/-! ### statements -/
def seqS (a b : S) : S := fun ρ => match a ρ with
  | .nx ρ => b ρ
  | r => r
theorem denb_nil : DenB X W [] (fun ρ => .nx ρ) := fun β x D hs g => bv_nil (g _ _ _ (Nx.refl hs))
theorem denb_cons {st : Stmt} {sts : List Stmt} {m n : S} (h : DenS X W st m) (h2 : DenB X W sts n) : DenB X W (st :: sts) (seqS m n) := by
  intro β x D hs g
  refine bv_cons (h β x _ hs ?_)
  unfold seqS at g
  cases q : m x.ρ with
  | nx ρ' =>
    rw [q] at g
    exact fun F' H' σ' n' => h2 β ⟨F', H', σ', ρ'⟩ D n'.1 (GoS.on n' g)
  | rt s ρ' => rw [q] at g; exact g
  | bk ρ' => rw [q] at g; exact g
  | ct ρ' => rw [q] at g; exact g
  | ex c u ρ' => rw [q] at g; exact g
  | bad => rw [q] at g; exact g
theorem denb_one {st : Stmt} {m : S} (h : DenS X W st m) : DenB X W [st] m := by
  intro β x D hs g
  refine bv_cons (h β x _ hs ?_)
  cases q : m x.ρ with
  | nx ρ' => rw [q] at g; exact fun F' H' σ' n' => bv_nil (g F' H' σ' n')
  | rt s ρ' => rw [q] at g; exact g
  | bk ρ' => rw [q] at g; exact g
  | ct ρ' => rw [q] at g; exact g
  | ex c u ρ' => rw [q] at g; exact g
  | bad => rw [q] at g; exact g
def retS (m : M Slot) : S := m.thenS fun s ρ => .rt s ρ
theorem dens_ret {m : M Slot} (h : DenF X W e m) : DenS X W (.Return (some e) pos) (retS m) := by
  intro β x D hs g
  refine sv_ret (h β x _ hs ?_)
  unfold retS M.thenS at g
  cases q : m x.ρ with
  | ok s ρ1 => rw [q] at g; exact fun F1 H1 v n r => g F1 H1 x.σ v n r
  | ex c u ρ1 => rw [q] at g; exact fun F' H' cls d n r => g F' H' x.σ cls d n r
  | bad => rw [q] at g; exact g
def ifS (t : M Bool) (a b : S) : S := t.thenS fun k => if k then a else b
theorem dens_if {as bs : List Stmt} {t : M Bool} {m n : S} (hc : DenT X W c t) (ha : DenB X W as m) (hb : DenB X W bs n) : DenS X W (.If c as bs pos) (ifS t m n) := by
  intro β x D hs g
  refine sv_if (tv_mono (hc.thenS hs g) ?_)
  rintro k H1 ⟨F1, ρ1, nn, _, g1⟩
  cases k
  · exact hb β ⟨F1, H1, x.σ, ρ1⟩ D nn.1 g1
  · exact ha β ⟨F1, H1, x.σ, ρ1⟩ D nn.1 g1
/-- an expression as a statement -/
def exS (m : M T) : S := m.thenS fun _ ρ => .nx ρ
theorem dens_ex (h : Den X W e m) (hsw : swapsWith e none pos.line X.env = pure false := by rfl) : DenS X W (.Expr e pos) (exS m) := by
  intro β x D hs g
  refine sv_expr (ev_mono (h.thenS hs g) ?_) hsw
  rintro v H1 ⟨F1, ρ1, t, at_, _, g1⟩
  exact g1 _ _ _ (Nx.refl at_.st)
/-- name = e -/
def setS (i : Nat) (m : M T) : S := m.thenS fun t ρ => .nx (ρ.set i (.val t))
theorem dens_set {n : Str} {pos' : Pos} (i : Nat) (hi : X.N[i]? = some n) (hN : X.N.Nodup) (hx : Loc X.env.scope n) (h : Den X W e m) (hsw : swapsWith e (some (.Name n pos')) pos.line X.env = pure false := by rfl)
    (hf : X.fn n = true ∨ X.env.scope.names.lookup n = some .local := by first | exact .inl rfl | exact .inr rfl | assumption) : DenS X W (.Assign [.Name n pos'] e pos) (setS i m) := by
  intro β x D hs g
  refine sv_set i hi hN hx (ev_mono (h.thenS hs g) ?_) hsw hf
  rintro v H1 ⟨F1, ρ1, t, at_, _, g1⟩
  exact g1 _ _ _ (Nx.setV (x := ⟨F1, H1, x.σ, ρ1⟩) at_.st at_.rep)
end
end Dv
/-! DD: stores, targets, loops, comprehensions. -/
namespace Dv
open PySem PySem.Spec PyProof.Rows L2 Hv
section
variable {X : Cx} {W : WX} {K : PySem.W.Frag} {β : Bc} {x y : Sx} {e a b c o : Expr} {es rest : List Expr} {Q : VK} {pos p : Pos} {ma mb : M Rdr} {m mc : M T}
/-- name = e, where e hands out a new object -/
def putSl (i : Nat) : Slot → S := fun s ρ => match s with
  | .val t => .nx (ρ.set i (.val t))
  | .own t => .nx (ρ.set i (.own t))
  | _ => .bad
theorem Nx.put {v : V} {s : Slot} {j : Nat} {ρ' : Env} (n : Nx K β x y) (r : SlR K x y v s) (e : putSl j s y.ρ = .nx ρ') : Nx K β x ⟨y.F, y.H, y.σ.set j (some v), ρ'⟩ := by
  cases s with
  | un => exact r.elim
  | bor t => exact r.elim
  | old t => exact r.elim
  | nl t => exact r.elim
  | val t => cases e; exact n.trans (Nx.setV n.1 r)
  | own t =>
    cases e
    obtain ⟨a, rfl, h1, h2, h3, h4⟩ := r
    obtain ⟨q1, q2⟩ := Nx.setO (j := j) n.1 h1 h2 h3
    refine ⟨q1, ⟨n.2.ext, n.2.keep, n.2.new, fun b w => ?_⟩⟩
    rcases q2 b w with w | w
    · exact n.2.wn b w
    · subst w; exact h4
def setF (i : Nat) (m : M Slot) : S := m.thenS (putSl i)
theorem dens_setF {n : Str} {pos' : Pos} {m : M Slot} (i : Nat) (hi : X.N[i]? = some n) (hN : X.N.Nodup) (hx : Loc X.env.scope n) (h : DenF X W e m) (hsw : swapsWith e (some (.Name n pos')) pos.line X.env = pure false := by rfl)
    (hf : X.fn n = true ∨ X.env.scope.names.lookup n = some .local := by first | exact .inl rfl | exact .inr rfl | assumption) : DenS X W (.Assign [.Name n pos'] e pos) (setF i m) := by
  intro β x D hs g
  refine sv_set i hi hN hx (h β x _ hs ?_) hsw hf
  unfold setF M.thenS at g
  cases q : m x.ρ with
  | ok s ρ1 =>
    rw [q] at g
    intro F1 H1 v n r
    cases q2 : putSl i s ρ1 with
    | nx ρ2 => simp only [q2] at g; exact g _ _ _ (Nx.put (y := ⟨F1, H1, x.σ, ρ1⟩) n r q2)
    | rt _ _ => cases s <;> cases q2
    | bk _ => cases s <;> cases q2
    | ct _ => cases s <;> cases q2
    | ex _ _ _ => cases s <;> cases q2
    | bad => simp only [q2] at g; exact g.elim
  | ex c u ρ1 => rw [q] at g; exact fun F' H' cls d n r => g F' H' x.σ cls d n r
  | bad => rw [q] at g; exact g
/-! ### targets -/
/-- a target: what it does to the slots with a value -/
def OffSl (sl : List Nat) (σ σ' : L2.St) : Prop := σ'.length = σ.length ∧ ∀ i, i ∉ sl → σ'[i]? = σ[i]?
theorem OffSl.set {σ : L2.St} {i : Nat} {o : Option V} : OffSl [i] σ (σ.set i o) := ⟨by simp, fun j hj => List.getElem?_set_ne (fun e => hj (by simp [e]))⟩
theorem OffSl.app {s t : List Nat} {σ σ' σ2 : L2.St} (a : OffSl s σ σ') (b : OffSl t σ' σ2) : OffSl (s ++ t) σ σ2 :=
  ⟨b.1.trans a.1, fun i hi => (b.2 i fun h => hi (List.mem_append_right _ h)).trans (a.2 i fun h => hi (List.mem_append_left _ h))⟩
def DenG (X : Cx) (tg : Expr) (sl : List Nat) (g : T → Env → Option Env) (gg : TG) : Prop := PG X tg gg ∧ (∀ x σ H Q Q', (∀ σ' H', Q σ' H' → Q' σ' H') → gg x σ H Q → gg x σ H Q') ∧
  ∀ β x v t ρ' (Q : L2.St → Hp → Prop), St X.K β x → Rep X.K x.F x.H v t → g t x.ρ = some ρ' → (∀ σ', OffSl sl x.σ σ' → Nx X.K β x ⟨x.F, x.H, σ', ρ'⟩ → Q σ' x.H) → gg v x.σ x.H Q
def DenGs (X : Cx) (tgs : List Expr) (sl : List Nat) (g : List T → Env → Option Env) (gg : TGs) : Prop := PGs X tgs gg ∧ (∀ x σ H Q Q', (∀ σ' H', Q σ' H' → Q' σ' H') → gg x σ H Q → gg x σ H Q') ∧
  ∀ β x vs ts ρ' (Q : L2.St → Hp → Prop), St X.K β x → Reps X.K x.F x.H vs ts → g ts x.ρ = some ρ' → (∀ σ', OffSl sl x.σ σ' → Nx X.K β x ⟨x.F, x.H, σ', ρ'⟩ → Q σ' x.H) → gg vs x.σ x.H Q
def tgN (i : Nat) (t : T) (ρ : Env) : Option Env := some (ρ.set i (.val t))
theorem deng_n {n : Str} (i : Nat) (h : PG X (.Name n pos) (gName i)) : DenG X (.Name n pos) [i] (tgN i) (gName i) := by
  refine ⟨h, gname_mono, fun β x v t ρ' Q hs r e q => ?_⟩
  cases e
  exact q _ .set (Nx.setV hs r)
def tgNil : List T → Env → Option Env
  | [], ρ => some ρ
  | _, _ => none
def tgCons (g : T → Env → Option Env) (h : List T → Env → Option Env) : List T → Env → Option Env
  | t :: ts, ρ => (g t ρ).bind (h ts)
  | [], _ => none
theorem dengs_nil : DenGs X [] [] tgNil gNil := by
  refine ⟨pgs_nil, fun _ _ _ _ _ im h => ⟨h.1, im _ _ h.2⟩, fun β x vs ts ρ' Q hs r e q => ?_⟩
  cases r with
  | nil => cases e; exact ⟨rfl, q _ ⟨rfl, fun _ _ => rfl⟩ (Nx.refl hs)⟩
  | cons _ _ => cases e
theorem dengs_cons {t : Expr} {ts : List Expr} {g : T → Env → Option Env} {h : List T → Env → Option Env} {gg : TG} {hh : TGs} {sl sm : List Nat} (d : DenG X t sl g gg) (ds : DenGs X ts sm h hh) (hs : (assignEach (t :: ts) X.env).map (·.2) = assign t X.env :: (assignEach ts X.env).map (·.2) := by rfl) : DenGs X (t :: ts) (sl ++ sm) (tgCons g h) (gCons gg hh) := by
  refine ⟨pgs_cons d.1 ds.1 hs, fun _ _ _ _ _ im ⟨v, r, e, q⟩ => ⟨v, r, e, d.2.1 _ _ _ _ _ (fun _ _ z => ds.2.1 _ _ _ _ _ im z) q⟩, fun β x vs us ρ' Q hs r e q => ?_⟩
  cases r with
  | nil => cases e
  | @cons v u vs us r rs =>
    simp only [tgCons, Option.bind_eq_some_iff] at e
    obtain ⟨ρ1, e1, e2⟩ := e
    exact ⟨v, vs, rfl, d.2.2 β x v u ρ1 _ hs r e1 fun σ1 o1 n1 => ds.2.2 β ⟨x.F, x.H, σ1, ρ1⟩ vs us ρ' _ n1.1 (n1.2.reps hs rs) e2 fun σ2 o2 n2 => q σ2 (o1.app o2) (n1.trans n2)⟩
def tgTup (h : List T → Env → Option Env) (n : Nat) : T → Env → Option Env
  | .tup ts, ρ => if ts.length = n then h ts ρ else none
  | _, _ => none
theorem deng_tup {ts : List Expr} {kk : Nat} {h : List T → Env → Option Env} {hh : TGs} {sl : List Nat} (d : DenGs X ts sl h hh) (n : Nat) (hp : PG X (.Tuple ts kk pos) (gTup X.K n hh)) : DenG X (.Tuple ts kk pos) sl (tgTup h n) (gTup X.K n hh) := by
  refine ⟨hp, fun _ _ _ _ _ im ⟨a, xs, h1, h2, h3, h4⟩ => ⟨a, xs, h1, h2, h3, d.2.1 _ _ _ _ _ im h4⟩, fun β x v t ρ' Q hs r e q => ?_⟩
  cases t <;> simp only [tgTup] at e <;> first | cases e | skip
  rename_i ts
  by_cases hl : ts.length = n
  · rw [if_pos hl] at e
    obtain ⟨a, vs, rfl, ha, rs⟩ := RepP.tup (.inl r)
    exact ⟨a, vs, rfl, .of ha, rs.len.trans hl, d.2.2 β x vs ts ρ' Q hs rs e q⟩
  · rw [if_neg hl] at e
    cases e
theorem deng_tupC {ts : List Expr} {kk : Nat} {h : List T → Env → Option Env} {hh : TGs} {sl : List Nat} (hc : X.calm = true) (d : DenGs X ts sl h hh) (n : Nat)
    (hn : (assignEach ts X.env).length = n := by rfl) (hst : (assignEach ts X.env).findIdx? (·.1) = none := by rfl) : DenG X (.Tuple ts kk pos) sl (tgTup h n) (gTup X.K n hh) := deng_tup d n (pg_tup hc d.1 hn hst)
/-- a statement that unpacks -/
def asgS (m : M T) (g : T → Env → Option Env) : S := m.thenS fun t ρ => match g t ρ with
  | some ρ => .nx ρ
  | none => .bad
theorem dens_asg {tg : Expr} {g : T → Env → Option Env} {gg : TG} {sl : List Nat} (h : Den X W e m) (d : DenG X tg sl g gg) (hs1 : swapsWithSole [tg] e pos.line X.env = pure false := by rfl) (hw : swappedStores [tg] e X.env = pure none := by rfl) (ha : (assignEach [tg] X.env).map (·.2) = [assign tg X.env] := by rfl) :
    DenS X W (.Assign [tg] e pos) (asgS m g) := by
  intro β x D hs gs
  refine ⟨_, ps_asg pe_ev d.1 hs1 hw ha, ?_⟩
  refine ev_mono (h.thenS hs gs) ?_
  rintro v H1 ⟨F1, ρ1, t, at_, _, g1⟩
  cases q : g t ρ1 with
  | none => simp only [q] at g1; exact g1.elim
  | some ρ2 =>
    simp only [q] at g1
    exact d.2.2 β ⟨F1, H1, x.σ, ρ1⟩ v t ρ2 _ at_.st at_.rep q fun σ' _ n => g1 _ _ _ n
/-- a, b = e1, e2 -/
def parS (i j : Nat) (m n : M T) : S := m.thenS fun s => n.thenS fun t ρ => .nx ((ρ.set i (.val s)).set j (.val t))
theorem dens_par {n1 n2 : Str} {px py pt pt2 : Pos} {kt k2 : Nat} {n : M T} (i j : Nat) (hc : X.calm = true) (hN : X.N.Nodup) (hi : X.N[i]? = some n1) (hj : X.N[j]? = some n2) (hij : i ≠ j)
    (lx : X.env.scope.names.lookup n1 = some .local) (ly : X.env.scope.names.lookup n2 = some .local) (ha : Den X W a m) (hb : Den X W b n)
    (hw : swappedStores [.Tuple [.Name n1 px, .Name n2 py] kt pt] (.Tuple [a, b] k2 pt2) X.env = pure (some [n1, n2]) := by rfl)
    (hsw : swapsWithSole [.Tuple [.Name n1 px, .Name n2 py] kt pt] (.Tuple [a, b] k2 pt2) pos.line X.env = pure false := by rfl)
    (he : starEach [a, b] X.env = (false, eval a X.env) :: starEach [b] X.env := by rfl) (he2 : starEach [b] X.env = (false, eval b X.env) :: starEach [] X.env := by rfl) :
    DenS X W (.Assign [.Tuple [.Name n1 px, .Name n2 py] kt pt] (.Tuple [a, b] k2 pt2) pos) (parS i j m n) := by
  intro β x D hs g
  refine sv_par i j hc hN hi hj hij lx ly (av_cons (ev_mono (ha.thenS hs g) ?_) he) hw hsw
  rintro v H1 ⟨F1, ρ1, s, at1, _, g1⟩
  refine av_cons (ev_mono (hb.thenS (x := ⟨F1, H1, x.σ, ρ1⟩) at1.st g1) ?_) he2
  rintro w H2 ⟨F2, ρ2, t, at2, _, g2⟩
  have q1 := Nx.setV (x := ⟨F2, H2, x.σ, ρ2⟩) (j := i) at2.st (at2.nx.2.rep at1.st at1.rep)
  have q2 := q1.trans (Nx.setV (x := ⟨F2, H2, x.σ.set i (some v), ρ2.set i (.val s)⟩) (j := j) q1.1 at2.rep)
  have fin : D.nx ((x.σ.set i (some v)).set j (some w)) H2 := g2 _ _ _ q2
  exact av_nil ⟨v, w, rfl, fin⟩
/-! ### loops -/
def loopS (g : T → Env → Option Env) (b : S) : List T → S
  | [], ρ => .nx ρ
  | t :: ts, ρ => match g t ρ with
    | none => .bad
    | some ρ1 => match b ρ1 with
      | .nx ρ2 => loopS g b ts ρ2
      | .ct ρ2 => loopS g b ts ρ2
      | .bk ρ2 => .nx ρ2
      | r => r
def forS (m : M (List T)) (g : T → Env → Option Env) (b : S) : S := m.thenS (loopS g b)
/-- what is walked: items by a walk that stands while what is frozen stands -/
structure ItOk (K : PySem.W.Frag) (β : Bc) (x1 : Sx) (J : It) (ts : List T) : Prop where
  ex : ∃ G Y, Walk J ts.length G Y ∧ (∀ z, Nx K β x1 z → G z.H) ∧ ∀ i z v H2, i < ts.length → Nx K β x1 z → Y i z.H v H2 → ∃ F2 t, ts[i]? = some t ∧ Nx K β z ⟨F2, H2, z.σ, z.ρ⟩ ∧ Rep K F2 H2 v t
def GoI (K : PySem.W.Frag) (β : Bc) (W : WX) (x : Sx) (r : R (List T)) (Rr : It → Hp → Prop) : Prop := match r with
  | .ok ts ρ' => ∀ F' H' J, Nx K β x ⟨F', H', x.σ, ρ'⟩ → ItOk K β ⟨F', H', x.σ, ρ'⟩ J ts → Rr J H'
  | .ex c u ρ' => GoX K β W x x.σ c u ρ'
  | .bad => False
def DenI (X : Cx) (W : WX) (tg iter : Expr) (m : M (List T)) : Prop := ∃ wi : TI, PI X tg iter wi ∧ (∀ σ H R R', (∀ J H', R J H' → R' J H') → wi σ H R → wi σ H R') ∧
  ∀ β x R, St X.K β x → GoI X.K β W x (m x.ρ) R → wi x.σ x.H R
theorem dens_for {tg iter : Expr} {body : List Stmt} {mi : M (List T)} {g : T → Env → Option Env} {gg : TG} {sl : List Nat} {mb : S} (hp : PassesOwn (model X.prog X.w) X.A X.env X.xe) (hc : X.calm = true) (hi : DenI X W tg iter mi) (hg : DenG X tg sl g gg) (hb : DenB X W body mb)
    (hs : ∀ x, foldedSetIterable iter X.env x = pure x := by intro _; rfl) : DenS X W (.For tg iter body [] pos) (forS mi g mb) := by
  intro β x D st gs
  obtain ⟨wi, hpi, wm, hw⟩ := hi
  refine sv_for hp hc hpi hg.1 hg.2.1 wm hs (hw β x _ st ?_)
  unfold forS M.thenS at gs
  cases q : mi x.ρ with
  | ex c u ρ1 => rw [q] at gs; exact fun F' H' cls d n r => gs F' H' x.σ cls d n r
  | bad => rw [q] at gs; exact gs
  | ok ts ρ1 =>
    rw [q] at gs
    rintro F1 H1 J n1 ⟨G, Y, w, hG, hY⟩
    refine ⟨ts.length, Y, G, w, fun i σ H => ∃ F ρ, Nx X.K β ⟨F1, H1, x.σ, ρ1⟩ ⟨F, H, σ, ρ⟩ ∧ GoS X.K β W ⟨F, H, σ, ρ⟩ D (loopS g mb (ts.drop i) ρ), ⟨F1, ρ1, Nx.refl n1.1, GoS.on n1 gs⟩, fun i σ H ⟨F, ρ, n, _⟩ => hG _ n, ?_, ?_⟩
    · rintro i v σ H H2 hi ⟨F, ρ, n, gl⟩ hy
      obtain ⟨F2, t, et, n2, r⟩ := hY i ⟨F, H, σ, ρ⟩ v H2 hi n hy
      have ed : ts.drop i = t :: ts.drop (i + 1) := by
        rw [List.drop_eq_getElem_cons hi]
        congr 1
        rw [List.getElem?_eq_getElem hi] at et
        exact Option.some.inj et
      rw [ed] at gl
      have gl2 := GoS.on n2 gl
      unfold loopS at gl2
      cases q2 : g t ρ with
      | none => simp only [q2] at gl2; exact gl2.elim
      | some ρ3 =>
        simp only [q2] at gl2
        refine hg.2.2 β ⟨F2, H2, σ, ρ⟩ v t ρ3 _ n2.1 r q2 fun σ3 _ n3 => ?_
        refine hb β ⟨F2, H2, σ3, ρ3⟩ _ n3.1 ?_
        have gl3 := GoS.on n3 gl2
        cases q4 : mb ρ3 with
        | nx ρ4 =>
          simp only [q4] at gl3
          exact fun F' H' σ' n' => ⟨F', ρ4, ((n.trans n2).trans n3).trans n', GoS.on n' gl3⟩
        | ct ρ4 =>
          simp only [q4] at gl3
          exact fun F' H' σ' n' => ⟨F', ρ4, ((n.trans n2).trans n3).trans n', GoS.on n' gl3⟩
        | bk ρ4 =>
          simp only [q4] at gl3
          exact fun F' H' σ' n' => gl3 F' H' σ' n'
        | rt s ρ4 => simp only [q4] at gl3; exact gl3
        | ex c u ρ4 => simp only [q4] at gl3; exact gl3
        | bad => simp only [q4] at gl3; exact gl3
    · rintro σ H ⟨F, ρ, n, gl⟩
      rw [List.drop_length] at gl
      exact gl _ _ _ (Nx.refl n.1)
/-- while, as many turns as there is fuel -/
def whileN (c : M Bool) (b : S) : Nat → S
  | 0, _ => .bad
  | k + 1, ρ => match c ρ with
    | .ok true ρ1 => match b ρ1 with
      | .nx ρ2 => whileN c b k ρ2
      | .ct ρ2 => whileN c b k ρ2
      | .bk ρ2 => .nx ρ2
      | r => r
    | .ok false ρ1 => .nx ρ1
    | .ex c v ρ1 => .ex c v ρ1
    | .bad => .bad
theorem dens_while {body : List Stmt} {mc : M Bool} {mb : S} {k : Nat} (hp : PassesOwn (model X.prog X.w) X.A X.env X.xe) (hc : DenT X W c mc) (hb : DenB X W body mb) : DenS X W (.While c body [] pos) (whileN mc mb k) := by
  intro β x D st gs
  refine ⟨_, ps_while hp ⟨fun pins s σ H Q I (h : ∃ R : Bool → Hp → Prop, TV X c σ H R ∧ ∀ b H1, R b H1 → Q b H1) => ?_⟩ pss_bv, fun m σ H => ∃ F ρ, Nx X.K β x ⟨F, H, σ, ρ⟩ ∧ GoS X.K β W ⟨F, H, σ, ρ⟩ D (whileN mc mb m ρ), ⟨k, x.F, x.ρ, Nx.refl st, gs⟩, ?_⟩
  · obtain ⟨R, h, im⟩ := h
    exact thn (pt_tv.run pins s σ H R I h) fun b s1 ⟨H1, I1, q1⟩ => ⟨H1, I1, im b H1 q1⟩
  · rintro m σ H ⟨F, ρ, n, g⟩
    cases m with
    | zero => exact g.elim
    | succ m =>
      refine ⟨_, hc β ⟨F, H, σ, ρ⟩ (fun b H1 => if b = true then ∃ N : L2.St → Hp → Prop, (∀ σ' H', N σ' H' → ∃ m', m' < m + 1 ∧ ∃ F ρ, Nx X.K β x ⟨F, H', σ', ρ⟩ ∧ GoS X.K β W ⟨F, H', σ', ρ⟩ D (whileN mc mb m' ρ)) ∧ BV X body { D with nx := N, ct := N, bk := D.nx } σ H1 else D.nx σ H1) n.1 ?_, fun _ _ z => z⟩
      unfold whileN at g
      show GoT _ _ _ _ (mc ρ) _
      cases q : mc ρ with
      | ok b ρ1 =>
        rw [q] at g
        intro F1 H1 n1
        cases b with
        | false =>
          rw [if_neg (by decide)]
          exact g _ _ _ n1
        | true =>
          rw [if_pos rfl]
          refine ⟨fun σ' H' => ∃ F ρ, Nx X.K β x ⟨F, H', σ', ρ⟩ ∧ GoS X.K β W ⟨F, H', σ', ρ⟩ D (whileN mc mb m ρ), fun σ' H' h => ⟨m, Nat.lt_succ_self _, h⟩, ?_⟩
          refine hb β ⟨F1, H1, σ, ρ1⟩ _ n1.1 ?_
          have g2 := GoS.on n1 g
          show GoS _ _ _ _ _ (mb ρ1)
          cases q4 : mb ρ1 with
          | nx ρ4 =>
            simp only [q4] at g2
            exact fun F' H' σ' n' => ⟨F', ρ4, (n.trans n1).trans n', GoS.on n' g2⟩
          | ct ρ4 =>
            simp only [q4] at g2
            exact fun F' H' σ' n' => ⟨F', ρ4, (n.trans n1).trans n', GoS.on n' g2⟩
          | bk ρ4 =>
            simp only [q4] at g2
            exact fun F' H' σ' n' => g2 F' H' σ' n'
          | rt s ρ4 => simp only [q4] at g2; exact g2
          | ex c u ρ4 => simp only [q4] at g2; exact g2
          | bad => simp only [q4] at g2; exact g2
      | ex c u ρ1 => rw [q] at g; exact fun F' H' cls d n r => g F' H' σ cls d n r
      | bad => rw [q] at g; exact g.elim
@[irreducible] def FUEL : Nat := 2 ^ 100000
theorem lt_fuel {k b : Nat} (h : k < 2 ^ b) (hb : b ≤ 100000) : k < FUEL := by
  unfold FUEL
  exact Nat.lt_of_lt_of_le h (Nat.pow_le_pow_right (by decide) hb)
/-! ### what is walked -/
def strTs (z : Str) : List T := z.cps.toList.map fun c => .str ⟨#[c]⟩
/-- a key as a value -/
def tK : Key → T
  | .inl i => .int i
  | .inr z => .str z
theorem rep_kV {K : PySem.W.Frag} {F : Addr → Prop} {H : Hp} (k : Key) : Rep K F H (kV k) (tK k) := by
  cases k
  · exact .int _
  · exact .str _
def itemsT : T → Option (List T)
  | .str z => some (strTs z)
  | .dic kts => some (kts.map fun p => tK p.1)
  | t => seqT t
theorem itok_list {ts : List T} {a : Addr} {vs : List V} (hs : St K β x) (hq : ∀ z, Nx K β x z → SqL K z.H a vs) (rs : Reps K x.F x.H vs ts) : ItOk K β x (Itl K a) ts := by
  refine ⟨fun H => SqL K H a vs, YAt vs, rs.len ▸ walk_list, hq, fun i z v H2 hi n hy => ?_⟩
  obtain ⟨e1, e2⟩ := hy
  subst e1
  obtain ⟨t, et, r⟩ := rs.getV e2
  exact ⟨z.F, t, et, Nx.refl n.1, n.2.rep hs r⟩
theorem itok_tup {ts : List T} {a : Addr} {vs : List V} (hs : St K β x) (hq : ∀ z, Nx K β x z → SqT K z.H a vs) (rs : Reps K x.F x.H vs ts) : ItOk K β x (Itt K a) ts := by
  refine ⟨fun H => SqT K H a vs, YAt vs, rs.len ▸ walk_tup, hq, fun i z v H2 hi n hy => ?_⟩
  obtain ⟨e1, e2⟩ := hy
  subst e1
  obtain ⟨t, et, r⟩ := rs.getV e2
  exact ⟨z.F, t, et, Nx.refl n.1, n.2.rep hs r⟩
/-- frozen lists and tuples stand -/
theorem Rep.seqStay {v : V} {t : T} {ts : List T} (hs : St K β x) (r : Rep K x.F x.H v t) (e : seqT t = some ts) :
    ∃ a vs, v = .ref a ∧ Reps K x.F x.H vs ts ∧ ((∀ z, Nx K β x z → SqL K z.H a vs) ∨ ∀ z, Nx K β x z → SqT K z.H a vs) := by
  cases r with
  | @obj a t f h =>
    have k : ∀ o, x.H a = some o → ∀ z, Nx K β x z → z.H a = some o := fun o e z n => n.2.fk hs a o f e
    cases h with
    | tup h r => cases e; exact ⟨_, _, rfl, r, .inr fun z n => .of (k _ h z n)⟩
    | lst h r => cases e; exact ⟨_, _, rfl, r, .inl fun z n => .of (k _ h z n)⟩
    | scr h r => cases e; exact ⟨_, _, rfl, r, .inl fun z n => .inl (Rd.mono h fun o e => k o e z n)⟩
    | dic _ _ _ => cases e
    | rat _ _ _ => cases e
    | ins _ _ _ => cases e
    | exc _ _ _ _ => cases e
  | wl h r => cases e; exact ⟨_, _, rfl, r, .inl fun z n => h _⟩
  | wt h r => cases e; exact ⟨_, _, rfl, r, .inr fun z n => h _⟩
  | _ => cases e
def itA (m : M T) : M (List T) := m.bind fun t => lift (itemsT t)
def iAny (K : PySem.W.Frag) (tl : TE) : TI := fun σ H R => tl σ H fun x H1 => (∃ a, x = .ref a ∧ (∃ xs, SqL K H1 a xs) ∧ R (Itl K a) H1) ∨ (∃ a, x = .ref a ∧ (∃ xs, SqT K H1 a xs) ∧ R (Itt K a) H1) ∨ (∃ z, x = .str z ∧ R (Its z) H1) ∨ ∃ d o kvs, x = .ref d ∧ H1 d = some (.frz o (.dK kvs)) ∧ R (Itk d o kvs) H1
theorem pi_any {tg l : Expr} {tl : TE} (hl : PE X l tl) : PI X tg l (iAny X.K tl) := by
  refine ⟨fun pins s σ H R I h => ?_⟩
  refine thn (hl.run pins s σ H _ I h) fun v s1 ⟨x, H1, I1, r1, q1⟩ => ?_
  rcases q1 with ⟨a, e, ⟨xs, hq⟩, q⟩ | ⟨a, e, ⟨xs, hq⟩, q⟩ | ⟨y, e, q⟩ | ⟨d, o, kvs, e, hd, q⟩
  · subst e
    cases r1
    obtain ⟨its, rv, p, hz⟩ := I1.list hq
    refine wpAny_pyIter_list p.isList ?_
    refine ⟨s1.heap.objs.size, [s1.heap.objs.size], _, _, H1, rfl, I1.kept (t' := s1.toks) fun b o e => Heap.get?_push_of_some _ e, turn_list a _, ⟨_, Heap.get?_push_size _ rfl, rfl, rfl⟩, fun b hb => ?_, q⟩
    have e : b = s1.heap.objs.size := by simpa using hb
    subst e
    exact I1.fpOk (Nat.le_refl _) (I1.hok.fresh (Nat.le_refl _))
  · subst e
    cases r1
    obtain ⟨its, rv, p, hz⟩ := I1.tuple hq
    refine wpAny_pyIter_tuple (show s1.heap.IsTuple a its.toArray from p) ?_
    refine ⟨s1.heap.objs.size, [s1.heap.objs.size], _, _, H1, rfl, I1.kept (t' := s1.toks) fun b o e => Heap.get?_push_of_some _ e, turn_tuple a _, ⟨_, Heap.get?_push_size _ rfl, rfl, rfl⟩, fun b hb => ?_, q⟩
    have e : b = s1.heap.objs.size := by simpa using hb
    subst e
    exact I1.fpOk (Nat.le_refl _) (I1.hok.fresh (Nat.le_refl _))
  · subst e
    obtain ⟨t, rfl⟩ := r1
    cases ha : y.cps.all (· < 128)
    · exact wpAny_pyIter_wide ha (pi_one (tk := s1.toks) I1 _ (turn_str _ y t "str_iterator" (.inr rfl)) ⟨_, Heap.get?_push_size _ rfl, rfl, rfl⟩ q)
    · exact wpAny_pyIter_ascii ha (pi_one (tk := s1.toks) I1 _ (turn_str _ y t "str_ascii_iterator" (.inl rfl)) ⟨_, Heap.get?_push_size _ rfl, rfl, rfl⟩ q)
  · subst e
    cases r1
    obtain ⟨hs, hgd, hx, es, ep, vs, hdt, hsz, kv, hm⟩ := I1.frzK hd
    refine iter_keys hs hgd hx hdt (pi_one (tk := s1.toks) I1 _ (turn_keys (kvs := kvs) _ hdt) ?_ q)
    exact ⟨_, Heap.get?_push_size _ rfl, rfl, by rw [hsz] <;> rfl⟩
theorem itok_keys {kts : List (Key × T)} {d : Addr} {o : Obj} {kvs : List (Key × V)} (hs : St K β x) (hF : x.F d) (hd : x.H d = some (.frz o (.dK kvs))) (l : kvs.map (·.1) = kts.map (·.1)) : ItOk K β x (Itk d o kvs) (kts.map fun p => tK p.1) := by
  have hl : kvs.length = kts.length := by have := congrArg List.length l; rwa [List.length_map, List.length_map] at this
  refine ⟨fun H => H d = some (.frz o (.dK kvs)), fun i H x H' => H' = H ∧ ∃ k v, kvs[i]? = some (k, v) ∧ x = kV k, by rw [List.length_map, ← hl]; exact walk_keys, fun z n => n.2.fk hs d _ hF hd, fun i z v H2 hi n ⟨e, k, w, e1, e2⟩ => ?_⟩
  subst e e2
  refine ⟨z.F, tK k, ?_, Nx.refl n.1, rep_kV k⟩
  have : (kvs.map (·.1))[i]? = some k := by rw [List.getElem?_map, e1]; rfl
  rw [l, List.getElem?_map] at this
  obtain ⟨p, e3, e4⟩ := Option.map_eq_some_iff.mp this
  rw [List.getElem?_map, e3, ← e4]
  rfl
/-- the walk over new pairs -/
theorem itok_pairs {J : It} {n : Nat} {G : Hp → Prop} {fx fy : Nat → Option V} {ts : List T} (hs : St K β x) (w : Walk J n G (YPair fx fy)) (hn : ts.length = n) (hG : ∀ z, Nx K β x z → G z.H)
    (h : ∀ i u v, i < n → fx i = some u → fy i = some v → ∃ s t, ts[i]? = some (.tup [s, t]) ∧ Rep K x.F x.H u s ∧ Rep K x.F x.H v t) : ItOk K β x J ts := by
  refine ⟨G, _, hn ▸ w, hG, fun i z v H2 hi nz ⟨D, u, v', e1, e2, e3, e4, e5⟩ => ?_⟩
  obtain ⟨s, t, e6, r1, r2⟩ := h i u v' (hn ▸ hi) e4 e5
  subst e1 e3
  have n1 := Nx.laid (o := .tup [u, v']) nz.1 e2
  exact ⟨_, _, e6, n1, .obj (.inr rfl) (.tup upd_same (.cons (n1.2.rep nz.1 (nz.2.rep hs r1)) (.cons (n1.2.rep nz.1 (nz.2.rep hs r2)) .nil)))⟩
theorem strTs_get {z : Str} {i : Nat} {c : Nat} (h : z.cps[i]? = some c) : (strTs z)[i]? = some (.str ⟨#[c]⟩) := by
  unfold strTs
  rw [List.getElem?_map, Array.getElem?_toList, h]
  rfl
theorem itok_str {z : Str} (hs : St K β x) : ItOk K β x (Its z) (strTs z) := by
  refine ⟨fun _ => True, fun i H v H' => H' = H ∧ ∃ c, z.cps[i]? = some c ∧ v = .str ⟨#[c]⟩, ?_, fun _ _ => trivial, fun i y v H2 hi n ⟨e, c, e2, e3⟩ => ?_⟩
  · have : (strTs z).length = z.cps.size := by simp [strTs]
    rw [this]
    exact walk_str
  · subst e e3
    exact ⟨y.F, _, strTs_get e2, Nx.refl n.1, .str _⟩
/-- for x in e, e a list, a tuple, a text -/
theorem deni {tg iter : Expr} (h : Den X W iter m) : DenI X W tg iter (itA m) := by
  refine ⟨iAny X.K (EV X iter), pi_any pe_ev, fun σ H R R' im h => ev_mono h fun v H1 h => ?_, fun β x R hs g => ?_⟩
  · exact h.imp (fun ⟨a, h1, h2, h3⟩ => ⟨a, h1, h2, im _ _ h3⟩) fun h => h.imp (fun ⟨a, h1, h2, h3⟩ => ⟨a, h1, h2, im _ _ h3⟩) fun h => h.imp (fun ⟨z, h1, h2⟩ => ⟨z, h1, im _ _ h2⟩) fun ⟨d, o, kvs, h1, h2, h3⟩ => ⟨d, o, kvs, h1, h2, im _ _ h3⟩
  · refine h β x _ hs ?_
    unfold itA M.bind at g
    cases q : m x.ρ with
    | ex c u ρ1 => rw [q] at g; exact g
    | bad => rw [q] at g; exact g
    | ok t ρ1 =>
      rw [q] at g
      intro F1 H1 v n r
      cases q2 : itemsT t with
      | none => simp only [Dv.R.bind, q2, lift] at g; exact g.elim
      | some ts =>
        simp only [Dv.R.bind, q2, lift] at g
        cases t with
        | str z =>
          cases q2
          cases RepP.str (.inl r)
          exact .inr (.inr (.inl ⟨z, rfl, g _ _ _ n (itok_str n.1)⟩))
        | dic kts =>
          cases q2
          cases r with
          | obj f h =>
            cases h with
            | dic h l rs => exact .inr (.inr (.inr ⟨_, _, _, rfl, h, g _ _ _ n (itok_keys n.1 f h l)⟩))
        | _ =>
          obtain ⟨a, vs, rfl, rs, st⟩ := Rep.seqStay (x := ⟨F1, H1, x.σ, ρ1⟩) n.1 r q2
          rcases st with st | st
          · exact .inl ⟨a, rfl, ⟨vs, st _ (Nx.refl n.1)⟩, g _ _ _ n (itok_list n.1 st rs)⟩
          · exact .inr (.inl ⟨a, rfl, ⟨vs, st _ (Nx.refl n.1)⟩, g _ _ _ n (itok_tup n.1 st rs)⟩)
def rngT (lo : Int) (n : Nat) : List T := (List.range n).map fun i => .int (lo + (i : Nat))
theorem rngT_get {lo : Int} {n i : Nat} (h : i < n) : (rngT lo n)[i]? = some (.int (lo + (i : Nat))) := by
  unfold rngT
  rw [List.getElem?_map, List.getElem?_range h]
  rfl
theorem itok_rng {lo : Int} {n : Nat} (hs : St K β x) : ItOk K β x (Itr lo n) (rngT lo n) := by
  refine ⟨fun _ => True, YFn fun i => .int (lo + i), ?_, fun _ _ => trivial, fun i y v H2 hi n ⟨e, e2⟩ => ?_⟩
  · have : (rngT lo n).length = n := by simp [rngT]
    rw [this]
    exact walk_range
  · subst e e2
    exact ⟨y.F, _, rngT_get (by simpa [rngT] using hi), Nx.refl n.1, .int _⟩
def rng1 (m : M T) : M (List T) := m.bind fun t => lift (match t with
  | .int j => if -(2 ^ 62) ≤ j ∧ j < 2 ^ 62 then some (rngT 0 j.toNat) else none
  | _ => none)
theorem Den.thenI {tg : Expr} {f : T → M (List T)} {Rr : It → Hp → Prop} (h : Den X W e m) (hs : St X.K β x) (g : GoI X.K β W x (M.bind m f x.ρ) Rr) :
    EV X e x.σ x.H fun v H1 => ∃ F1 ρ1 t, At X.K β x F1 H1 ρ1 v t ∧ m x.ρ = .ok t ρ1 ∧ GoI X.K β W ⟨F1, H1, x.σ, ρ1⟩ (f t ρ1) Rr := by
  refine h β x _ hs ?_
  unfold M.bind at g
  cases q : m x.ρ with
  | ok t ρ1 =>
    rw [q] at g
    intro F' H' v n rp
    refine ⟨F', ρ1, t, ⟨n, rp⟩, rfl, ?_⟩
    simp only [Dv.R.bind] at g
    cases q2 : f t ρ1 with
    | ok ts ρ2 => rw [q2] at g; exact fun F2 H2 J n2 i => g F2 H2 J (n.trans n2) i
    | ex c u ρ2 => rw [q2] at g; exact GoX.on n g
    | bad => rw [q2] at g; exact g
  | ex c u ρ1 => rw [q] at g; exact g
  | bad => rw [q] at g; exact g
theorem deni_rng1 {tg : Expr} {p2 : Pos} (B : Blt X.mg) (h : Den X W e m) (hg : Gl X "range" := by rfl) (hst : starEach [e] X.env = [(false, eval e X.env)] := by rfl) : DenI X W tg (.Call (.Name "range" p) [e] [] p2) (rng1 m) := by
  refine ⟨_, pi_range1 hg (B.at_ 12) pa_av hst, fun σ H R R' im h => av_mono h fun v H' ⟨a, h1, h2, h3, h4⟩ => ⟨a, h1, h2, h3, im _ _ h4⟩, fun β x R hs g => ?_⟩
  refine av_cons (ev_mono (h.thenI (tg := tg) hs g) ?_) hst
  rintro v H1 ⟨F1, ρ1, t, at_, _, g1⟩
  cases t <;> first | exact g1.elim | skip
  rename_i j _
  cases RepP.int (.inl at_.rep)
  by_cases hj : -(2 ^ 62) ≤ j ∧ j < 2 ^ 62
  · simp only [if_pos hj] at g1
    exact av_nil ⟨j, rfl, hj.1, hj.2, g1 _ _ _ (Nx.refl at_.st) (itok_rng at_.st)⟩
  · simp only [if_neg hj] at g1
    exact g1.elim
def rng2 (m n : M T) : M (List T) := m.bind fun s => n.bind fun t => lift (match s, t with
  | .int i, .int j => if -(2 ^ 62) ≤ i ∧ i < 2 ^ 62 ∧ -(2 ^ 62) ≤ j ∧ j < 2 ^ 62 then some (rngT i (j - i).toNat) else none
  | _, _ => none)
theorem deni_rng2 {tg : Expr} {p2 : Pos} {n : M T} (B : Blt X.mg) (ha : Den X W a m) (hb : Den X W b n) (hg : Gl X "range" := by rfl) (hst : starEach [a, b] X.env = [(false, eval a X.env), (false, eval b X.env)] := by rfl) (hs2 : starEach [b] X.env = [(false, eval b X.env)] := by rfl) :
    DenI X W tg (.Call (.Name "range" p) [a, b] [] p2) (rng2 m n) := by
  refine ⟨_, pi_range2 hg (B.at_ 12) pa_av hst hs2, fun σ H R R' im h => av_mono h fun v H' ⟨a, b, h1, h2, h4⟩ => ⟨a, b, h1, h2, im _ _ h4⟩, fun β x R hs g => ?_⟩
  refine av_cons (ev_mono (ha.thenI (tg := tg) hs g) ?_) (hst.trans (by rw [hs2]))
  rintro v H1 ⟨F1, ρ1, s, at1, _, g1⟩
  refine av_cons (ev_mono (hb.thenI (tg := tg) (x := ⟨F1, H1, x.σ, ρ1⟩) at1.st g1) ?_) hs2
  rintro w H2 ⟨F2, ρ2, t, at2, _, g2⟩
  cases s <;> first | exact g2.elim | skip
  cases t <;> first | exact g2.elim | skip
  rename_i i _ j _
  cases RepP.int (.inl at1.rep)
  cases RepP.int (.inl at2.rep)
  by_cases hj : -(2 ^ 62) ≤ i ∧ i < 2 ^ 62 ∧ -(2 ^ 62) ≤ j ∧ j < 2 ^ 62
  · simp only [if_pos hj] at g2
    exact av_nil ⟨i, j, rfl, hj, g2 _ _ _ (Nx.refl at2.st) (itok_rng at2.st)⟩
  · simp only [if_neg hj] at g2
    exact g2.elim
/-! ### d.items(), zip, enumerate -/
def pairsT (kts : List (Key × T)) : List T := kts.map fun p => .tup [tK p.1, p.2]
def itemsM (m : M T) : M (List T) := m.bind fun t => lift (match t with
  | .dic kts => some (pairsT kts)
  | _ => none)
theorem deni_items {elts : List Expr} {kk : Nat} {tp ap cp : Pos} (h : Den X W e m) (hbase : attributeBase e "items" X.env (eval e X.env) = eval e X.env := by rfl) (hline : (ap.endLine == cp.line) = true := by rfl) :
    DenI X W (.Tuple elts kk tp) (.Call (.Attribute e "items" ap) [] [] cp) (itemsM m) := by
  refine ⟨_, pi_items pe_ev hbase hline, fun σ H R R' im h => ev_mono h fun v H1 ⟨d, o, kvs, h1, h2, h3⟩ => ⟨d, o, kvs, h1, h2, im _ _ h3⟩, fun β x R hs g => ?_⟩
  refine ev_mono (h.thenI (tg := .Tuple elts kk tp) hs g) ?_
  rintro v H1 ⟨F1, ρ1, t, at_, _, g1⟩
  cases t <;> first | exact g1.elim | skip
  rename_i kts _
  cases at_.rep with
  | obj f h =>
    cases h with
    | @dic _ ob kvs _ h l rs =>
      have hl : kvs.length = kts.length := by have := congrArg List.length l; rwa [List.length_map, List.length_map] at this
      refine ⟨_, _, _, rfl, h, g1 _ _ _ (Nx.refl at_.st) (itok_pairs (ts := pairsT kts) at_.st walk_items (by simp [pairsT, hl]) (fun z n => n.2.fk at_.st _ _ f h) fun i u w hi e1 e2 => ?_)⟩
      obtain ⟨p, e3, e4⟩ := Option.map_eq_some_iff.mp e1
      rw [e3] at e2
      have e5 : p.2 = w := by simpa using e2
      have k1 : (kvs.map (·.1))[i]? = some p.1 := by rw [List.getElem?_map, e3]; rfl
      rw [l, List.getElem?_map] at k1
      obtain ⟨q, e6, e7⟩ := Option.map_eq_some_iff.mp k1
      obtain ⟨t, e8, r⟩ := rs.getV (i := i) (v := p.2) (by rw [List.getElem?_map, e3]; rfl)
      rw [List.getElem?_map, e6] at e8
      have e8 : q.2 = t := by simpa using e8
      refine ⟨tK q.1, q.2, by simp [pairsT, e6], ?_, ?_⟩
      · rw [← e4, ← e7]; exact rep_kV _
      · rw [← e5, e8]; exact r
def zipT (ss ts : List T) : List T := (ss.zip ts).map fun p => .tup [p.1, p.2]
def zipP : T → T → Option (List T)
  | .lst ss, .lst ts => some (zipT ss ts)
  | .tup ss, .tup ts => some (zipT ss ts)
  | _, _ => none
def zipM (m n : M T) : M (List T) := m.bind fun s => n.bind fun t => lift (zipP s t)
theorem walk_zipT {K : PySem.W.Frag} {a b : Addr} {xs ys : List V} {n : Nat} (hn : n = min xs.length ys.length) : Walk (RZ.ItzT K a b) n (fun H => SqT K H a xs ∧ SqT K H b ys) (YPair (fun i => xs[i]?) (fun i => ys[i]?)) := by
  subst hn
  refine ⟨fun i _ hi q => ?_, fun _ q => ⟨xs, ys, q.1, q.2, by omega⟩, fun i H v H' _ q y => ?_⟩
  · have h1 : i < xs.length := by omega
    have h2 : i < ys.length := by omega
    exact ⟨xs, ys, xs[i], ys[i], q.1, q.2, by simp [h1], by simp [h2]⟩
  · obtain ⟨D, u, v', e1, e2, e3, e4, e5⟩ := y
    exact ⟨D, u, v', e1, e2, e3, e4 xs q.1, e5 ys q.2⟩
theorem zip_get {F : Addr → Prop} {H : Hp} {us vs : List V} {ss ts : List T} (r1 : Reps K F H us ss) (r2 : Reps K F H vs ts) (i : Nat) (u v : V) (e1 : us[i]? = some u) (e2 : vs[i]? = some v) : ∃ s t, (zipT ss ts)[i]? = some (.tup [s, t]) ∧ Rep K F H u s ∧ Rep K F H v t := by
  obtain ⟨s, h1, q1⟩ := r1.getV e1
  obtain ⟨t, h2, q2⟩ := r2.getV e2
  refine ⟨s, t, ?_, q1, q2⟩
  have h : (ss.zip ts)[i]? = some (s, t) := List.getElem?_zip_eq_some.mpr ⟨h1, h2⟩
  unfold zipT
  rw [List.getElem?_map, h]
  rfl
theorem deni_zip {elts : List Expr} {kk : Nat} {tp p2 : Pos} {n : M T} (B : Blt X.mg) (ha : Den X W a m) (hb : Den X W b n) (hg : Gl X "zip" := by rfl)
    (hst : starEach [a, b] X.env = (false, eval a X.env) :: starEach [b] X.env := by rfl) (hs2 : starEach [b] X.env = (false, eval b X.env) :: starEach [] X.env := by rfl) (hpl : (backTo p2 (starEach [b] X.env)).any (·.1) = false := by rfl) :
    DenI X W (.Tuple elts kk tp) (.Call (.Name "zip" p) [a, b] [] p2) (zipM m n) := by
  refine ⟨_, RZ.pi_zipA hg (B.at_ 20) pa_av hst hpl, fun σ H R R' im h => av_mono h fun v H' ⟨a, b, xs, ys, h1, h2⟩ => ⟨a, b, xs, ys, h1, h2.imp (fun ⟨h1, h2, h3⟩ => ⟨h1, h2, im _ _ h3⟩) fun ⟨h1, h2, h3⟩ => ⟨h1, h2, im _ _ h3⟩⟩, fun β x R hs g => ?_⟩
  refine av_cons (ev_mono (ha.thenI (tg := a) hs g) ?_) hst
  rintro v H1 ⟨F1, ρ1, s, at1, _, g1⟩
  refine av_cons (ev_mono (hb.thenI (tg := a) (x := ⟨F1, H1, x.σ, ρ1⟩) at1.st g1) ?_) hs2
  rintro w H2 ⟨F2, ρ2, t, at2, _, g2⟩
  have rp1 : Rep X.K F2 H2 v s := at2.nx.2.rep at1.st at1.rep
  have len : ∀ {us vs : List V} {ss ts : List T}, Reps X.K F2 H2 us ss → Reps X.K F2 H2 vs ts → (zipT ss ts).length = min us.length vs.length := fun r1 r2 => by simp [zipT, r1.len, r2.len]
  cases s <;> first | exact g2.elim | skip
  · cases t <;> first | exact g2.elim | skip
    cases rp1 with
    | obj f1 h1 => cases h1 with
      | @tup _ us _ h1 rs1 =>
        cases at2.rep with
        | obj f2 h2 => cases h2 with
          | @tup _ vs _ h2 rs2 =>
            exact av_nil ⟨_, _, us, vs, rfl, .inr ⟨.of h1, .of h2, g2 _ _ _ (Nx.refl at2.st) (itok_pairs at2.st (walk_zipT rfl) (len rs1 rs2) (fun z n => ⟨.of (n.2.fk at2.st _ _ f1 h1), .of (n.2.fk at2.st _ _ f2 h2)⟩) fun i u v _ e1 e2 => zip_get rs1 rs2 i u v e1 e2)⟩⟩
  · cases t <;> first | exact g2.elim | skip
    cases rp1 with
    | obj f1 h1 => cases h1 with
      | @lst _ us _ h1 rs1 =>
        cases at2.rep with
        | obj f2 h2 => cases h2 with
          | @lst _ vs _ h2 rs2 =>
            exact av_nil ⟨_, _, us, vs, rfl, .inl ⟨.of h1, .of h2, g2 _ _ _ (Nx.refl at2.st) (itok_pairs at2.st (walk_zip rfl) (len rs1 rs2) (fun z n => ⟨.of (n.2.fk at2.st _ _ f1 h1), .of (n.2.fk at2.st _ _ f2 h2)⟩) fun i u v _ e1 e2 => zip_get rs1 rs2 i u v e1 e2)⟩⟩
def enuT (ts : List T) : List T := ts.zipIdx.map fun p => .tup [.int (p.2 : Nat), p.1]
def enuM (m : M T) : M (List T) := m.bind fun t => lift (match t with
  | .lst ts => some (enuT ts)
  | _ => none)
theorem deni_enum {elts : List Expr} {kk : Nat} {tp p2 : Pos} (B : Blt X.mg) (ha : Den X W a m) (hg : Gl X "enumerate" := by rfl) (hst : starEach [a] X.env = [(false, eval a X.env)] := by rfl) :
    DenI X W (.Tuple elts kk tp) (.Call (.Name "enumerate" p) [a] [] p2) (enuM m) := by
  refine ⟨_, pi_enum hg (B.at_ 5) pa_av hst, fun σ H R R' im h => av_mono h fun v H' ⟨a, xs, h1, h2, h3⟩ => ⟨a, xs, h1, h2, im _ _ h3⟩, fun β x R hs g => ?_⟩
  refine av_cons (ev_mono (ha.thenI (tg := a) hs g) ?_) hst
  rintro v H1 ⟨F1, ρ1, s, at1, _, g1⟩
  cases s <;> first | exact g1.elim | skip
  cases at1.rep with
  | obj f1 h1 => cases h1 with
    | @lst _ us _ h1 rs1 =>
      rename_i ts _ _
      refine av_nil ⟨_, us, rfl, .of h1, g1 _ _ _ (Nx.refl at1.st) (itok_pairs (ts := enuT ts) at1.st walk_enum (by simp [enuT, rs1.len]) (fun z n => .of (n.2.fk at1.st _ _ f1 h1)) fun i u w _ e1 e2 => ?_)⟩
      obtain ⟨t, h2, q⟩ := rs1.getV e2
      cases e1
      refine ⟨_, t, ?_, .int _, q⟩
      simp [enuT, h2]
end
end Dv
/-! DE: list comprehensions. -/
namespace Dv
open PySem PySem.Spec PyProof.Rows L2 Hv
def wipeR (ρ : Env) : List Nat → Env
  | [] => ρ
  | v :: vs => (wipeR ρ vs).set v .un
def compL (own : List Nat) (g : T → Env → Option Env) (c : M Bool) (el : M T) : List T → M (List T)
  | [], ρ => .ok [] ρ
  | t :: ts, ρ => match g t ρ with
    | none => .bad
    | some ρ1 => match c ρ1 with
      | .ok false ρ2 => compL own g c el ts (wipeR ρ2 own)
      | .ok true ρ2 => match el ρ2 with
        | .ok y ρ3 => (compL own g c el ts (wipeR ρ3 own)).bind fun ys => M.pure (y :: ys)
        | _ => .bad
      | _ => .bad
def compF (own : List Nat) (mi : M (List T)) (g : T → Env → Option Env) (c : M Bool) (el : M T) : M Slot := mi.bind fun ts ρ =>
  if ts.length ≤ 100000 then (compL own g c el ts (wipeR ρ own)).bind fun ys => M.pure (.own (.lst ys)) else .bad
def yesM : M Bool := M.pure true
abbrev W0 : WX := fun _ _ _ _ => False
section
variable {X : Cx} {W : WX} {K : PySem.W.Frag} {β : Bc} {x y z : Sx} {e a b c o : Expr} {Q : VK} {pos p : Pos} {m : M T} {D : Addr}
theorem wipe_get {σ : L2.St} {i : Nat} : ∀ {vs : List Nat}, i ∉ vs → (wipe σ vs)[i]? = σ[i]?
  | [], _ => rfl
  | v :: vs, h => by
    unfold wipe
    rw [List.getElem?_set_ne (fun e => h (by simp [e])), wipe_get fun q => h (List.mem_cons_of_mem _ q)]
theorem wipe_in {σ : L2.St} {i : Nat} {o : Option V} : ∀ {vs : List Nat}, i ∈ vs → (wipe σ vs)[i]? = some o → o = none
  | v :: vs, h, e => by
    unfold wipe at e
    rcases set_get e with ⟨_, q⟩ | ⟨q, e⟩
    · exact q
    · rcases List.mem_cons.mp h with h | h
      · exact absurd h.symm q
      · exact wipe_in h e
theorem wipeR_in {ρ : Env} {i : Nat} {s : Slot} : ∀ {vs : List Nat}, i ∈ vs → (wipeR ρ vs)[i]? = some s → s = .un
  | v :: vs, h, e => by
    unfold wipeR at e
    rcases set_get e with ⟨_, q⟩ | ⟨q, e⟩
    · exact q
    · rcases List.mem_cons.mp h with h | h
      · exact absurd h.symm q
      · exact wipeR_in h e
theorem wipe_eq {σ σ' : L2.St} {vs : List Nat} (h : OffSl vs σ σ') : wipe σ' vs = wipe σ vs := by
  refine List.ext_getElem? fun i => ?_
  by_cases hi : i ∈ vs
  · by_cases hl : i < σ.length
    · have l1 : i < (wipe σ' vs).length := by rw [wipe_length, h.1]; exact hl
      have l2 : i < (wipe σ vs).length := by rw [wipe_length]; exact hl
      rw [List.getElem?_eq_getElem l1, List.getElem?_eq_getElem l2, wipe_in hi (List.getElem?_eq_getElem l1), wipe_in hi (List.getElem?_eq_getElem l2)]
    · rw [List.getElem?_eq_none (by rw [wipe_length, h.1]; omega), List.getElem?_eq_none (by rw [wipe_length]; omega)]
  · rw [wipe_get hi, wipe_get hi, h.2 i hi]
theorem Nx.wipe : ∀ (vs : List Nat) {x : Sx}, St K β x → Nx K β x ⟨x.F, x.H, L2.wipe x.σ vs, wipeR x.ρ vs⟩
  | [], x, h => Nx.refl h
  | v :: vs, x, h => by
    have q := Nx.wipe vs h
    exact q.trans (Nx.setU (x := ⟨x.F, x.H, L2.wipe x.σ vs, wipeR x.ρ vs⟩) (j := v) (o := none) q.1)
theorem Nx.unwipe {vs : List Nat} {F : Addr → Prop} {H : Hp} {σ : L2.St} {ρ : Env} (n : Nx K β x ⟨F, H, L2.wipe σ vs, ρ⟩) (hu : ∀ i ∈ vs, ∀ s, ρ[i]? = some s → s = .un) : Nx K β x ⟨F, H, σ, ρ⟩ := by
  have own : ∀ i b, Owns σ ρ i b → Owns (L2.wipe σ vs) ρ i b := fun i b ⟨e1, u, e2⟩ => by
    have ni : i ∉ vs := fun hi => by rcases e2 with e2 | e2 <;> exact nomatch hu i hi _ e2
    exact ⟨by rw [wipe_get ni]; exact e1, u, e2⟩
  refine ⟨⟨by have := n.1.len; simp only [wipe_length] at this; exact this, fun i o s e1 e2 => ?_, fun i k b p q => n.1.apart i k b (own i b p) (own k b q), n.1.trk⟩, ⟨n.2.ext, n.2.keep, n.2.new, fun b ⟨i, w⟩ => n.2.wn b ⟨i, own i b w⟩⟩⟩
  by_cases hi : i ∈ vs
  · rw [hu i hi s e2]
    trivial
  · exact n.1.slot i o s (by show (L2.wipe σ vs)[i]? = _; rw [wipe_get hi]; exact e1) e2
/-- a new object of ours, which nothing holds, changes -/
theorem Nx.updD {o : HO} (n : Nx K β x y) (hD : x.H D = none) (nf : ¬ y.F D) (nw : ¬ y.ow D) : Nx K β x ⟨y.F, upd y.H D o, y.σ, y.ρ⟩ := by
  have hH : ∀ b u, b ≠ D → y.H b = some u → upd y.H D o b = some u := fun b u nb e => by rw [upd_ne nb]; exact e
  have hF : ∀ b u, y.F b → y.H b = some u → upd y.H D o b = some u := fun b u f e => hH b u (fun z => nf (z ▸ f)) e
  refine ⟨⟨n.1.len, fun i o' s e1 e2 => ?_, n.1.apart, fun b f => ?_⟩, ⟨n.2.ext, fun b u e w => ?_, n.2.new, n.2.wn⟩⟩
  · refine (n.1.slot i o' s e1 e2).mono (fun _ f => f) hF fun b eb qs nb => ⟨nb, fun u e => hH b u (fun z => ?_) e⟩
    subst z eb
    obtain ⟨t, qs⟩ := qs
    exact nw ⟨i, e1, t, qs.elim (fun z => .inl (z ▸ e2)) fun z => .inr (z ▸ e2)⟩
  · obtain ⟨u, e⟩ := n.1.trk b f
    exact ⟨u, hF b u f e⟩
  · exact hH b u (ne_of_none e hD) (n.2.keep b u e w)
/-- .. and stays through what others do -/
theorem Nx.offD {vs : List V} (n : Nx K β y z) (h : y.H D = some (.lst vs)) (nf : ¬ y.F D) (nw : ¬ y.ow D) : z.H D = some (.lst vs) ∧ ¬ z.F D ∧ ¬ z.ow D := by
  refine ⟨n.2.keep D _ h nw, fun f => ?_, fun w => ?_⟩
  · rcases n.2.new D f with f | f | f | ⟨u, f, im⟩
    · exact nf f
    · exact nw f
    · rw [h] at f; cases f
    · rw [h] at f
      cases f
      rcases im with ⟨_, im⟩ | ⟨_, _, _, _, im⟩ | ⟨_, im⟩ <;> cases im
  · rcases n.2.wn D w with w | w
    · exact nw w
    · rw [h] at w; cases w
/-- the tests of a comprehension -/
def DenIfs (X : Cx) (scope : Scope) (ifs : List Expr) (mc : M Bool) : Prop := ∃ tt : TT, (∀ (s : Shared) (H : Hp) (C : Addr) (cl : List (Str × Addr)) (fp : List Addr), PTs (X.blk s H scope (compEnvC scope cl C X.env) fp) ifs tt) ∧
  ∀ β x Q, St X.K β x → GoT X.K β W0 x (mc x.ρ) Q → tt x.σ x.H Q
theorem denifs_nil {scope : Scope} : DenIfs X scope [] yesM := ⟨tYes, fun _ _ _ _ _ => pts_nil, fun β x Q hs g => g _ _ (Nx.refl hs)⟩
theorem denifs_one {scope : Scope} {mc : M Bool} (h : ∀ (s : Shared) (H : Hp) (C : Addr) (cl : List (Str × Addr)) (fp : List Addr), DenT (Cx.blk0 X scope s H C cl fp) W0 c mc) : DenIfs X scope [c] mc :=
  ⟨LT X scope c, fun s H C cl fp => pts_one (pt_lt s H C cl fp), fun β x Q hs g s H C cl fp => h s H C cl fp β x Q hs g⟩
variable {elt tg iter : Expr} {ifs : List Expr} {scope : Scope} {own : List (Str × Nat)} {mi : M (List T)} {g : T → Env → Option Env} {gg : TG} {sl : List Nat} {mc : M Bool} {el : M T}
theorem lc_core {wi : TI} {tt : TT} (hw : ∀ β x R, St X.K β x → GoI X.K β W x (mi x.ρ) R → wi x.σ x.H R)
    (hg : ∀ (s : Shared) (H : Hp) (C : Addr) (cl : List (Str × Addr)) (fp : List Addr), DenG (Cx.blk0 X scope s H C cl fp) tg sl g gg) (hsl : ∀ i ∈ sl, i ∈ own.map (·.2))
    (ht : ∀ β x Q, St X.K β x → GoT X.K β W0 x (mc x.ρ) Q → tt x.σ x.H Q)
    (he : ∀ (s : Shared) (H : Hp) (C : Addr) (cl : List (Str × Addr)) (fp : List Addr), Den (Cx.blk0 X scope s H C cl fp) W0 elt el)
    (hs : St X.K β x) (gf : GoF X.K β W x (compF (own.map (·.2)) mi g mc el x.ρ) Q) : tLc wi gg tt (LE X scope elt) (own.map (·.2)) x.σ x.H Q := by
  have bl : (Cx.blk0 X scope X.s_0 X.H_0 0 [] []).K = X.K := rfl
  generalize hvs : own.map (·.2) = vs at *
  refine hw β x _ hs ?_
  unfold compF M.bind at gf
  cases q : mi x.ρ with
  | ex c u ρ1 => rw [q] at gf; exact gf
  | bad => rw [q] at gf; exact gf
  | ok ts ρ1 =>
    rw [q] at gf
    simp only [Dv.R.bind] at gf
    rintro F1 H1 J n1 ⟨G, Y, w, hG, hY⟩ D hD
    by_cases hl : ts.length ≤ 100000
    · rw [if_pos hl] at gf
      have g1 := GoF.on n1 rfl gf
      have s1 : St X.K β (Sx.mk F1 H1 x.σ ρ1) := n1.1
      have sz : (100000 : Nat) < sizeLine := by decide
      have hD1 : (Sx.mk F1 H1 x.σ ρ1).H D = none := hD
      refine lc_it w (fun i H => ∃ F ρ ys us, Nx X.K β (Sx.mk F1 H1 x.σ ρ1) ⟨F, H, L2.wipe x.σ vs, ρ⟩ ∧ H D = some (.lst us) ∧ Reps X.K F H us ys ∧ us.length ≤ i ∧ ¬ F D ∧ ¬ (Sx.mk F H (L2.wipe x.σ vs) ρ).ow D ∧ (∀ i ∈ vs, ∀ s, ρ[i]? = some s → s = .un) ∧
        GoF X.K β W (Sx.mk F1 H1 x.σ ρ1) ((compL vs g mc el (ts.drop i) ρ).bind fun zs => M.pure (.own (.lst (ys ++ zs)))) Q) ?_ ?_ ?_ ?_
      · have a1 := Nx.laidO (o := .lst []) s1 hD1
        have a2 := Nx.wipe vs a1.1
        refine ⟨F1, wipeR ρ1 vs, [], [], ?_, upd_same, .nil, Nat.zero_le _, ?_, ?_, fun i hi s e => wipeR_in hi e, ?_⟩
        · exact a1.trans a2
        · exact s1.fNone hD1
        · intro w
          rcases a2.2.wn D w with t | t
          · exact s1.owNone hD1 t
          · rw [show (Sx.mk F1 (upd H1 D (.lst [])) x.σ ρ1).H D = some (.lst []) from upd_same] at t
            cases t
        · exact g1
      · rintro i H _ ⟨F, ρ, _, _, n, _⟩
        exact hG _ n
      · rintro i v H H2 hi ⟨F, ρ, ys, us, n, eD, rs, hu, nf, nw, un, gl⟩ hy
        obtain ⟨F2, t, et, n2, r⟩ := hY i ⟨F, H, L2.wipe x.σ vs, ρ⟩ v H2 hi n hy
        have ed : ts.drop i = t :: ts.drop (i + 1) := by
          rw [List.drop_eq_getElem_cons hi]
          congr 1
          rw [List.getElem?_eq_getElem hi] at et
          exact Option.some.inj et
        rw [ed] at gl
        unfold compL at gl
        cases q2 : g t ρ with
        | none => simp only [q2, Dv.R.bind] at gl; exact gl.elim
        | some ρ3 =>
          simp only [q2] at gl
          refine (hg X.s_0 X.H_0 0 [] []).2.2 β ⟨F2, H2, L2.wipe x.σ vs, ρ⟩ v t ρ3 _ n2.1 r q2 fun σ3 o3 n3 => ⟨?_, ?_⟩
          · have o4 : OffSl vs (L2.wipe x.σ vs) σ3 := ⟨o3.1, fun i hi => o3.2 i fun h => hi (hsl i h)⟩
            rw [wipe_eq o4]
            exact wipe_eq (σ := x.σ) ⟨wipe_length _ _, fun i hi => wipe_get hi⟩
          have o4 : OffSl vs (L2.wipe x.σ vs) σ3 := ⟨o3.1, fun i hi => o3.2 i fun h => hi (hsl i h)⟩
          have ew : L2.wipe σ3 vs = L2.wipe x.σ vs := by
            rw [wipe_eq o4]
            exact wipe_eq (σ := x.σ) ⟨wipe_length _ _, fun i hi => wipe_get hi⟩
          have n23 := n2.trans n3
          refine ht β ⟨F2, H2, σ3, ρ3⟩ _ n3.1 ?_
          show GoT _ _ _ _ (mc ρ3) _
          cases q3 : mc ρ3 with
          | ex c u ρ4 => simp only [q3, Dv.R.bind] at gl; exact gl.elim
          | bad => simp only [q3, Dv.R.bind] at gl; exact gl.elim
          | ok k ρ4 =>
            intro F4 H4 n4
            have n24 := n23.trans n4
            cases k with
            | false =>
              simp only [q3] at gl
              rw [if_neg (by decide)]
              obtain ⟨d1, d2, d3⟩ := n24.offD eD nf nw
              have a2 := Nx.wipe vs n4.1
              have a3 := (n24.trans a2)
              refine ⟨F4, wipeR ρ4 vs, ys, us, ?_, d1, n24.2.reps n.1 rs, by omega, d2, ?_, fun i hi s e => wipeR_in hi e, gl⟩
              · have := n.trans a3
                simp only [ew] at this
                exact this
              · have := (a3.offD eD nf nw).2.2
                simp only [ew] at this
                exact this
            | true =>
              simp only [q3] at gl
              rw [if_pos rfl]
              intro s H0 C cl fp
              refine he s H0 C cl fp β ⟨F4, H4, σ3, ρ4⟩ _ n4.1 ?_
              show GoE _ _ _ _ (el ρ4) _
              cases q4 : el ρ4 with
              | ex c u ρ5 => simp only [q4, Dv.R.bind] at gl; exact gl.elim
              | bad => simp only [q4, Dv.R.bind] at gl; exact gl.elim
              | ok t5 ρ5 =>
                simp only [q4] at gl
                intro F5 H5 v5 n5 r5
                have n25 := n24.trans n5
                obtain ⟨d1, d2, d3⟩ := n25.offD eD nf nw
                have a2 := Nx.wipe vs n5.1
                have a3 := n25.trans a2
                have e3 := a3.offD eD nf nw
                have a4 := (n.trans a3).updD (o := .lst (us ++ [v5])) hD1 e3.2.1 e3.2.2
                refine ⟨us, d1, by omega, F5, wipeR ρ5 vs, ys ++ [t5], us ++ [v5], ?_, upd_same, ?_, by simp; omega, d2, ?_, fun i hi s e => wipeR_in hi e, ?_⟩
                · simp only [ew] at a4
                  exact a4
                · have r6 : Reps X.K F5 H5 (us ++ [v5]) (ys ++ [t5]) := (n25.2.reps n.1 rs).app (.cons r5 .nil)
                  refine r6.mono (fun _ f => f) fun b u f e => ?_
                  rw [upd_ne (fun z => by subst z; exact d2 f)]
                  exact e
                · have := e3.2.2
                  simp only [ew] at this
                  exact this
                · cases q5 : compL vs g mc el (ts.drop (i + 1)) (wipeR ρ5 vs) with
                  | ex c u ρ6 => simp only [q5, Dv.R.bind] at gl ⊢; exact gl
                  | bad => simp only [q5, Dv.R.bind] at gl ⊢; exact gl
                  | ok zs ρ6 =>
                    simp only [q5, Dv.R.bind, M.pure] at gl ⊢
                    rw [List.append_assoc]
                    exact gl
      · rintro H ⟨F, ρ, ys, us, n, eD, rs, hu, nf, nw, un, gl⟩
        rw [List.drop_length] at gl
        simp only [compL, Dv.R.bind, M.pure, List.append_nil] at gl
        have n' := Nx.unwipe n un
        refine gl F H (.ref D) n' ⟨D, rfl, nf, .lst eD rs, ?_, .inr hD1⟩
        intro ⟨i, e1, t, e2⟩
        have ni : i ∉ vs := fun hi => by rcases e2 with e2 | e2 <;> exact nomatch un i hi _ e2
        exact nw ⟨i, by show (L2.wipe x.σ vs)[i]? = _; rw [wipe_get ni]; exact e1, t, e2⟩
    · rw [if_neg hl] at gf
      exact gf.elim
theorem denf_lc (hc : X.calm = true) (hN : X.N.Nodup) (hi : DenI X W tg iter mi) (ok : BlkOk X.N X.env.scope scope own)
    (hg : ∀ (s : Shared) (H : Hp) (C : Addr) (cl : List (Str × Addr)) (fp : List Addr), DenG (Cx.blk0 X scope s H C cl fp) tg sl g gg) (hsl : ∀ i ∈ sl, i ∈ own.map (·.2)) (ht : DenIfs X scope ifs mc)
    (he : ∀ (s : Shared) (H : Hp) (C : Addr) (cl : List (Str × Addr)) (fp : List Addr), Den (Cx.blk0 X scope s H C cl fp) W0 elt el) (hs : ∀ x, foldedSetIterable iter X.env x = pure x := by intro _; rfl) :
    DenF X W (.ListComp elt [⟨tg, iter, ifs, 0⟩] scope pos) (compF (own.map (·.2)) mi g mc el) := by
  obtain ⟨wi, hpi, _, hw⟩ := hi
  obtain ⟨tt, htt, ht⟩ := ht
  exact fun β x Q st gf => ⟨_, pe_lc hc hN hpi ok (fun s H C cl fp => (hg s H C cl fp).1) htt (fun s H C cl fp => pe_le s H C cl fp) hs, lc_core hw hg hsl ht he st gf⟩
/-- name = [.. for ..] -/
theorem dens_setLc {n : Str} {py sp : Pos} (i : Nat) (hc : X.calm = true) (hN : X.N.Nodup) (hy : X.N[i]? = some n) (hyl : X.env.scope.names.lookup n = some .local) (hsw : swapsWith (.ListComp elt [⟨tg, iter, ifs, 0⟩] scope pos) (some (.Name n py)) sp.line X.env = pure true) (hi : DenI X W tg iter mi) (ok : BlkOk X.N X.env.scope scope own)
    (hg : ∀ (s : Shared) (H : Hp) (C : Addr) (cl : List (Str × Addr)) (fp : List Addr), DenG (Cx.blk0 X scope s H C cl fp) tg sl g gg) (hsl : ∀ i ∈ sl, i ∈ own.map (·.2)) (ht : DenIfs X scope ifs mc)
    (he : ∀ (s : Shared) (H : Hp) (C : Addr) (cl : List (Str × Addr)) (fp : List Addr), Den (Cx.blk0 X scope s H C cl fp) W0 elt el) (hs : ∀ x, foldedSetIterable iter X.env x = pure x := by intro _; rfl) :
    DenS X W (.Assign [.Name n py] (.ListComp elt [⟨tg, iter, ifs, 0⟩] scope pos) sp) (setF i (compF (own.map (·.2)) mi g mc el)) := by
  obtain ⟨wi, hpi, _, hw⟩ := hi
  obtain ⟨tt, htt, ht⟩ := ht
  intro β x D st gs
  refine ⟨_, ps_setLc hc hN hy hyl hsw hpi ok (fun s H C cl fp => (hg s H C cl fp).1) htt (fun s H C cl fp => pe_le s H C cl fp) hs, ?_⟩
  refine lc_core (Q := fun v H1 => D.nx (x.σ.set i (some v)) H1) hw hg hsl ht he st ?_
  unfold setF M.thenS at gs
  cases q : compF (own.map (·.2)) mi g mc el x.ρ with
  | ok s ρ1 =>
    rw [q] at gs
    intro F1 H1 v n r
    cases q2 : putSl i s ρ1 with
    | nx ρ2 => simp only [q2] at gs; exact gs _ _ _ (Nx.put (y := ⟨F1, H1, x.σ, ρ1⟩) n r q2)
    | rt _ _ => cases s <;> cases q2
    | bk _ => cases s <;> cases q2
    | ct _ => cases s <;> cases q2
    | ex _ _ _ => cases s <;> cases q2
    | bad => simp only [q2] at gs; exact gs.elim
  | ex c u ρ1 => rw [q] at gs; exact fun F' H' cls d n r => gs F' H' x.σ cls d n r
  | bad => rw [q] at gs; exact gs
end
end Dv
/-! DF: defs as functions on slots; calls. -/
namespace Dv
open PySem PySem.Spec PyProof.Rows L2 Hv
/-- what comes of a def: the result, the parameters as they are left -/
inductive RF where
  | ok (r : Slot) (ps : Env) | ex (c : Str) (v : T) (ps : Env) | bad
abbrev FT := Env → RF
/-- the parameters behind: what was lent must still be where it was -/
def backs : Env → Env → Option Env
  | [], _ => some []
  | .val t :: as, _ :: ρ => (backs as ρ).map (.val t :: ·)
  | .bor _ :: as, .bor t :: ρ => (backs as ρ).map (.bor t :: ·)
  | _, _ => none
/-- a def: n slots, its body -/
def denDef (n : Nat) (body : S) : FT := fun as => match body (as ++ List.replicate (n - as.length) .un) with
  | .nx ρ => match backs as ρ with
    | some ps => .ok (.val .non) ps
    | none => .bad
  | .rt r ρ => match backs as ρ with
    | some ps => .ok r ps
    | none => .bad
  | .ex c v ρ => match backs as ρ with
    | some ps => .ex c v ps
    | none => .bad
  | _ => .bad
def argOk : Slot → Bool
  | .val _ => true
  | .bor _ => true
  | _ => false
def GoD (K : PySem.W.Frag) (β : Bc) (x : Sx) (r : RF) (Q : VK) (E : XK) : Prop := match r with
  | .ok s ps => ∀ F' H' v, Nx K β x ⟨F', H', x.σ, ps⟩ → SlR K x ⟨F', H', x.σ, ps⟩ v s → Q v H'
  | .ex c u ps => ∀ F' H' cls d, Nx K β x ⟨F', H', x.σ, ps⟩ → ExR K F' H' cls d c u → E cls d H'
  | .bad => False
/-- the promise of a def by its function -/
def spD (K : PySem.W.Frag) (F : FT) : Sp := fun vs H Q E => ∃ (β : Bc) (Fz : Addr → Prop) (as : Env), St K β ⟨Fz, H, vs.map some, as⟩ ∧ as.all argOk = true ∧ GoD K β ⟨Fz, H, vs.map some, as⟩ (F as) Q E
section
variable {K : PySem.W.Frag} {β : Bc} {x y z : Sx}
theorem backs_key : ∀ (as ρ' ps : Env), backs as ρ' = some ps → ps.length = as.length ∧ ∀ (i : Nat) (s : Slot), ps[i]? = some s → (∃ t, s = .val t ∧ as[i]? = some (.val t)) ∨ (∃ t u, s = .bor t ∧ as[i]? = some (.bor u) ∧ ρ'[i]? = some (.bor t)) := by
  intro as
  induction as with
  | nil => intro ρ' ps e; cases ρ' <;> cases e <;> exact ⟨rfl, fun i s h => by simp at h⟩
  | cons a as ih =>
    intro ρ' ps e
    cases ρ' with
    | nil => cases a <;> cases e
    | cons r ρ' =>
      cases a with
      | un => cases e
      | own t => cases e
      | old t => cases e
      | nl t => cases e
      | val t =>
        simp only [backs, Option.map_eq_some_iff] at e
        obtain ⟨qs, e1, rfl⟩ := e
        obtain ⟨l, h⟩ := ih _ _ e1
        refine ⟨by simp [l], fun i s hi => ?_⟩
        cases i with
        | zero => simp at hi; subst hi; exact .inl ⟨t, rfl, rfl⟩
        | succ i => simpa using h i s (by simpa using hi)
      | bor t =>
        cases r with
        | un => cases e
        | own t => cases e
        | old t => cases e
        | nl t => cases e
        | val t => cases e
        | bor u =>
          simp only [backs, Option.map_eq_some_iff] at e
          obtain ⟨qs, e1, rfl⟩ := e
          obtain ⟨l, h⟩ := ih _ _ e1
          refine ⟨by simp [l], fun i s hi => ?_⟩
          cases i with
          | zero => simp at hi; subst hi; exact .inr ⟨u, t, rfl, rfl, rfl⟩
          | succ i => simpa using h i s (by simpa using hi)
theorem Owns.down {F : Addr → Prop} {H : Hp} {vs : List V} {as : Env} {k i : Nat} {a : Addr} (w : Owns (vs.map some ++ List.replicate k none) (as ++ List.replicate k .un) i a) (st : St K β ⟨F, H, vs.map some, as⟩) : Owns (vs.map some) as i a := by
  have len : (vs.map some).length = as.length := st.len
  obtain ⟨e1, u, e2⟩ := w
  have h2 : i < as.length := by
    by_cases h : i < as.length
    · exact h
    · rcases e2 with e2 | e2 <;>
      · rw [List.getElem?_append_right (by omega)] at e2
        rw [List.getElem?_replicate] at e2
        split at e2 <;> cases e2
  have h1 : i < (vs.map some).length := by rw [len]; exact h2
  rw [List.getElem?_append_left h1] at e1
  rw [List.getElem?_append_left h2] at e2
  exact ⟨e1, u, e2⟩
/-- behind a body: the callee's slots are gone, what was lent is where it was -/
theorem Nx.back {F : Addr → Prop} {H : Hp} {vs : List V} {as : Env} {k : Nat} {F' : Addr → Prop} {H' : Hp} {σ' : L2.St} {ρ' ps : Env} (n : Nx K β ⟨F, H, vs.map some ++ List.replicate k none, as ++ List.replicate k .un⟩ ⟨F', H', σ', ρ'⟩)
    (st : St K β ⟨F, H, vs.map some, as⟩) (e : backs as ρ' = some ps) : Nx K β ⟨F, H, vs.map some, as⟩ ⟨F', H', vs.map some, ps⟩ := by
  obtain ⟨hl, hk⟩ := backs_key _ _ _ e
  have len := st.len
  -- an owner at the end
  have own : ∀ i a, Owns (vs.map some) ps i a → Owns (vs.map some) as i a ∧ ∃ t, ρ'[i]? = some (.bor t) ∧ ps[i]? = some (.bor t) := fun i a ⟨e1, u, e2⟩ => by
    rcases e2 with e2 | e2
    · rcases hk i _ e2 with ⟨t, h, _⟩ | ⟨t, u, h, _⟩ <;> cases h
    · rcases hk i _ e2 with ⟨t, h, _⟩ | ⟨t, u, h, h2, h3⟩
      · cases h
      · cases h
        exact ⟨⟨e1, u, .inr h2⟩, _, h3, e2⟩
  have owD : ∀ a, (Sx.mk F H (vs.map some ++ List.replicate k none) (as ++ List.replicate k .un)).ow a → (Sx.mk F H (vs.map some) as).ow a := fun a ⟨i, w⟩ => ⟨i, w.down st⟩
  refine ⟨⟨by show (vs.map some).length = ps.length; rw [hl]; exact len, fun i o s e1 e2 => ?_, fun i j a p q => st.apart i j a (own i a p).1 (own j a q).1, n.1.trk⟩,
    ⟨n.2.ext, fun a o h w => n.2.keep a o h fun q => w (owD a q), fun a f => ?_, fun a ⟨i, w⟩ => .inl ⟨i, (own i a w).1⟩⟩⟩
  · rcases hk i s e2 with ⟨t, rfl, h2⟩ | ⟨t, u, rfl, h2, h3⟩
    · obtain ⟨v, e, r⟩ := st.slot i o _ e1 h2
      exact ⟨v, e, r.mono n.2.ext fun a u f h => n.2.keep a u h fun w => (st.noF (owD a w)).1 f⟩
    · obtain ⟨a, e, hb, _, _⟩ := st.slot i o _ e1 h2
      have hi : i < σ'.length := by rw [n.1.len]; exact (List.getElem?_eq_some_iff.mp h3).1
      obtain ⟨b, e', hb', nf, ow⟩ := n.1.slot i _ _ (List.getElem?_eq_getElem hi) h3
      rw [hb] at hb'
      cases hb'
      exact ⟨a, e, hb, nf, ow⟩
  · rcases n.2.new a f with h | h | h
    · exact .inl h
    · exact .inr (.inl (owD a h))
    · exact .inr (.inr h)
theorem Nx.backOw {F : Addr → Prop} {H : Hp} {vs : List V} {as : Env} {k : Nat} {F' : Addr → Prop} {H' : Hp} {σ' : L2.St} {ρ' ps : Env} {a : Addr} (n : Nx K β ⟨F, H, vs.map some ++ List.replicate k none, as ++ List.replicate k .un⟩ ⟨F', H', σ', ρ'⟩)
    (st : St K β ⟨F, H, vs.map some, as⟩) (e : backs as ρ' = some ps) (w : (Sx.mk F' H' (vs.map some) ps).ow a) : (Sx.mk F' H' σ' ρ').ow a := by
  obtain ⟨hl, hk⟩ := backs_key _ _ _ e
  obtain ⟨i, e1, u, e2⟩ := w
  rcases e2 with e2 | e2
  · rcases hk i _ e2 with ⟨t, h, _⟩ | ⟨t, u, h, _⟩ <;> cases h
  · rcases hk i _ e2 with ⟨t, h, _⟩ | ⟨t, u, h, h2, h3⟩
    · cases h
    · obtain ⟨b, e, hb, _, _⟩ := st.slot i _ _ e1 h2
      cases e
      have hi : i < σ'.length := by rw [n.1.len]; exact (List.getElem?_eq_some_iff.mp h3).1
      obtain ⟨b, e', hb', nf, ow⟩ := n.1.slot i _ _ (List.getElem?_eq_getElem hi) h3
      rw [hb] at hb'
      cases hb'
      exact ⟨i, by rw [List.getElem?_eq_getElem hi, e'], t, .inr h3⟩
end
section
variable {P : Program} {w : World} {K : PySem.W.Frag} {mg : Str → Option Value} {base : Heap} {j k : Nat} {f : Addr}
theorem St.start {β : Bc} {F : Addr → Prop} {H : Hp} {vs : List V} {as : Env} (st : St K β ⟨F, H, vs.map some, as⟩) (k : Nat) : St K β ⟨F, H, vs.map some ++ List.replicate k none, as ++ List.replicate k .un⟩ := by
  have len : (vs.map some).length = as.length := st.len
  refine ⟨by simp only [List.length_append, List.length_replicate]; omega, fun i o s e1 e2 => ?_, fun i j a p q => st.apart i j a (p.down st) (q.down st), st.trk⟩
  by_cases h2 : i < as.length
  · have h1 : i < (vs.map some).length := by omega
    rw [List.getElem?_append_left h1] at e1
    rw [List.getElem?_append_left h2] at e2
    exact st.slot i o s e1 e2
  · rw [List.getElem?_append_right (by omega), List.getElem?_replicate] at e2
    split at e2
    · cases e2
      trivial
    · cases e2
/-- a def by its body; dv: the defaults that fill up -/
theorem okDv {dv : List V} {ds : List Value} {n : Nat} {qual nm : Str} {params : Arguments} {body : List Stmt} {scope : Scope} {dvs : List V} {kws : List (Str × V)} {fd : FuncData} {N ps : List Str} {mb : S}
    (F : FunD K nm qual params body scope dvs kws f fd) (S : FnScope N ps scope) (hb : Binds K fd ps ds) (hd : Vals dv ds) (hN : N.length = n)
    (hbody : ∀ (cdv : Value) (A : Around) (outer : List PySem.Env) (s : Shared) (H : Hp) (E : XK), RoomG k (A.deeper (envOfC qual scope s.heap.objs.size f cdv)) →
      DenB (cxOf (L2.CX P w) P w K mg base N qual scope f cdv A outer s H E) (fun cls d _ H => E cls d H) body mb) :
    FnG P w K mg base (k + 1) f (fun vs H Q E => (vs ++ dv).length = ps.length ∧ spD K (denDef n mb) (vs ++ dv) H Q E) := by
  refine okG (dv := dv) (ds := ds) F S hb hd (fun vs H Q E h => h.1) (fun cdv A outer s H vs Q E hr h => ?_)
  generalize vs ++ dv = vs at h ⊢
  obtain ⟨hl, β, Fz, as, st, ha, g⟩ := h
  have hlen : vs.length = as.length := by have := st.len; simpa using this
  have hst : L2.start N vs = vs.map some ++ List.replicate (n - as.length) none := by unfold L2.start; rw [hN, hlen]
  refine ex_bv ?_
  rw [hst]
  have s0 := st.start (n - as.length)
  refine hbody cdv A outer s H E hr β ⟨Fz, H, vs.map some ++ List.replicate (n - as.length) none, as ++ List.replicate (n - as.length) Slot.un⟩ _ s0 ?_
  unfold denDef at g
  show GoS K β _ _ _ (mb (as ++ List.replicate (n - as.length) Slot.un))
  -- what the result means there
  have sl : ∀ (F' : Addr → Prop) (H' : Hp) (σ' : L2.St) (ρ' ps' : Env) (v : V) (r : Slot), backs as ρ' = some ps' → Nx K β ⟨Fz, H, vs.map some ++ List.replicate (n - as.length) none, as ++ List.replicate (n - as.length) .un⟩ ⟨F', H', σ', ρ'⟩ →
      SlR K ⟨Fz, H, vs.map some ++ List.replicate (n - as.length) none, as ++ List.replicate (n - as.length) .un⟩ ⟨F', H', σ', ρ'⟩ v r → SlR K ⟨Fz, H, vs.map some, as⟩ ⟨F', H', vs.map some, ps'⟩ v r := by
    intro F' H' σ' ρ' ps' v r eb nx h
    cases r with
    | un => exact h
    | val t => exact h
    | bor t => exact h
    | old t => exact h
    | nl t => exact h
    | own t =>
      obtain ⟨a, h1, h2, h3, h4, h5⟩ := h
      refine ⟨a, h1, h2, h3, fun w => h4 (nx.backOw st eb w), ?_⟩
      rcases h5 with ⟨i, w⟩ | h5
      · exact .inl ⟨i, w.down st⟩
      · exact .inr h5
  cases q : mb (as ++ List.replicate (n - as.length) Slot.un) with
  | nx ρ' =>
    simp only [q] at g
    cases eb : backs as ρ' with
    | none => simp only [eb] at g; exact g.elim
    | some ps' =>
      simp only [eb] at g
      exact fun F' H' σ' nx => g F' H' .non (nx.back st eb) .non
  | rt r ρ' =>
    simp only [q] at g
    cases eb : backs as ρ' with
    | none => simp only [eb] at g; exact g.elim
    | some ps' =>
      simp only [eb] at g
      exact fun F' H' σ' v nx h => g F' H' v (nx.back st eb) (sl _ _ _ _ _ _ _ eb nx h)
  | ex c u ρ' =>
    simp only [q] at g
    cases eb : backs as ρ' with
    | none => simp only [eb] at g; exact g.elim
    | some ps' =>
      simp only [eb] at g
      exact fun F' H' σ' cls d nx h => g F' H' cls d (nx.back st eb) h
  | bk ρ' => simp only [q] at g; exact g.elim
  | ct ρ' => simp only [q] at g; exact g.elim
  | bad => simp only [q] at g; exact g.elim
/-- a def by its body -/
theorem okD {n : Nat} {qual nm : Str} {params : Arguments} {body : List Stmt} {scope : Scope} {dvs : List V} {kws : List (Str × V)} {fd : FuncData} {N ps : List Str} {mb : S}
    (F : FunD K nm qual params body scope dvs kws f fd) (S : FnScope N ps scope) (hb : Binds K fd ps []) (hN : N.length = n)
    (hbody : ∀ (cdv : Value) (A : Around) (outer : List PySem.Env) (s : Shared) (H : Hp) (E : XK), RoomG k (A.deeper (envOfC qual scope s.heap.objs.size f cdv)) →
      DenB (cxOf (L2.CX P w) P w K mg base N qual scope f cdv A outer s H E) (fun cls d _ H => E cls d H) body mb) :
    FnG P w K mg base (k + 1) f (fun vs H Q E => vs.length = ps.length ∧ spD K (denDef n mb) vs H Q E) := by
  have z := okDv (dv := []) (ds := []) F S hb .nil hN hbody
  simp only [List.append_nil] at z
  exact z
/-- the defaults put in -/
def withD (dts : List T) (F : FT) : FT := fun as => match F (as ++ dts.map .val) with
  | .ok r ps => .ok r (ps.take as.length)
  | .ex c v ps => .ex c v (ps.take as.length)
  | .bad => .bad
theorem vals_get {dts : List T} {i : Nat} {s : Slot} (e : (dts.map Slot.val)[i]? = some s) : ∃ t, s = .val t ∧ dts[i]? = some t := by
  rw [List.getElem?_map] at e
  obtain ⟨t, e1, e2⟩ := Option.map_eq_some_iff.mp e
  exact ⟨t, e2.symm, e1⟩
theorem own_vals {F F' : Addr → Prop} {H H' : Hp} {vs dv : List V} {as : Env} {dts : List T} (hl : vs.length = as.length) {i : Nat} {a : Addr} :
    Owns ((vs ++ dv).map some) (as ++ dts.map .val) i a ↔ Owns (vs.map some) as i a := by
  have l1 : (vs.map some).length = as.length := by simpa using hl
  unfold Owns
  rw [List.map_append]
  by_cases h : i < as.length
  · rw [List.getElem?_append_left (by omega), List.getElem?_append_left h]
  · rw [List.getElem?_append_right (by omega), List.getElem?_append_right (by omega)]
    refine ⟨fun ⟨_, t, q⟩ => ?_, fun ⟨_, t, q⟩ => ?_⟩
    · rcases q with q | q <;> obtain ⟨_, z, _⟩ := vals_get q <;> cases z
    · rw [List.getElem?_eq_none (by omega)] at q
      rcases q with q | q <;> cases q
theorem withD_sp {F : FT} {vs dv : List V} {dts : List T} {H : Hp} {Q : VK} {E : XK} (hrep : ∀ Fz H, Reps K Fz H dv dts) (h : spD K (withD dts F) vs H Q E) : spD K F (vs ++ dv) H Q E := by
  obtain ⟨β, Fz, as, st, ha, g⟩ := h
  have hl : vs.length = as.length := by have := st.len; simpa using this
  have l1 : (vs.map some).length = as.length := by simpa using hl
  have dl : dv.length = dts.length := (hrep Fz H).len
  have ow : ∀ {F F' : Addr → Prop} {H H' : Hp} {ps : Env} {a : Addr}, ps.length = as.length → ((Sx.mk F H ((vs ++ dv).map some) (ps ++ dts.map .val)).ow a ↔ (Sx.mk F' H' (vs.map some) ps).ow a) := fun {F F' H H' ps a} e =>
    ⟨fun ⟨i, w⟩ => ⟨i, (own_vals (F := F) (F' := F') (H := H) (H' := H') (hl.trans e.symm)).mp w⟩, fun ⟨i, w⟩ => ⟨i, (own_vals (F := F) (F' := F') (H := H) (H' := H') (hl.trans e.symm)).mpr w⟩⟩
  have st' : St K β ⟨Fz, H, (vs ++ dv).map some, as ++ dts.map .val⟩ := by
    refine ⟨by simp only [List.length_map, List.length_append]; omega, fun i o s e1 e2 => ?_, fun i j a p q => ?_, st.trk⟩
    · rw [List.map_append] at e1
      by_cases h : i < as.length
      · rw [List.getElem?_append_left (by omega)] at e1
        rw [List.getElem?_append_left h] at e2
        exact st.slot i o s e1 e2
      · rw [List.getElem?_append_right (by omega)] at e1
        rw [List.getElem?_append_right (by omega)] at e2
        obtain ⟨t, rfl, e3⟩ := vals_get e2
        obtain ⟨v, e4, r⟩ := (hrep Fz H).get e3
        rw [l1, List.getElem?_map, e4] at e1
        cases e1
        exact ⟨v, rfl, r⟩
    · exact st.apart i j a ((own_vals (F := Fz) (F' := Fz) (H := H) (H' := H) hl).mp p) ((own_vals (F := Fz) (F' := Fz) (H := H) (H' := H) hl).mp q)
  refine ⟨β, Fz, as ++ dts.map .val, st', ?_, ?_⟩
  · rw [List.all_append, ha, Bool.true_and, List.all_map]
    exact List.all_eq_true.mpr fun t _ => rfl
  -- the way back
  have back : ∀ (F' : Addr → Prop) (H' : Hp) (ps : Env), Nx K β ⟨Fz, H, (vs ++ dv).map some, as ++ dts.map .val⟩ ⟨F', H', (vs ++ dv).map some, ps⟩ → Nx K β ⟨Fz, H, vs.map some, as⟩ ⟨F', H', vs.map some, ps.take as.length⟩ ∧
      ∀ a, (Sx.mk F' H' (vs.map some) (ps.take as.length)).ow a → (Sx.mk F' H' ((vs ++ dv).map some) ps).ow a := by
    intro F' H' ps n
    have pl : ps.length = ((vs ++ dv).map some).length := n.1.len.symm
    have pl2 : as.length ≤ ps.length := by rw [pl]; simp only [List.length_map, List.length_append]; omega
    have own : ∀ i a, Owns (vs.map some) (ps.take as.length) i a → Owns ((vs ++ dv).map some) ps i a := fun i a ⟨e1, t, e2⟩ => by
      have hi : i < (vs.map some).length := by
        rcases e2 with e2 | e2 <;> have := (List.getElem?_eq_some_iff.mp e2).1 <;> rw [List.length_take] at this <;> omega
      refine ⟨by rw [List.map_append, List.getElem?_append_left hi]; exact e1, t, ?_⟩
      rw [List.getElem?_take_of_lt (by omega)] at e2
      exact e2
    refine ⟨⟨⟨by show (vs.map some).length = _; rw [List.length_take]; omega, fun i o s e1 e2 => ?_, fun i j a p q => n.1.apart i j a (own i a p) (own j a q), n.1.trk⟩, ⟨n.2.ext, fun a o e w => n.2.keep a o e fun z => w ((ow (F := Fz) (F' := Fz) (H := H) (H' := H) rfl).mp z), fun a f => ?_, fun a ⟨i, w⟩ => ?_⟩⟩, fun a ⟨i, w⟩ => ⟨i, own i a w⟩⟩
    · have hi : i < as.length := by
        have := (List.getElem?_eq_some_iff.mp e2).1
        rw [List.length_take] at this
        omega
      rw [List.getElem?_take_of_lt hi] at e2
      exact n.1.slot i o s (by show ((vs ++ dv).map some)[i]? = _; rw [List.map_append, List.getElem?_append_left (by omega)]; exact e1) e2
    · rcases n.2.new a f with f | f | f
      · exact .inl f
      · exact .inr (.inl ((ow (F := Fz) (F' := Fz) (H := H) (H' := H) rfl).mp f))
      · exact .inr (.inr f)
    · rcases n.2.wn a ⟨i, own i a w⟩ with f | f
      · exact .inl ((ow (F := Fz) (F' := Fz) (H := H) (H' := H) rfl).mp f)
      · exact .inr f
  unfold withD at g
  cases q : F (as ++ dts.map .val) with
  | bad => rw [q] at g; exact g.elim
  | ok r ps =>
    rw [q] at g
    intro F' H' v n rv
    obtain ⟨n2, w2⟩ := back F' H' ps n
    refine g F' H' v n2 ?_
    cases r with
    | un => exact rv
    | val t => exact rv
    | bor t => exact rv
    | old t => exact rv
    | nl t => exact rv
    | own t =>
      obtain ⟨a, h1, h2, h3, h4, h5⟩ := rv
      exact ⟨a, h1, h2, h3, fun w => h4 (w2 a w), h5.imp_left fun w => (ow (F := Fz) (F' := Fz) (H := H) (H' := H) rfl).mp w⟩
  | ex c u ps =>
    rw [q] at g
    intro F' H' cls d n x
    exact g F' H' cls d (back F' H' ps n).1 x
end
end Dv
/-! DG: arguments by value and lent; calls of defs. -/
namespace Dv
open PySem PySem.Spec PyProof.Rows L2 Hv
/-- an argument: a value, or what a slot owns, lent -/
inductive Ar where
  | v (t : T) | m (i : Nat)
def mss : List Ar → List Nat
  | [] => []
  | .v _ :: as => mss as
  | .m i :: as => i :: mss as
def lentT (ρ : Env) (i : Nat) : Option T := (ρ[i]?).bind Slot.isOwn
def inp (ρ : Env) : List Ar → Option Env
  | [] => some []
  | .v t :: as => (inp ρ as).map (.val t :: ·)
  | .m i :: as => (lentT ρ i).bind fun t => (inp ρ as).map (.bor t :: ·)
def setW (ρ : Env) (i : Nat) (t : T) : Env := match ρ[i]? with
  | some s => ρ.set i (s.with t)
  | none => ρ
def outp (ρ : Env) : List Ar → Env → Option Env
  | [], _ => some ρ
  | .v _ :: as, _ :: ps => outp ρ as ps
  | .m i :: as, .bor t :: ps => (outp ρ as ps).map fun ρ' => setW ρ' i t
  | _, _ => none
def fit (ρ : Env) (as : List Ar) (r : RF) : R Slot := match r with
  | .ok s ps => match outp ρ as ps with
    | some ρ' => .ok s ρ'
    | none => .bad
  | .ex c v ps => match outp ρ as ps with
    | some ρ' => .ex c v ρ'
    | none => .bad
  | .bad => .bad
def callM (F : FT) (ma : M (List Ar)) : M Slot := ma.bind fun as ρ => if (mss as).Nodup then (match inp ρ as with
  | some ins => fit ρ as (F ins)
  | none => .bad) else .bad
def ArR (K : PySem.W.Frag) (x : Sx) (v : V) : Ar → Prop
  | .v t => Rep K x.F x.H v t
  | .m i => x.σ[i]? = some (some v)
inductive ArRs (K : PySem.W.Frag) (x : Sx) : List V → List Ar → Prop
  | nil : ArRs K x [] []
  | cons {v : V} {a : Ar} {vs : List V} {as : List Ar} : ArR K x v a → ArRs K x vs as → ArRs K x (v :: vs) (a :: as)
section
variable {K : PySem.W.Frag} {β : Bc} {x y z : Sx} {vs : List V} {as : List Ar}
theorem ArRs.len (h : ArRs K x vs as) : vs.length = as.length := by
  induction h with
  | nil => rfl
  | cons _ _ ih => simp [ih]
theorem ArRs.get {j : Nat} {v : V} (h : ArRs K x vs as) (e : vs[j]? = some v) : ∃ a, as[j]? = some a ∧ ArR K x v a := by
  induction h generalizing j with
  | nil => simp at e
  | @cons v' a' vs' as' r rs ih =>
    cases j with
    | zero => simp at e; subst e; exact ⟨a', rfl, r⟩
    | succ j => simpa using ih (by simpa using e)
theorem ArRs.mono (n : Nx K β x y) (hs : St K β x) (e : y.σ = x.σ) (h : ArRs K x vs as) : ArRs K y vs as := by
  induction h with
  | nil => exact .nil
  | @cons v a _ _ r _ ih =>
    refine .cons ?_ ih
    cases a with
    | v t => exact n.2.rep hs r
    | m i => show y.σ[i]? = _; rw [e]; exact r
theorem inp_get {ρ : Env} : ∀ {as : List Ar} {ins : Env}, inp ρ as = some ins → ins.length = as.length ∧ ∀ (j : Nat) (s : Slot), ins[j]? = some s → (∃ t, s = .val t ∧ as[j]? = some (.v t)) ∨ ∃ i t, s = .bor t ∧ as[j]? = some (.m i) ∧ lentT ρ i = some t
  | [], _, e => by cases e; exact ⟨rfl, fun j s h => by simp at h⟩
  | .v t :: as, ins, e => by
    simp only [inp, Option.map_eq_some_iff] at e
    obtain ⟨qs, e1, rfl⟩ := e
    obtain ⟨l, h⟩ := inp_get e1
    refine ⟨by simp [l], fun j s hj => ?_⟩
    cases j with
    | zero => simp at hj; subst hj; exact .inl ⟨t, rfl, rfl⟩
    | succ j => simpa using h j s (by simpa using hj)
  | .m i :: as, ins, e => by
    simp only [inp, Option.bind_eq_some_iff, Option.map_eq_some_iff] at e
    obtain ⟨t, e0, qs, e1, rfl⟩ := e
    obtain ⟨l, h⟩ := inp_get e1
    refine ⟨by simp [l], fun j s hj => ?_⟩
    cases j with
    | zero => simp at hj; subst hj; exact .inr ⟨i, t, rfl, rfl, e0⟩
    | succ j => simpa using h j s (by simpa using hj)
theorem mss_mem : ∀ {as : List Ar} {j i : Nat}, as[j]? = some (.m i) → i ∈ mss as
  | a :: as, 0, i, e => by simp at e; subst e; simp [mss]
  | a :: as, j + 1, i, e => by
    have := mss_mem (as := as) (j := j) (i := i) (by simpa using e)
    cases a with
    | v t => exact this
    | m k => exact List.mem_cons_of_mem _ this
theorem mss_of : ∀ {as : List Ar} {i : Nat}, i ∈ mss as → ∃ j : Nat, as[j]? = some (Ar.m i)
  | .v t :: as, i, h => by
    obtain ⟨j, e⟩ := mss_of (as := as) (i := i) h
    exact ⟨j + 1, by simpa using e⟩
  | .m k :: as, i, h => by
    rcases List.mem_cons.mp h with h | h
    · subst h; exact ⟨0, rfl⟩
    · obtain ⟨j, e⟩ := mss_of (as := as) (i := i) h
      exact ⟨j + 1, by simpa using e⟩
theorem mss_inj : ∀ {as : List Ar} {j k i : Nat}, (mss as).Nodup → as[j]? = some (.m i) → as[k]? = some (.m i) → j = k
  | [], j, k, i, _, e, _ => by simp at e
  | a :: as, 0, 0, i, _, _, _ => rfl
  | a :: as, 0, k + 1, i, n, e, e' => by
    simp at e; subst e
    exact absurd (mss_mem (as := as) (by simpa using e')) (List.nodup_cons.mp n).1
  | a :: as, j + 1, 0, i, n, e', e => by
    simp at e; subst e
    exact absurd (mss_mem (as := as) (by simpa using e')) (List.nodup_cons.mp n).1
  | a :: as, j + 1, k + 1, i, n, e, e' => by
    have n' : (mss as).Nodup := by
      cases a with
      | v t => exact n
      | m q => exact (List.nodup_cons.mp n).2
    have := mss_inj (as := as) (j := j) (k := k) (i := i) n' (by simpa using e) (by simpa using e')
    omega
theorem setW_get {ρ : Env} {i k : Nat} {t : T} : (setW ρ i t)[k]? = if i = k then (ρ[k]?).map (fun s => s.with t) else ρ[k]? := by
  unfold setW
  cases q : ρ[i]? with
  | none =>
    by_cases e : i = k
    · subst e; rw [if_pos rfl, q]; rfl
    · rw [if_neg e]
  | some s =>
    by_cases e : i = k
    · subst e
      rw [if_pos rfl, List.getElem?_set_self (List.getElem?_eq_some_iff.mp q).1, q]
      rfl
    · rw [if_neg e]
      exact List.getElem?_set_ne e
theorem setW_len {ρ : Env} {i : Nat} {t : T} : (setW ρ i t).length = ρ.length := by
  unfold setW
  split
  · simp
  · rfl
theorem outp_get {ρ : Env} : ∀ {as : List Ar} {ps ρ' : Env}, (mss as).Nodup → outp ρ as ps = some ρ' → ρ'.length = ρ.length ∧ (∀ i, i ∉ mss as → ρ'[i]? = ρ[i]?) ∧ ∀ j i : Nat, as[j]? = some (Ar.m i) → ∃ t, ps[j]? = some (Slot.bor t) ∧ ρ'[i]? = (ρ[i]?).map fun s => s.with t
  | [], _, _, _, e => by cases e; exact ⟨rfl, fun _ _ => rfl, fun j i h => by simp at h⟩
  | .v t :: as, [], ρ', n, e => by cases e
  | .v t :: as, p :: ps, ρ', n, e => by
    obtain ⟨l, h1, h2⟩ := outp_get (as := as) (ps := ps) n e
    refine ⟨l, h1, fun j i h => ?_⟩
    cases j with
    | zero => simp at h
    | succ j => simpa using h2 j i (by simpa using h)
  | .m q :: as, [], ρ', n, e => by cases e
  | .m q :: as, .un :: ps, ρ', n, e => by cases e
  | .m q :: as, .val _ :: ps, ρ', n, e => by cases e
  | .m q :: as, .own _ :: ps, ρ', n, e => by cases e
  | .m q :: as, .bor t :: ps, ρ', n, e => by
    simp only [outp, Option.map_eq_some_iff] at e
    obtain ⟨ρ1, e1, rfl⟩ := e
    obtain ⟨n1, n2⟩ := List.nodup_cons.mp n
    obtain ⟨l, h1, h2⟩ := outp_get (as := as) (ps := ps) n2 e1
    refine ⟨by rw [setW_len, l], fun i hi => ?_, fun j i h => ?_⟩
    · have ne : q ≠ i := fun e => hi (by simp [mss, e])
      rw [setW_get, if_neg ne]
      exact h1 i fun hm => hi (List.mem_cons_of_mem _ hm)
    · cases j with
      | zero =>
        simp at h; subst h
        refine ⟨t, rfl, ?_⟩
        rw [setW_get, if_pos rfl, h1 _ n1]
      | succ j =>
        have h' : as[j]? = some (.m i) := by simpa using h
        obtain ⟨u, e1, e2⟩ := h2 j i h'
        refine ⟨u, by simpa using e1, ?_⟩
        have ne : q ≠ i := fun e => n1 (e ▸ mss_mem h')
        rw [setW_get, if_neg ne]
        exact e2
/-- the call's world -/
theorem call_core {F : FT} {ins : Env} {Q : VK} {W : WX} (hs : St K β x) (ar : ArRs K x vs as) (nd : (mss as).Nodup) (ei : inp x.ρ as = some ins) (g : GoF K β W x (fit x.ρ as (F ins)) Q) :
    spD K F vs x.H Q (fun cls d H' => W cls d x.σ H') := by
  let β' : Bc := ⟨fun j => match vs[j]? with
    | some (.ref a) => some a
    | _ => none, fun _ => False⟩
  obtain ⟨il, ig⟩ := inp_get ei
  have al := ar.len
  have getV : ∀ {j : Nat} {o : Option V}, (vs.map some)[j]? = some o → ∃ v, o = some v ∧ vs[j]? = some v := fun {j o} e => by
    rw [List.getElem?_map] at e
    obtain ⟨v, e1, e2⟩ := Option.map_eq_some_iff.mp e
    exact ⟨v, e2.symm, e1⟩
  -- what is lent is owned
  have lent : ∀ {j i : Nat} {t : T}, as[j]? = some (.m i) → lentT x.ρ i = some t → ∃ a, vs[j]? = some (.ref a) ∧ Owns x.σ x.ρ i a ∧ ¬ x.F a ∧ OwnO K x.F x.H a t := fun {j i t} e1 e2 => by
    have hj : j < vs.length := by rw [al]; exact (List.getElem?_eq_some_iff.mp e1).1
    obtain ⟨a', e3, r⟩ := ar.get (List.getElem?_eq_getElem hj)
    rw [e1] at e3; cases e3
    unfold lentT at e2
    cases q : x.ρ[i]? with
    | none => rw [q] at e2; cases e2
    | some s =>
      rw [q] at e2
      have so := hs.slot i _ _ r q
      cases s with
      | un => cases e2
      | val _ => cases e2
      | old _ => cases e2
      | nl _ => cases e2
      | own u =>
        cases e2
        obtain ⟨a, ea, nf, ow⟩ := so
        have ea := Option.some.inj ea
        rw [ea] at r
        exact ⟨a, by rw [List.getElem?_eq_getElem hj, ea], ⟨r, t, .inl q⟩, nf, ow⟩
      | bor u =>
        cases e2
        obtain ⟨a, ea, _, nf, ow⟩ := so
        have ea := Option.some.inj ea
        rw [ea] at r
        exact ⟨a, by rw [List.getElem?_eq_getElem hj, ea], ⟨r, t, .inr q⟩, nf, ow⟩
  have own : ∀ {j : Nat} {a : Addr}, Owns (vs.map some) ins j a → ∃ i, as[j]? = some (.m i) ∧ Owns x.σ x.ρ i a := fun {j a} ⟨e1, u, e2⟩ => by
    obtain ⟨v, e3, e4⟩ := getV e1
    cases e3
    rcases e2 with e2 | e2
    · rcases ig j _ e2 with ⟨t, h, _⟩ | ⟨i, t, h, _⟩ <;> cases h
    · rcases ig j _ e2 with ⟨t, h, _⟩ | ⟨i, t, h, h1, h2⟩
      · cases h
      · obtain ⟨b, q1, q2, _⟩ := lent h1 h2
        rw [e4] at q1
        cases q1
        exact ⟨i, h1, q2⟩
  have owx : ∀ {a : Addr}, (Sx.mk x.F x.H (vs.map some) ins).ow a → x.ow a := fun ⟨j, w⟩ => let ⟨i, _, w⟩ := own w; ⟨i, w⟩
  have st : St K β' ⟨x.F, x.H, vs.map some, ins⟩ := by
    refine ⟨by show (vs.map some).length = ins.length; rw [List.length_map, al, il], fun j o s e1 e2 => ?_, fun j k a p q => ?_, hs.trk⟩
    · obtain ⟨v, rfl, e3⟩ := getV e1
      rcases ig j s e2 with ⟨t, rfl, h1⟩ | ⟨i, t, rfl, h1, h2⟩
      · obtain ⟨a', e4, r⟩ := ar.get e3
        rw [h1] at e4; cases e4
        exact ⟨v, rfl, r⟩
      · obtain ⟨b, q1, q2, q3, q4⟩ := lent h1 h2
        rw [e3] at q1
        cases q1
        refine ⟨b, rfl, ?_, q3, q4⟩
        show (match vs[j]? with | some (.ref a) => some a | _ => none) = some b
        rw [e3]
    · obtain ⟨i, h1, w1⟩ := own p
      obtain ⟨i', h2, w2⟩ := own q
      have := hs.apart i i' a w1 w2
      subst this
      exact mss_inj nd h1 h2
  refine ⟨β', x.F, ins, st, ?_, ?_⟩
  · refine List.all_eq_true.mpr fun s hm => ?_
    obtain ⟨j, e⟩ := List.getElem?_of_mem hm
    rcases ig j s e with ⟨t, rfl, _⟩ | ⟨_, t, rfl, _⟩ <;> rfl
  -- behind the call
  have beh : ∀ (F' : Addr → Prop) (H' : Hp) (ps ρ' : Env), outp x.ρ as ps = some ρ' → Nx K β' ⟨x.F, x.H, vs.map some, ins⟩ ⟨F', H', vs.map some, ps⟩ → Nx K β x ⟨F', H', x.σ, ρ'⟩ ∧ ∀ a, (Sx.mk F' H' x.σ ρ').ow a → x.ow a ∧ ((Sx.mk x.F x.H (vs.map some) ins).ow a → (Sx.mk F' H' (vs.map some) ps).ow a) := by
    intro F' H' ps ρ' eo n
    obtain ⟨ol, o1, o2⟩ := outp_get nd eo
    have fk : ∀ a u, x.F a → x.H a = some u → H' a = some u := fun a u f e => n.2.fk st a u f e
    -- owners are as they were
    have ownB : ∀ {i : Nat} {a : Addr}, Owns x.σ ρ' i a → Owns x.σ x.ρ i a := fun {i a} ⟨e1, u, e2⟩ => by
      by_cases hi : i ∈ mss as
      · obtain ⟨j, hj⟩ := mss_of hi
        obtain ⟨t, q1, q2⟩ := o2 j i hj
        rw [q2] at e2
        refine ⟨e1, ?_⟩
        cases q : x.ρ[i]? with
        | none => rw [q] at e2; rcases e2 with e2 | e2 <;> cases e2
        | some s =>
          rw [q] at e2
          cases s with
          | un => rcases e2 with e2 | e2 <;> cases e2
          | val _ => rcases e2 with e2 | e2 <;> cases e2
          | old _ => rcases e2 with e2 | e2 <;> cases e2
          | nl _ => rcases e2 with e2 | e2 <;> cases e2
          | own w => exact ⟨w, .inl rfl⟩
          | bor w => exact ⟨w, .inr rfl⟩
      · rw [o1 i hi] at e2
        exact ⟨e1, u, e2⟩
    refine ⟨⟨⟨by show x.σ.length = ρ'.length; rw [ol]; exact hs.len, fun i o s e1 e2 => ?_, fun i k a p q => hs.apart i k a (ownB p) (ownB q), n.1.trk⟩, ⟨n.2.ext, fun a u e w => n.2.keep a u e fun q => w (owx q), fun a f => ?_, fun a ⟨i, w⟩ => .inl ⟨i, ownB w⟩⟩⟩, fun a ⟨i, w⟩ => ⟨⟨i, ownB w⟩, fun ⟨j, wj⟩ => ?_⟩⟩
    · by_cases hi : i ∈ mss as
      · obtain ⟨j, hj⟩ := mss_of hi
        obtain ⟨t, q1, q2⟩ := o2 j i hj
        rw [q2] at e2
        obtain ⟨s0, e3, rfl⟩ := Option.map_eq_some_iff.mp e2
        have hjv : j < vs.length := by rw [al]; exact (List.getElem?_eq_some_iff.mp hj).1
        obtain ⟨a', e4, r⟩ := ar.get (List.getElem?_eq_getElem hjv)
        rw [hj] at e4; cases e4
        have er : o = some vs[j] := Option.some.inj (e1.symm.trans r)
        subst er
        obtain ⟨b, eb, eβ, nf, ow⟩ := n.1.slot j (some vs[j]) _ (by show (vs.map some)[j]? = _; rw [List.getElem?_map, List.getElem?_eq_getElem hjv]; rfl) q1
        have so := hs.slot i _ _ r e3
        cases s0 with
        | un => trivial
        | val u =>
          -- not lent
          exact so |> fun ⟨v, ev, rv⟩ => ⟨v, ev, rv.mono n.2.ext fk⟩
        | old u =>
          exact so |> fun ⟨v, ev, rv, sub⟩ => ⟨v, ev, rv.mono (fun _ f => f) (fun a u f => fk a u (sub a f)), fun a f => n.2.ext a (sub a f)⟩
        | nl u =>
          exact so |> fun ⟨a, vs, ea, fa, ha, ra, nw⟩ => ⟨a, vs, ea, n.2.ext a fa, fk a _ fa ha, ra.mono n.2.ext fk, nw⟩
        | own u => exact ⟨b, eb, nf, ow⟩
        | bor u =>
          obtain ⟨c, ec, eβ2, _, _⟩ := so
          rw [eb] at ec
          cases ec
          exact ⟨b, eb, eβ2, nf, ow⟩
      · rw [o1 i hi] at e2
        refine (hs.slot i o s e1 e2).mono n.2.ext fk fun a ea qs nf => ?_
        subst ea
        obtain ⟨u, qs⟩ := qs
        have wi : Owns x.σ x.ρ i a := ⟨e1, u, qs.elim (fun z => .inl (z ▸ e2)) fun z => .inr (z ▸ e2)⟩
        have nw : ¬ (Sx.mk x.F x.H (vs.map some) ins).ow a := fun ⟨j, w⟩ => by
          obtain ⟨i', h1, w'⟩ := own w
          have := hs.apart i i' a wi w'
          subst this
          exact hi (mss_mem h1)
        obtain ⟨_, t', oo⟩ := hs.noF ⟨i, wi⟩
        obtain ⟨o', ho⟩ := oo.there
        refine ⟨fun f => ?_, fun u e => n.2.keep a u e nw⟩
        rcases n.2.new a f with f | f | f | ⟨u, f, im⟩
        · exact nf f
        · exact nw f
        · have f : x.H a = none := f
          rw [ho] at f; cases f
        · exact oo.notImm f im
    · rcases n.2.new a f with f | f | f
      · exact .inl f
      · exact .inr (.inl (owx f))
      · exact .inr (.inr f)
    · obtain ⟨i', h1, w'⟩ := own wj
      obtain ⟨t, q1, _⟩ := o2 j i' h1
      obtain ⟨e1, _⟩ := wj
      exact ⟨j, e1, t, .inr q1⟩
  unfold fit at g
  cases q : F ins with
  | bad => rw [q] at g; exact g
  | ok s ps =>
    rw [q] at g
    simp only at g
    cases eo : outp x.ρ as ps with
    | none => simp only [eo] at g; exact g.elim
    | some ρ' =>
      simp only [eo] at g
      intro F' H' v n r
      obtain ⟨n2, ow2⟩ := beh F' H' ps ρ' eo n
      refine g F' H' v n2 ?_
      cases s with
      | un => exact r
      | val t => exact r
      | bor t => exact r
      | old t => exact r
      | nl t => exact r
      | own t =>
        obtain ⟨a, h1, h2, h3, h4, h5⟩ := r
        refine ⟨a, h1, h2, h3, fun w => ?_, h5.imp_left owx⟩
        obtain ⟨w1, w2⟩ := ow2 a w
        rcases h5 with h5 | h5
        · exact h4 (w2 h5)
        · obtain ⟨_, _, oo⟩ := hs.noF w1
          obtain ⟨o', ho⟩ := oo.there
          have h5 : x.H a = none := h5
          rw [ho] at h5; cases h5
  | ex c u ps =>
    rw [q] at g
    simp only at g
    cases eo : outp x.ρ as ps with
    | none => simp only [eo] at g; exact g.elim
    | some ρ' =>
      simp only [eo] at g
      exact fun F' H' cls d n r => g F' H' cls d (beh F' H' ps ρ' eo n).1 r
end
end Dv
/-! XA: errors of the package: made as values, raised. -/
namespace Dv
open PySem PySem.Spec PyProof.Rows L2 Hv HvE
theorem exk_ok {P : Program} {w : World} {H : Hp} {h : Heap} {a C d : Addr} {o : Obj} {vs : Array Value} (e : h.get? a = some o) (e1 : o.cls = .ref C) (e2 : o.dict = some d) (e3 : o.data = .fields vs) : ObjOk P w H h a (exk a C d) :=
  ⟨⟨o, vs, e, e1, e2, e3⟩, ⟨o, e⟩, fun _ _ ⟨o, vs, q, q1, q2, q3⟩ k => ⟨o, vs, k _ q, q1, q2, q3⟩⟩
theorem exk_at {P : Program} {w : World} {H : Hp} {h : Heap} {a C d : Addr} (hok : HOk P w H h) (he : H a = some (exk a C d)) : ∃ (o : Obj) (vs : Array Value), h.get? a = some o ∧ o.cls = .ref C ∧ o.dict = some d ∧ o.data = .fields vs := by
  have x : ObjOk P w H h a (.ext fun h => ∃ (o : Obj) (vs : Array Value), h.get? a = some o ∧ o.cls = .ref C ∧ o.dict = some d ∧ o.data = .fields vs) := hok a _ he
  exact x.1
/-- the dict of an error with its value -/
def xdv (v : V) : HO := .xd [("value", v)]
theorem xdv_ok {P : Program} {w : World} {H : Hp} {h : Heap} {d : Addr} {v : V} {u : Value} (r : RelV v u) (n : h.Ns1 d (fun y => if y = "value" then some u else none)) : ObjOk P w H h d (xdv v) := by
  refine ⟨_, n, fun f => ?_⟩
  by_cases hf : f = ("value" : Str)
  · subst hf
    rw [if_pos rfl]
    show RelO (List.lookup ("value" : Str) [(("value" : Str), v)]) _
    rw [List.lookup_cons_self]
    exact r
  · rw [if_neg hf]
    have e : List.lookup f [(("value" : Str), v)] = none := by
      rw [List.lookup_cons, beq_eq_false_iff_ne.mpr hf]; rfl
    rw [e]
    trivial
section
variable {X : Cx} {pins : List (Addr × Obj)} {σ : L2.St} {H : Hp} {s : Shared} {h' : Heap} {a d : Addr} {oa od : HO} {tk : Nat}
/-- two new objects at once -/
theorem laid2 (I : Inv X pins σ H s) (k : ∀ b u, s.heap.get? b = some u → h'.get? b = some u) (pa : s.heap.objs.size ≤ a) (pd : s.heap.objs.size ≤ d) (oka : ∀ H, ObjOk X.prog X.w H h' a oa) (okd : ∀ H, ObjOk X.prog X.w H h' d od) :
    Inv X pins σ (upd (upd H d od) a oa) { s with heap := h', toks := tk } := by
  have na : H a = none := I.hok.fresh pa
  have nd : H d = none := I.hok.fresh pd
  have up : ∀ b u, H b = some u → upd (upd H d od) a oa b = some u := fun b u q => by
    rw [upd_ne (ne_of_none q na), upd_ne (ne_of_none q nd)]; exact q
  refine I.un ⟨fun b u q _ _ _ => k b u q, fun b u q _ _ _ => ⟨u.slots, k b u q⟩, fun b u q n _ => ?_, fun b u q _ => ⟨u, k b u q⟩, fun b xs q => up b _ q, fun b u xs q => up b _ q, fun b ps q => ⟨#[], by rw [up b _ q]; simp⟩⟩ fun b u q => ?_
  · have l := Heap.lt_size q
    rw [upd_ne (Nat.ne_of_lt (Nat.lt_of_lt_of_le l pa)), upd_ne (Nat.ne_of_lt (Nat.lt_of_lt_of_le l pd))]; exact n
  · by_cases ha : b = a
    · subst ha; rw [upd_same] at q; cases q; exact oka _
    rw [upd_ne ha] at q
    by_cases hd : b = d
    · subst hd; rw [upd_same] at q; cases q; exact okd _
    rw [upd_ne hd] at q
    exact (I.hok b u q).stay (fun c v _ z => k c v z) (fun c z => up c _ z) fun c xs z => up c _ z
end
section
variable {X : Cx} {W : WX} {e : Expr} {c : Str} {C D fI : Addr} {t : TA} {p pos : Pos} {j : Nat}
/-- what C(v) makes -/
def tXmk (C : Addr) (t : TA) : TE := fun σ H Q => t σ H fun vs H1 => ∃ v, vs = [v] ∧ ∀ a d, a ≠ d → H1 a = none → H1 d = none → Q (.ref a) (upd (upd H1 d (xdv v)) a (exk a C d))
theorem pe_xmk (T : HovT X.prog X.K D fI) (U : ExcT X.K D fI C) (hm : X.mg c = some (.ref C)) (hg : Gl X c) (hr : RoomG 2 X.A) (ha : PA X [e] t)
    (hdb : (c == ("__debug__" : Str)) = false := by decide) (he : starEach [e] X.env = (false, eval e X.env) :: starEach [] X.env := by rfl)
    (hpl : (backTo pos (starEach [] X.env)).any (·.1) = false := by rfl) : PE X (.Call (.Name c p) [e] [] pos) (tXmk C t) := by
  refine ⟨fun pins s σ H Q I h => ?_⟩
  refine wpAny_Call_Name_kw (ld_glob I hg hm ?_ hdb)
  refine PySem.W.callWith_K (h₀ := X.base) I.ok.mod.kin U.kC (thn (ha.run pos pins s σ H _ I h) fun us s1 ⟨vs, H1, I1, r, v, ev, q⟩ => ⟨I1.kIn, ?_⟩) he hpl
  subst ev
  cases r with
  | cons r0 rs =>
  cases rs
  obtain ⟨mb, hmb, hbb⟩ := I1.mod.blt
  obtain ⟨h1, g1, d1, t1, os1⟩ := s1
  refine wpAny_call (hov_made T U I1.kIn (I1.mod.glob.keeps I1.bk) (hmb.keeps I1.bk) hbb I1.nolimit ?_ fun h' tk a d om => ?_)
  · have := hr.r.dp; omega
  · obtain ⟨kp, nw, ⟨oe, ws, e1, e2, e3, e4, _⟩, db, dne, ns⟩ := om
    have I2 := laid2 (tk := tk) (oa := exk a C d) (od := xdv v) I1 kp nw db (fun _ => exk_ok e1 e2 e3 e4) (fun _ => xdv_ok r0 ns)
    refine ⟨V.ref a, _, I2, rfl, q a d (Ne.symm dne) (I1.hok.fresh nw) (I1.hok.fresh db)⟩
/-- what raise C(v) lets fly -/
def tXrs (C : Addr) (t : TA) : L2.St → Hp → XK → Prop := fun σ H Q => t σ H fun vs H1 => ∃ v, vs = [v] ∧ ∀ d, H1 d = none → Q (.ref C) (some d) (upd H1 d (xdv v))
theorem pmk_x (T : HovT X.prog X.K D fI) (U : ExcT X.K D fI C) (hm : X.mg c = some (.ref C)) (hg : Gl X c) (hr : RoomG 2 X.A) (ha : PA X [e] t)
    (hdb : (c == ("__debug__" : Str)) = false := by decide) (he : starEach [e] X.env = (false, eval e X.env) :: starEach [] X.env := by rfl)
    (hpl : (backTo pos (starEach [] X.env)).any (·.1) = false := by rfl) : PMk X (.Call (.Name c p) [e] [] pos) (tXrs C t) := by
  intro pins s σ H Q I h
  refine wpAny_Call_Name_kw (ld_glob I hg hm ?_ hdb)
  refine PySem.W.callWith_K (h₀ := X.base) I.ok.mod.kin U.kC (thn (ha.run pos pins s σ H _ I h) fun us s1 ⟨vs, H1, I1, r, v, ev, q⟩ => ⟨I1.kIn, ?_⟩) he hpl
  subst ev
  cases r with
  | cons r0 rs =>
  cases rs
  obtain ⟨mb, hmb, hbb⟩ := I1.mod.blt
  obtain ⟨h1, g1, d1, t1, os1⟩ := s1
  refine wpAny_call (hov_made T U I1.kIn (I1.mod.glob.keeps I1.bk) (hmb.keeps I1.bk) hbb I1.nolimit ?_ fun h' tk a d om => ?_)
  · have := hr.r.dp; omega
  · obtain ⟨kp, nw, ⟨oe, ws, e1, e2, e3, e4, e5, e6, e7⟩, db, dne, ns⟩ := om
    obtain ⟨G, k1, k2⟩ := restrict h' fun b => decide (b ≠ a)
    have ka : ∀ b u, h1.get? b = some u → b ≠ a := fun b u q z => absurd (Nat.lt_of_lt_of_le (Heap.lt_size q) (z ▸ nw)) (Nat.lt_irrefl _)
    have kG : ∀ b u, h1.get? b = some u → G.get? b = some u := fun b u q => by
      rw [k1 b (decide_eq_true (ka b u q))]; exact kp b u q
    have I2 : Inv X pins σ (upd H1 d (xdv v)) ⟨G, g1, d1, tk, os1⟩ := I1.laid (t' := tk) (a := d) (o := xdv v) kG db (xdv_ok r0 (ns.at fun o q => by rw [k1 d (decide_eq_true dne)]; exact q))
    refine ⟨a, oe, ws, ⟨G, g1, d1, tk, os1⟩, _, .ref C, some d, rfl, I2, fun b u q => ?_, k2 a (decide_eq_false fun z => z rfl), e1, ⟨e2, e3⟩, e4, e5, ?_, rfl, I1.bare, raises_own U.exC U.tyC, q d (I1.hok.fresh db)⟩
    · by_cases z : b = a
      · subst z; rw [k2 b (decide_eq_false fun z => z rfl)] at q; cases q
      · rw [← k1 b (decide_eq_true z)]; exact q
    · rw [upd_ne (Ne.symm dne)]; exact I1.hok.fresh nw
end
section
variable {X : Cx} {W : WX} {e : Expr} {c : Str} {D fI : Addr} {p pos pos' : Pos} {m : M T}
theorem rep_laid {K : PySem.W.Frag} {β : Bc} {x : Sx} {v : V} {t : T} {q : Addr} {o : HO} (h : St K β x) (hp : x.H q = none) (r : Rep K x.F x.H v t) : Rep K (addF x.F q) (upd x.H q o) v t := by
  have z := Reps.laid (o := o) h hp (.cons r .nil)
  cases z with
  | cons r _ => exact r
/-- raise c(m) -/
def raiseS (c : Str) (m : M T) : S := fun ρ => match m ρ with
  | .ok u ρ1 => .ex c u ρ1
  | .ex c' v ρ1 => .ex c' v ρ1
  | .bad => .bad
theorem dens_raise (T : HovT X.prog X.K D fI) (U : ExcT X.K D fI (He.ga X.K c)) (hm : X.mg c = some (.ref (He.ga X.K c))) (hr : RoomG 2 X.A) (hc : X.calm = true) (tk : Takes X W) (h : Den X W e m) (hg : Gl X c := by rfl)
    (hdb : (c == ("__debug__" : Str)) = false := by decide) (he : starEach [e] X.env = (false, eval e X.env) :: starEach [] X.env := by rfl)
    (hpl : (backTo pos (starEach [] X.env)).any (·.1) = false := by rfl) : DenS X W (.Raise (some (.Call (.Name c p) [e] [] pos)) none pos') (raiseS c m) := by
  intro β x Dn hs g
  refine ⟨_, ps_raise hc tk (pmk_x T U hm hg hr pa_av hdb he hpl), ?_⟩
  refine av_cons (h β x _ hs ?_) he
  unfold raiseS at g
  cases q : m x.ρ with
  | ok u ρ1 =>
    rw [q] at g
    intro F1 H1 v n1 r
    refine av_nil ⟨v, rfl, fun d hd => ?_⟩
    have n2 := Nx.laid (x := ⟨F1, H1, x.σ, ρ1⟩) (o := xdv v) n1.1 hd
    exact g _ _ _ _ _ (n1.trans n2) ⟨d, v, rfl, rfl, .inr rfl, upd_same, rep_laid n1.1 hd r⟩
  | ex c' v ρ1 => rw [q] at g; exact fun F' H' cls d n r => g F' H' _ cls d n r
  | bad => rw [q] at g; exact g
/-- c(m), a new error as a value -/
def xmk (c : Str) (m : M T) : M T := m.bind fun u => M.pure (.exc c u)
theorem den_xmk (T : HovT X.prog X.K D fI) (U : ExcT X.K D fI (He.ga X.K c)) (hm : X.mg c = some (.ref (He.ga X.K c))) (hr : RoomG 2 X.A) (h : Den X W e m) (hg : Gl X c := by rfl)
    (hdb : (c == ("__debug__" : Str)) = false := by decide) (he : starEach [e] X.env = (false, eval e X.env) :: starEach [] X.env := by rfl)
    (hpl : (backTo pos (starEach [] X.env)).any (·.1) = false := by rfl) : Den X W (.Call (.Name c p) [e] [] pos) (xmk c m) := by
  intro β x Q hs g
  refine ⟨_, pe_xmk T U hm hg hr pa_av hdb he hpl, ?_⟩
  refine av_cons (ev_mono (h.then hs g) ?_) he
  rintro v H1 ⟨F1, ρ1, u, at1, _, g1⟩
  refine av_nil ⟨v, rfl, fun a d ne ha hd => ?_⟩
  have g1 : GoE X.K β W ⟨F1, H1, x.σ, ρ1⟩ (.ok (.exc c u) ρ1) Q := g1
  have n1 := Nx.laid (x := ⟨F1, H1, x.σ, ρ1⟩) (o := xdv v) at1.nx.1 hd
  have ha' : upd H1 d (xdv v) a = none := by rw [upd_ne ne]; exact ha
  have n2 := Nx.laid (x := ⟨addF F1 d, upd H1 d (xdv v), x.σ, ρ1⟩) (o := exk a (He.ga X.K c) d) n1.1 ha'
  refine g1 _ _ _ (n1.trans n2) (.obj (.inr rfl) (.exc upd_same (.inl (.inr rfl)) (by rw [upd_ne (Ne.symm ne)]; exact upd_same) ?_))
  exact rep_laid n1.1 ha' (rep_laid (x := ⟨F1, H1, x.σ, ρ1⟩) at1.nx.1 hd at1.rep)
end
end Dv
/-! XB: try: .. except E as n: y = n: the error is kept as a value. -/
namespace Dv
open PySem PySem.Spec PyProof.Rows L2 Hv HvE
section
variable {X : Cx} {pins : List (Addr × Obj)} {σ : L2.St} {H : Hp} {s : Shared} {a C d : Addr} {oe : Obj} {vs : Array Value}
/-- a pinned error becomes one that is known -/
theorem inv_keep (I : Inv X ((a, oe) :: pins) σ H s) (h0 : X.s_0.heap.get? a = none) (hp : ∀ p ∈ X.pn ++ pins, p.1 ≠ a) (e1 : oe.cls = .ref C) (e2 : oe.dict = some d) (e3 : oe.data = .fields vs) : Inv X pins σ (upd H a (exk a C d)) s := by
  obtain ⟨ha, na, nL, nF, nc⟩ := I.pin (a, oe) (List.mem_append_right _ List.mem_cons_self)
  have ha : s.heap.get? a = some oe := ha
  have na : H a = none := na
  have up : ∀ b u, H b = some u → upd H a (exk a C d) b = some u := fun b u q => by
    rw [upd_ne (ne_of_none q na)]; exact q
  refine ⟨I.ok, I.os, I.bare, ⟨I.base.keep, I.base.slot, fun b o q n hx => ?_, I.base.there, fun b xs q => up b _ (I.base.tups b xs q), fun b o u q => up b _ (I.base.frzs b o u q), fun b ps q => ?_⟩, I.loc, I.cell, ?_, fun x c q => ?_, fun p q => ?_, fun b u q => ?_, I.len⟩
  · have ne : b ≠ a := fun z => by rw [z, h0] at q; cases q
    rw [upd_ne ne]; exact I.base.free b o q n hx
  · obtain ⟨more, z⟩ := I.base.tbls b ps q
    exact ⟨more, up b _ z⟩
  · rw [upd_ne (Ne.symm nL)]; exact I.free
  · have ne : c ≠ a := fun z => by
      obtain ⟨v, o, i1, i2⟩ := I.cell x c q
      subst z
      rw [ha] at i1; cases i1
      exact nc v i2
    rw [upd_ne ne]; exact I.freeC x c q
  · obtain ⟨q1, q2, q3, q4, q5⟩ := I.pin p (by
      rcases List.mem_append.mp q with z | z
      · exact List.mem_append_left _ z
      · exact List.mem_append_right _ (List.mem_cons_of_mem _ z))
    exact ⟨q1, by rw [upd_ne (hp p q)]; exact q2, q3, q4, q5⟩
  · by_cases z : b = a
    · subst z; rw [upd_same] at q; cases q; exact exk_ok ha e1 e2 e3
    · rw [upd_ne z] at q
      exact (I.hok b u q).stay (fun c v _ z => z) (fun c z => up c _ z) fun c xs z => up c _ z
end
section
variable {X : Cx} {i j : Nat} {x n y : Str} {c : Value} {np p1 p2 p3 pos pos' : Pos} {body : List Stmt} {tb : WX → TS}
/-- what 'except c as n: y = n' takes: n in slot i, y in slot j -/
def wKeep (K : PySem.W.Frag) (c : Value) (i j : Nat) (D : Ends) : WX := fun cls d σ H =>
  PySem.W.exmOne K cls c = some true ∧ ∃ C dx, cls = .ref C ∧ d = some dx ∧ ∀ a, H a = none → D.nx (((σ.set i (some (.ref a))).set j (some (.ref a))).set i none) (upd H a (exk a C dx))
/-- the clause, the error having landed -/
theorem keep_lands {pins : List (Addr × Obj)} {D : Ends} {B : Heap} {sI s' : Shared} {σ : L2.St} {H : Hp} {cls : Value} {d : Option Addr} {a : Addr} (hs : X.stack = X.env :: X.outer) (hf : X.env.frame = some X.env.locals) (hex : X.ex = []) (hN : X.N.Nodup) (hi : X.N[i]? = some n) (hj : X.N[j]? = some y)
    (hln : X.env.kindOf n = some .local) (hvn : Vis X.env.scope n) (hly : Loc X.env.scope y) (hfy : X.fn y = true ∨ X.env.scope.names.lookup y = some .local) (hc : Names X x c)
    (hnd : (n == ("__debug__" : Str)) = false) (hcd : (n == ("__classdict__" : Str)) = false) (hij : σ.length = X.N.length)
    (J : Inv X pins σ H sI) (nb : ∀ b o, sI.heap.get? b = some o → b ∉ frs X.stack → B.get? b = some o) (up : sI.heap.UpToSlots s'.heap) (sky : Sky B (X.env :: X.outer) a (Zc cls d) X.env.locals s'.heap) (na : H a = none) (os : s'.os = sI.os) (ag : AllBare s'.gens)
    (w : wKeep X.K c i j D cls d σ H) :
    wpAny (model X.prog X.w) X.A (noteFrame (.ref a) X.env) (fun _ s₂ => wpAny (model X.prog X.w) X.A (setFlight (.ref a) none) (fun _ s₃ =>
      wpAny (model X.prog X.w) X.A (handleBy (.ref a) X.env [.ExceptHandler (some (.Name x np)) (some n) [.Assign [.Name y p1] (.Name n p2) p3] pos']) (SP X pins D) X.xe s₃) X.xe s₂) X.xe s' := by
  obtain ⟨w1, C, dx, ecls, ed, wq⟩ := w
  subst ecls ed
  have hfr : X.A.frames = some (X.env :: X.outer) := by rw [J.ok.frames, hs]
  refine Sky.land Zc.steady hfr hf sky fun hA flA upA => ?_
  have JA : Inv X pins σ H { s' with heap := hA } := J.landed nb flA.1 (up.trans upA) os ag
  obtain ⟨oA, vA, gA, zA, dA⟩ := flA.there
  have far : a ∉ frs (X.env :: X.outer) := fun hm => by
    obtain ⟨_, o', q, r⟩ := flA.2.2.1.mem hm
    rw [gA] at q; cases q
    exact r _ dA
  have farL : a ≠ X.env.locals := fun z => far (List.mem_filterMap.mpr ⟨X.env, List.mem_cons_self, by rw [hf, z]⟩)
  have farF : a ∉ X.fs := fun hm => by
    obtain ⟨v, hv, q⟩ := List.mem_filterMap.mp hm
    exact far (List.mem_filterMap.mpr ⟨v, List.mem_cons_of_mem _ hv, q⟩)
  have notI : sI.heap.get? a = none := by
    cases q : sI.heap.get? a with
    | none => rfl
    | some o =>
      have z := nb a o q (by rw [hs]; exact far)
      rw [flA.2.1] at z; cases z
  have not0 : X.s_0.heap.get? a = none := by
    cases q : X.s_0.heap.get? a with
    | none => rfl
    | some o =>
      obtain ⟨o', z⟩ := J.base.there a o q (by rw [hex]; exact List.not_mem_nil)
      rw [notI] at z; cases z
  have notP : ∀ p ∈ X.pn ++ pins, p.1 ≠ a := fun p hp z => by
    have q := (J.pin p hp).1
    rw [z, notI] at q; cases q
  have SA := JA.suite gA dA na farL farF
  refine wpAny_handleBy_cons (codeAny_handlers_test ?_) (by intro q; cases q)
  have lk := PySem.W.exm_one (M := model X.prog X.w) JA.kIn (fun A Q E s k q => wpAny_typeOf_ref (k _ _ gA) (by rw [zA.1]; exact q)) w1
  have tst : ∀ {Q E : Value → Shared → Prop}, Q c { s' with heap := hA } → wpAny (model X.prog X.w) (X.A.mark (some (.ref a))) (eval (.Name x np) X.env) Q E { s' with heap := hA } := fun q => by
    rcases hc with ⟨g1, g2, g3 | ⟨g3, g4, g5⟩⟩
    · exact ld_glob (X := X.suite a ((a, oA) :: (X.pn ++ pins))) SA g1 g3 q g2
    · exact ld_blt (X := X.suite a ((a, oA) :: (X.pn ++ pins))) SA g1 g3 g4 q g5 g2
  refine tst (lk.here (codeAny_handlers_suite_as ?_))
  refine HandSPX.lands_againZ flA fun hB flB upB => ?_
  have JB : Inv X pins σ H { s' with heap := hB } := J.landed nb flB.1 ((up.trans upA).trans upB) os ag
  obtain ⟨oB, vB, gB, zB, dB⟩ := flB.there
  have SB := JB.suite gB dB na farL farF
  refine store_ok (X := X.suite a ((a, oB) :: (X.pn ++ pins))) (v := .ref a) SB hN hi (.inl hln) rfl (fun s5 S5 => ?_) (.inr hln)
  have il : i < σ.length := by rw [hij]; exact (List.getElem?_eq_some_iff.mp hi).1
  have run := (pss_bv (X := X.suite a ((a, oB) :: (X.pn ++ pins)))).run [] s5 _ H { nx := fun σ6 H6 => σ6 = (σ.set i (some (.ref a))).set j (some (.ref a)) ∧ H6 = H, rt := fun _ _ => False, bk := fun _ _ => False, ct := fun _ _ => False } S5
    (bv_cons (sts := []) (st := .Assign [.Name y p1] (.Name n p2) p3) (sv_set j hj hN hly (ev_var i (pe_var hi hvn hnd hcd) (by rw [List.getElem?_set_self il]) (bv_nil ⟨rfl, rfl⟩)) (by rfl) hfy))
  refine wpAny_mono run (fun f s6 z => ?_) (fun _ _ z => False.elim z)
  cases f with
  | next =>
    obtain ⟨σ6, H6, S6, e6, e7⟩ := z
    subst e6 e7
    have J6 : Inv X ((a, oB) :: pins) ((σ.set i (some (.ref a))).set j (some (.ref a))) H6 s6 := ⟨J.ok, S6.os, S6.bare, S6.base, S6.loc, S6.cell, S6.free, S6.freeC, fun p hp => S6.pin p (List.mem_append_left _ (by
      rcases List.mem_append.mp hp with z | z
      · exact List.mem_cons_of_mem _ (List.mem_append_left _ z)
      · rcases List.mem_cons.mp z with z | z
        · exact z ▸ List.mem_cons_self
        · exact List.mem_cons_of_mem _ (List.mem_append_right _ z))), S6.hok, S6.len⟩
    refine gone_ok J6 hN hi hln fun s7 J7 => ?_
    exact ⟨_, _, inv_keep J7 not0 notP zB.1 zB.2 dB, wq a na⟩
  | brk => obtain ⟨_, _, _, z⟩ := z; exact z.elim
  | cont => obtain ⟨_, _, _, z⟩ := z; exact z.elim
  | ret u => obtain ⟨_, _, _, _, _, z⟩ := z; exact z.elim
theorem ps_keep (hs : X.stack = X.env :: X.outer) (hf : X.env.frame = some X.env.locals) (hex : X.ex = []) (hN : X.N.Nodup) (hi : X.N[i]? = some n) (hj : X.N[j]? = some y)
    (hln : X.env.kindOf n = some .local) (hvn : Vis X.env.scope n) (hly : Loc X.env.scope y) (hfy : X.fn y = true ∨ X.env.scope.names.lookup y = some .local) (hc : Names X x c)
    (hb : ∀ (W : WX) (pn : List (Addr × Obj)) (xe : Value → Shared → Prop), Takes (X.tr pn xe) W → PassesOwn (model X.prog X.w) X.A X.env xe → PSs (X.tr pn xe) body (tb W))
    (hnd : (n == ("__debug__" : Str)) = false := by decide) (hcd : (n == ("__classdict__" : Str)) = false := by decide) :
    PS X (.Try body [.ExceptHandler (some (.Name x np)) (some n) [.Assign [.Name y p1] (.Name n p2) p3] pos'] [] [] pos) (fun D σ H => tb (wKeep X.K c i j D) D σ H) := by
  refine ⟨fun pins s σ H D I h => wpAny_Try_except (wpAny_mono ((hb (wKeep X.K c i j D) (X.pn ++ pins) _ (fun u s' q => ?_) PassesOwn.looking).run [] s σ H D (I.toTry _) h) (fun f s1 z => ?_) (fun e s1 q => q))⟩
  · obtain ⟨a, B, sI, pins', σ', H', cls, d, rfl, J', nb, up, sky, na, os, ag, w⟩ := q
    have J : Inv X pins σ' H' sI := J'.ofTry I.ok
    exact keep_lands hs hf hex hN hi hj hln hvn hly hfy hc hnd hcd J.len J nb up (hs ▸ sky) na os ag w
  · cases f with
    | next => obtain ⟨σ2, H2, J2, q⟩ := z; exact wpAny_execs_nil ⟨σ2, H2, J2.ofTry I.ok, q⟩
    | brk => obtain ⟨σ2, H2, J2, q⟩ := z; exact ⟨σ2, H2, J2.ofTry I.ok, q⟩
    | cont => obtain ⟨σ2, H2, J2, q⟩ := z; exact ⟨σ2, H2, J2.ofTry I.ok, q⟩
    | ret u => obtain ⟨v, σ2, H2, J2, r, q⟩ := z; exact ⟨v, σ2, H2, J2.ofTry I.ok, r, q⟩
/-- try: mb / except one of cs as i: j = i -/
def keepS (cs : Str → Bool) (i j : Nat) (mb : S) : S := fun ρ => match mb ρ with
  | .ex c u ρ1 => if cs c = true then .nx (((ρ1.set i (.val (.exc c u))).set j (.val (.exc c u))).set i .un) else .bad
  | r => r
theorem dens_keep {W0 : WX} {mb : S} {cs : Str → Bool} (hs : X.stack = X.env :: X.outer) (hf : X.env.frame = some X.env.locals) (hex : X.ex = []) (hN : X.N.Nodup) (hi : X.N[i]? = some n) (hj : X.N[j]? = some y)
    (hln : X.env.kindOf n = some .local) (hvn : Vis X.env.scope n) (hly : Loc X.env.scope y) (hfy : X.fn y = true ∨ X.env.scope.names.lookup y = some .local) (hc : Names X x c)
    (hcs : ∀ c', cs c' = true → PySem.W.exmOne X.K (.ref (He.ga X.K c')) c = some true)
    (hb : ∀ (W : WX) (pn : List (Addr × Obj)) (xe : Value → Shared → Prop), Takes (X.tr pn xe) W → PassesOwn (model X.prog X.w) X.A X.env xe → DenB (X.tr pn xe) W body mb)
    (hnd : (n == ("__debug__" : Str)) = false := by decide) (hcd : (n == ("__classdict__" : Str)) = false := by decide) :
    DenS X W0 (.Try body [.ExceptHandler (some (.Name x np)) (some n) [.Assign [.Name y p1] (.Name n p2) p3] pos'] [] [] pos) (keepS cs i j mb) := by
  intro β z D st g
  refine ⟨_, ps_keep (tb := fun W D σ H => ∃ β z, z.σ = σ ∧ z.H = H ∧ St X.K β z ∧ GoS X.K β W z D (mb z.ρ)) hs hf hex hN hi hj hln hvn hly hfy hc (fun W pn xe tk ps => ⟨fun pins s σ H D I q => ?_⟩) hnd hcd, β, z, rfl, rfl, st, ?_⟩
  · obtain ⟨β, z, rfl, rfl, st, g⟩ := q
    exact pss_bv.run pins s _ _ D I (hb W pn xe tk ps β z D st g)
  · unfold keepS at g
    cases q : mb z.ρ with
    | nx ρ1 => rw [q] at g; exact g
    | rt s ρ1 => rw [q] at g; exact g
    | bk ρ1 => rw [q] at g; exact g
    | ct ρ1 => rw [q] at g; exact g
    | bad => rw [q] at g; exact g
    | ex c' u ρ1 =>
      rw [q] at g
      by_cases h : cs c' = true
      · simp only [h, if_true] at g
        rintro F1 H1 σ1 cls d n1 ⟨dx, v, rfl, rfl, f1, h1, r1⟩
        refine ⟨hcs _ h, _, dx, rfl, rfl, fun a ha => ?_⟩
        have n2 := Nx.laid (x := ⟨F1, H1, σ1, ρ1⟩) (o := exk a (He.ga X.K c') dx) n1.1 ha
        have ne : dx ≠ a := fun e => by rw [e, ha] at h1; cases h1
        have r2 : Rep X.K (addF F1 a) (upd H1 a (exk a (He.ga X.K c') dx)) (.ref a) (.exc c' u) := .obj (.inr rfl) (.exc upd_same (.inl f1) (by rw [upd_ne ne]; exact h1) (rep_laid (x := ⟨F1, H1, σ1, ρ1⟩) n1.1 ha r1))
        have n3 := Nx.setV (x := ⟨addF F1 a, upd H1 a (exk a (He.ga X.K c') dx), σ1, ρ1⟩) (j := i) n2.1 r2
        have n4 := Nx.setV (x := ⟨addF F1 a, upd H1 a (exk a (He.ga X.K c') dx), σ1.set i (some (.ref a)), ρ1.set i (.val (.exc c' u))⟩) (j := j) n3.1 r2
        have n5 := Nx.setU (x := ⟨addF F1 a, upd H1 a (exk a (He.ga X.K c') dx), (σ1.set i (some (.ref a))).set j (some (.ref a)), (ρ1.set i (.val (.exc c' u))).set j (.val (.exc c' u))⟩) (j := i) (o := none) n4.1
        exact g _ _ _ ((((n1.trans n2).trans n3).trans n4).trans n5)
      · simp only [h] at g
        exact g.elim
end
end Dv
/-! XC: an error's value read. -/
namespace Dv
open PySem PySem.Spec PyProof.Rows L2 Hv HvE
section
variable {X : Cx} {W : WX} {e : Expr} {te : TE} {pos : Pos} {D fI : Addr}
/-- the value of an error that is kept -/
def tXv (K : PySem.W.Frag) (te : TE) : TE := fun σ H Q => te σ H fun x H1 => ∃ a C d v, x = .ref a ∧ H1 a = some (exk a C d) ∧ XfC K C ∧ PySem.W.findIn K (.ref C) "value" = some none ∧ H1 d = some (xdv v) ∧ Q v H1
theorem pe_xv (he : PE X e te) (hb : attributeBase e "value" X.env (eval e X.env) = eval e X.env := by rfl) : PE X (.Attribute e "value" pos) (tXv X.K te) := by
  refine ⟨fun pins s σ H Q I h => attr_of hb (thn (he.run pins s σ H _ I h) fun u s1 ⟨x, H1, I1, rx, a, C, d, v, ex, ha, T, hno, hd, q⟩ => ?_)⟩
  subst ex
  obtain rfl : u = Value.ref a := rx
  obtain ⟨o, vs, h1, h2, h3, h4⟩ := exk_at I1.hok ha
  obtain ⟨mA, hns, hr⟩ : ObjOk X.prog X.w H1 s1.heap d (.xd [(("value" : Str), v)]) := I1.hok d _ hd
  obtain ⟨od, ho, hl⟩ := lookIn_ns hns
  have lv : List.lookup ("value" : Str) [(("value" : Str), v)] = some v := List.lookup_cons_self
  obtain ⟨u, hu, ru⟩ := RelO.some_of (v := v) (o := mA "value") (by rw [← lv]; exact hr "value")
  exact HandSPX.exc_get I1.kIn (⟨h1, h2, by unfold PySem.W.notCls; rw [h4] <;> rfl, by rw [h3]; exact ho⟩ : PySem.W.InstAt s1.heap a o C (some od)) T.ga T.gg T.exC (PySem.W.findObj_own T.hdC hno rfl (by rw [hl, hu])) (handed_of ru) ⟨v, H1, I1.tok _, ru, q⟩
theorem xf_of {prog : Program} {K : PySem.W.Frag} {C : Addr} (U : ExcT K D fI C) : XfC K C := ⟨U.ga, U.gg, U.exC, U.hdC⟩
def excV (es : Str → Bool) : T → Option T
  | .exc c u => if es c = true then some u else none
  | _ => none
theorem den_excv {a : Expr} {ma : M Rdr} {es : Str → Bool} (hU : ∀ c, es c = true → ExcT X.K D fI (He.ga X.K c)) (ha : DenO X W a ma) (hb : attributeBase a "value" X.env (eval a X.env) = eval a X.env := by rfl) : Den X W (.Attribute a "value" pos) (un1 (excV es) ma) := by
  intro β x Q hs g
  refine ⟨_, pe_xv pe_ev hb, ?_⟩
  refine ev_mono (ha.then1 (G := fun v H Q => ∃ a C d w, v = .ref a ∧ H a = some (exk a C d) ∧ XfC X.K C ∧ PySem.W.findIn X.K (.ref C) "value" = some none ∧ H d = some (xdv w) ∧ Q w H) ?_ hs g) fun v H h => h
  intro β x v t Q hs r g
  cases t <;> first | exact g.elim | skip
  rename_i c u
  by_cases h : es c = true
  · simp only [excV, h, if_true] at g
    cases r with
    | inl r =>
      cases r with
      | obj f h2 =>
        cases h2 with
        | exc h3 h4 h5 h6 => exact ⟨_, _, _, _, rfl, h3, xf_of (prog := X.prog) (hU c h), (hU c h).noN, h5, GoE.out hs g h6⟩
    | inr r =>
      obtain ⟨_, _, h⟩ := r
      cases h
  · simp only [excV, h] at g
    exact g.elim
end
end Dv
/-! XD: isinstance of errors that are kept. -/
namespace Dv
open PySem PySem.Spec PyProof.Rows L2 Hv HvE
section
variable {X : Cx} {D fI : Addr}
def rIsX (K : PySem.W.Frag) : List V → Hp → VK → Prop := fun xs H Q => ∃ (a D d : Addr) (c v : V) (cv : Value) (b : Bool), xs = [.ref a, c] ∧ (∀ u, RelV c u → u = cv) ∧ H a = some (exk a D d) ∧ H d = some (xdv v) ∧ ExcC K D ∧ PySem.W.kitOne K (.ref D) cv = some b ∧ Q (.bl b) H
theorem call_isX : CallR X (.builtin "isinstance") (rIsX X.K) := by
  intro pins s σ H xs us Q I r h
  obtain ⟨a, D, d, c, v, cv, b, rfl, hcv, ha, hd, C, e, q⟩ := h
  cases r with
  | cons rx rr =>
  cases rr with
  | cons rt rr =>
  cases rr
  cases rx
  have ec := hcv _ rt
  subst ec
  obtain ⟨o, vs, h1, h2, h3, h4⟩ := exk_at I.hok ha
  obtain ⟨mA, hns, _⟩ : ObjOk X.prog X.w H s.heap d (.xd [(("value" : Str), v)]) := I.hok d _ hd
  obtain ⟨od, ho, _⟩ := lookIn_ns hns
  have J : PySem.W.InstAt s.heap a o D (some od) := ⟨h1, h2, by unfold PySem.W.notCls; rw [h4] <;> rfl, by rw [h3]; exact ho⟩
  exact PySem.W.kia_one (PySem.W.kitx_exc (by obtain ⟨_, z, _⟩ := PySem.W.any_some C.hd; rw [z]; rfl) C.hg C.hk C.hs C.ha C.hn C.ht C.hm) I.kIn J e (fun z => nomatch z) fun tk => ⟨.bl b, H, I.kept (t' := tk) fun _ _ z => z, rfl, q⟩
end
section
variable {X : Cx} {W : WX} {K : PySem.W.Frag} {β : Bc} {F : Addr → Prop} {H : Hp}
theorem RepP.exc {v : V} {c : Str} {u : T} (h : RepP K F H v (.exc c u)) : ∃ a d w, v = .ref a ∧ H a = some (exk a (He.ga K c) d) ∧ H d = some (xdv w) ∧ Rep K F H w u := by
  rcases h with h | ⟨_, _, h⟩
  · cases h with
    | obj f h2 => cases h2 with | exc h3 _ h5 h6 => exact ⟨_, _, _, rfl, h3, h5, h6⟩
  · cases h
theorem repP_cls {v : V} {c : Str} (h : RepP K F H v (.cls c)) : v = .ref (He.ga K c) := by
  rcases h with h | ⟨_, _, h⟩
  · cases h with
    | cls => rfl
    | obj f h => cases h
  · cases h
/-- isinstance of an error; of anything else g -/
def isX (es : Str → Bool) (sub : Str → Str → Option Bool) (g : T → T → Option T) : T → T → Option T
  | .exc c _, .cls c' => if es c = true then (sub c c').map .bl else none
  | .exc c _, .ty n => if es c = true ∧ n = "ValueError" then some (.bl true) else none
  | s, t => g s t
/-- what the written part says of the errors -/
structure ExW (K : PySem.W.Frag) (es : Str → Bool) (sub : Str → Str → Option Bool) : Prop where
  cls : ∀ c, es c = true → ExcC K (He.ga K c)
  sub : ∀ c c' b, es c = true → sub c c' = some b → PySem.W.kitOne K (.ref (He.ga K c)) (.ref (He.ga K c')) = some b
  ve : ∀ c, es c = true → PySem.W.kitOne K (.ref (He.ga K c)) (.type "ValueError") = some true
theorem opd_isX {es : Str → Bool} {sub : Str → Str → Option Bool} {gg : T → T → Option T} (E : ExW X.K es sub) (hg : OpD X W gg fun v w H Q => CV X (.builtin "isinstance") [v, w] H Q) :
    OpD X W (isX es sub gg) fun v w H Q => CV X (.builtin "isinstance") [v, w] H Q := by
  intro β x v w s t Q hs r1 r2 g
  by_cases hi : ∃ c u, s = .exc c u
  · obtain ⟨c, u, rfl⟩ := hi
    obtain ⟨a, d, w', rfl, h1, h2, _⟩ := r1.exc
    cases t with
    | cls c' =>
      by_cases h : es c = true
      · cases e : sub c c' with
        | none => simp only [isX, h, if_true, e] at g; exact g.elim
        | some b =>
          simp only [isX, h, if_true, e] at g
          cases repP_cls r2
          exact ⟨_, call_isX, a, _, d, _, w', .ref (He.ga X.K c'), b, rfl, fun u z => z, h1, h2, E.cls c h, E.sub c c' b h e, GoE.out hs g (.bl _)⟩
      · simp only [isX, h] at g
        exact g.elim
    | ty n =>
      by_cases h : es c = true ∧ n = "ValueError"
      · simp only [isX, if_pos h] at g
        obtain ⟨h, rfl⟩ := h
        cases r2.ty
        exact ⟨_, call_isX, a, _, d, _, w', .type "ValueError", true, rfl, fun u z => z, h1, h2, E.cls c h, E.ve c h, GoE.out hs g (.bl _)⟩
      · simp only [isX, if_neg h] at g
        exact g.elim
    | _ => exact hg β x _ w _ _ Q hs r1 r2 g
  · have e : isX es sub gg s t = gg s t := by
      cases s <;> first | rfl | exact absurd ⟨_, _, rfl⟩ hi
    rw [e] at g
    exact hg β x v w s t Q hs r1 r2 g
end
end Dv
/-! XE: what the written part must say of the errors, as tests that the head's run decides. -/
namespace Dv
open PySem PySem.Spec PyProof.Rows L2 Hv HvE PySem.HandSPX
def mroB (K : PySem.W.Frag) (C : Addr) : Bool := match K.lookup C with
  | some ⟨.type "type", _, .cls cd, sl⟩ => (match cd.mro, sl.toList with
    | .ref C' :: bm, [_, _, _, _, some (.builtin n), _] => decide (C' = C) && decide (n = "ValueError.__new__") && !cd.hasDel && cd.hasDict && refsVE bm
    | _, _ => false)
  | _ => false
theorem mroB_ok {K : PySem.W.Frag} {C : Addr} (h : mroB K C = true) : ∃ nm q N bs bm sn sub ab col dd k0 k1 k2 k3 k5, K.lookup C = some (excClassObj nm q C N bs bm true sn sub ab col dd k0 k1 k2 k3 k5 "ValueError.__new__") ∧ refsVE bm = true := by
  unfold mroB at h
  split at h
  · rename_i dd cl slots look
    split at h
    · rename_i C' bm w0 w1 w2 w3 nw w5 em es
      simp only [Bool.and_eq_true, decide_eq_true_eq, Bool.not_eq_true'] at h
      obtain ⟨⟨⟨⟨rfl, rfl⟩, nodel⟩, hasd⟩, tail⟩ := h
      obtain ⟨nm, bases, mro, space, qual, hd, names, subs, abst, coll, del⟩ := cl
      dsimp only at em nodel hasd
      subst em nodel hasd
      obtain ⟨l⟩ := slots
      simp only at es
      subst es
      exact ⟨nm, qual, space, bases, bm, names, subs, abst, coll, dd, w0, w1, w2, w3, w5, look, tail⟩
    · cases h
  · cases h
/-- of one error class at C, below the base class at D with its __init__ at fI -/
def errB (K : PySem.W.Frag) (D fI C : Addr) : Bool :=
  mroB K C && (decide (PySem.W.findIn K (.ref C) "__setattr__" = some (some (.builtin "object.__setattr__"))) && (decide (PySem.W.findIn K (.ref C) "__getattribute__" = some (some (.builtin "BaseException.__getattribute__"))) &&
  (decide (PySem.W.findIn K (.ref C) "__getattr__" = some none) && (decide (PySem.W.findIn K (.ref C) "value" = some none) && (decide (PySem.W.findIn K (.ref C) "__init__" = some (some (.ref fI))) && (decide (PySem.W.typeIn K (.ref fI) = some (.type "function")) &&
  (PySem.W.keepIn K (.ref C) && (decide (PySem.W.subIn K (.ref C) (.type "BaseException") = some true) && (decide (PySem.W.subIn K (.ref C) (.type "ValueError") = some true) && (decide (PySem.W.typeIn K (.ref C) = some (.type "type")) &&
  (PySem.W.hasDictIn K C && (decide (PySem.W.mroIn K C (.ref D) = some true) && decide (PySem.W.ks_superIn K C D "__init__" = some (some (.builtin "ValueError.__init__")))))))))))))))
theorem errB_ok {K : PySem.W.Frag} {D fI C : Addr} (h : errB K D fI C = true) : ExcT K D fI C := by
  unfold errB at h
  simp only [Bool.and_eq_true, decide_eq_true_eq] at h
  obtain ⟨a1, a2, a3, a4, a5, a6, a7, a8, a9, b1, b2, b3, b4, b5⟩ := h
  exact ⟨mroB_ok a1, a2, a3, a4, a5, a6, a7, a8, a9, b1, b2, b3, b4, b5⟩
/-- what isinstance asks besides -/
def isB (K : PySem.W.Frag) (C : Addr) : Bool := decide (PySem.W.findIn K (.ref C) "__class__" = some (some (.builtin "object.__class__"))) && (decide (PySem.W.specialIn K (.builtin "object.__class__") "__get__" = some (some (.builtin "getset_descriptor.__get__"))) &&
  (decide (PySem.W.takesIn K (.builtin "object.__class__") = some true) && (decide (PySem.W.mroIn K C (.type "object") = some true) && decide (PySem.W.kitOne K (.ref C) (.type "ValueError") = some true))))
theorem isB_ok {K : PySem.W.Frag} {D fI C : Addr} (U : ExcT K D fI C) (h : isB K C = true) : ExcC K C ∧ PySem.W.kitOne K (.ref C) (.type "ValueError") = some true := by
  unfold isB at h
  simp only [Bool.and_eq_true, decide_eq_true_eq] at h
  obtain ⟨a1, a2, a3, a4, a5⟩ := h
  exact ⟨⟨U.ga, U.gg, U.exC, U.hdC, a1, a2, a3, a4⟩, a5⟩
/-- of all errors by name: each is one, the base class among them or not; which is below which; xs: what except clauses name -/
def errsB (K : PySem.W.Frag) (base : Str) (cs xs : List Str) : Bool :=
  cs.all (fun c => errB K (He.ga K base) (He.ma K (He.ga K base) "__init__") (He.ga K c) && isB K (He.ga K c)) &&
  (cs.all (fun c => cs.all fun c' => decide (PySem.W.kitOne K (.ref (He.ga K c)) (.ref (He.ga K c')) = some (decide (c = c' ∨ c' = base)))) &&
  cs.all fun c => xs.all fun c' => decide (PySem.W.exmOne K (.ref (He.ga K c)) (.ref (He.ga K c')) = some (decide (c = c' ∨ c' = base))))
section
variable {K : PySem.W.Frag} {base : Str} {cs xs : List Str}
theorem errs_t (h : errsB K base cs xs = true) {c : Str} (hc : c ∈ cs) : ExcT K (He.ga K base) (He.ma K (He.ga K base) "__init__") (He.ga K c) :=
  errB_ok (Bool.and_eq_true_iff.mp (List.all_eq_true.mp (Bool.and_eq_true_iff.mp h).1 c hc)).1
theorem errs_w (h : errsB K base cs xs = true) : ExW K (fun c => decide (c ∈ cs)) fun c c' => if c' ∈ cs then some (decide (c = c' ∨ c' = base)) else none := by
  obtain ⟨h1, h2⟩ := Bool.and_eq_true_iff.mp h
  obtain ⟨h2, _⟩ := Bool.and_eq_true_iff.mp h2
  refine ⟨fun c hc => ?_, fun c c' b hc hb => ?_, fun c hc => ?_⟩
  · have hc := of_decide_eq_true hc
    exact (isB_ok (errs_t h hc) (Bool.and_eq_true_iff.mp (List.all_eq_true.mp h1 c hc)).2).1
  · have hc := of_decide_eq_true hc
    by_cases hc' : c' ∈ cs
    · rw [if_pos hc'] at hb
      cases hb
      exact of_decide_eq_true (List.all_eq_true.mp (List.all_eq_true.mp h2 c hc) c' hc')
    · rw [if_neg hc'] at hb; cases hb
  · have hc := of_decide_eq_true hc
    exact (isB_ok (errs_t h hc) (Bool.and_eq_true_iff.mp (List.all_eq_true.mp h1 c hc)).2).2
theorem errs_exm (h : errsB K base cs xs = true) {c c' : Str} (hc : c ∈ cs) (hc' : c' ∈ xs) (hs : c = c' ∨ c' = base) : PySem.W.exmOne K (.ref (He.ga K c)) (.ref (He.ga K c')) = some true := by
  have z := of_decide_eq_true (List.all_eq_true.mp (List.all_eq_true.mp (Bool.and_eq_true_iff.mp (Bool.and_eq_true_iff.mp h).2).2 c hc) c' hc')
  rw [decide_eq_true hs] at z
  exact z
end
end Dv
/-! XF: the base class of the errors, its __init__. -/
namespace Dv
open PySem PySem.Spec PyProof.Rows L2 Hv HvE PySem.HandSPX
def fileOf (vs : Array Value) : Option Str := match vs[2]? with
  | some (Value.str f _) => some f
  | _ => none
def codeFile (K : PySem.W.Frag) (v : Value) : Option Str := match v with
  | .ref c => (match K.lookup c with
    | some ⟨_, _, .fields vs, _⟩ => fileOf vs
    | _ => none)
  | _ => none
def cellOf (K : PySem.W.Frag) (cl : List (Str × Addr)) : Option Addr := match cl with
  | [(_, cc)] => (match K.lookup cc with
    | some ⟨_, _, .cell (some (.ref D)), _⟩ => some D
    | _ => none)
  | _ => none
theorem codeFile_ok {K : PySem.W.Frag} {v : Value} {f : Str} (h : codeFile K v = some f) : ∃ (c : Addr) (c1 : Value) (d1 : Option Addr) (vs : Array Value) (s1 : Array (Option Value)) (tf : Tok), v = .ref c ∧ K.lookup c = some ⟨c1, d1, .fields vs, s1⟩ ∧ vs[2]? = some (.str f tf) := by
  unfold codeFile at h
  split at h
  · split at h
    · unfold fileOf at h
      split at h
      · cases h; exact ⟨_, _, _, _, _, _, rfl, by assumption, by assumption⟩
      · cases h
    · cases h
  · cases h
theorem cellOf_ok {K : PySem.W.Frag} {x : Str} {cc D : Addr} (h : cellOf K [(x, cc)] = some D) : ∃ (c1 : Value) (d1 : Option Addr) (s1 : Array (Option Value)), K.lookup cc = some ⟨c1, d1, .cell (some (.ref D)), s1⟩ := by
  unfold cellOf at h
  dsimp only at h
  split at h
  · cases h; exact ⟨_, _, _, by assumption⟩
  · cases h
/-- the table of modules is a dict: no list stands there -/
def sysB (K : PySem.W.Frag) : Bool := match K.lookup sysModules with
  | some o => decide (o.cls = .type "dict")
  | none => false
def SysD (K : PySem.W.Frag) : Prop := ∃ o, K.lookup sysModules = some o ∧ o.cls = .type "dict"
theorem sysB_ok {K : PySem.W.Frag} (h : sysB K = true) : SysD K := by
  unfold sysB at h
  split at h
  · exact ⟨_, by assumption, of_decide_eq_true h⟩
  · cases h
def initB (K : PySem.W.Frag) (file0 : Str) (D fI : Addr) : Bool :=
  (PySem.W.clsIn K D).isSome && (decide (PySem.W.nsIn K mainGlobals "super" = some none) && (decide (PySem.W.nsIn K cStatics "thirdparty.any" = some none) && (match K.lookup fI with
  | some ⟨_, _, .func fd, _⟩ => decide (fd.defaults = .none) && (decide (fd.kwdefaults = .none) && (decide (codeFile K fd.code = some file0) && decide (cellOf K fd.closure = some D)))
  | _ => false)))
theorem hov_ok {prog : Program} {K : PySem.W.Frag} {D fI cc : Addr} {oc dV kV doc pm cdv ct : Value} {od an : Option Addr} {osl : Array (Option Value)} {a1 a2 p0 p1 p2 p3 p4 p5 q1 q2 q3 q4 : Pos} {sc : Scope}
    (hl : K.lookup fI = some ⟨oc, od, .func (PySem.W.fnX "__init__" "HoverError.__init__" (iA a1 a2) (iB p0 p1 p2 p3 p4 p5 q1 q2 q3 q4) sc [("__class__", cc)] dV kV doc pm an cdv ct), osl⟩)
    (hcode : PySem.W.codeIn K cdv "HoverError.__init__" = true) (hb : initB K prog.main.file D fI = true) (ht : (prog.main.scope.names.lookup ("super" : Str)).isSome = false)
    (k1 : sc.kind = .function) (k2 : sc.isCoroutine = false) (k3 : sc.isGenerator = false) (k4 : ∀ x ∈ sc.names, x.2 ≠ .cell) (k5 : sc.names.lookup ("self" : Str) = some .local) (k6 : sc.names.lookup ("value" : Str) = some .local)
    (k7 : sc.names.lookup ("super" : Str) = some .globalImplicit) (k8 : sc.names.lookup ("__class__" : Str) = some .free)
    (hf : ∀ e : PySem.Env, ∃ pl : Sem Bool, eval (.Call (.Attribute (.Call (.Name "super" p0) [] [] p1) "__init__" p2) [.Name "value" p3] [] p4) e = (do
      let ov ← attributeBase (.Call (.Name "super" p0) [] [] p1) "__init__" e (eval (.Call (.Name "super" p0) [] [] p1) e)
      standAt p2.atName
      let (f, first) ← holding [ov] (getMethod ov "__init__" pl)
      callWith p4 f first (backTo p4 (starEach [.Name "value" p3] e)) [])) : HovT prog K D fI := by
  unfold initB at hb
  rw [hl] at hb
  obtain ⟨b1, hb⟩ := Bool.and_eq_true_iff.mp hb
  obtain ⟨b2, hb⟩ := Bool.and_eq_true_iff.mp hb
  obtain ⟨b3, hb⟩ := Bool.and_eq_true_iff.mp hb
  obtain ⟨b4, hb⟩ := Bool.and_eq_true_iff.mp hb
  obtain ⟨b5, hb⟩ := Bool.and_eq_true_iff.mp hb
  obtain ⟨b6, b7⟩ := Bool.and_eq_true_iff.mp hb
  have c4 : dV = .none := of_decide_eq_true b4
  have c5 : kV = .none := of_decide_eq_true b5
  have c6 : codeFile K cdv = some prog.main.file := of_decide_eq_true b6
  have c7 : cellOf K [(("__class__" : Str), cc)] = some D := of_decide_eq_true b7
  clear hb b4 b5 b6 b7
  subst c4 c5
  obtain ⟨cda, c1, d1, vs, s1, tf, rfl, e1, e2⟩ := codeFile_ok c6
  exact ⟨b1, of_decide_eq_true b2, of_decide_eq_true b3, ht, oc, ct, od, doc, pm, an, osl, a1, a2, p0, p1, p2, p3, p4, p5, q1, q2, q3, q4, sc, cda, cc, hl, hcode, ⟨c1, d1, vs, s1, _, tf, e1, e2, beq_self_eq_true _⟩, cellOf_ok c7, k1, k2, k3, k4, k5, k6, k7, k8, hf⟩
end Dv
/-! the head: where the defs stand, what the top leaves -/
namespace HvT
open PySem PySem.Spec PyProof.Rows L2 Hv
def topS (i : Nat) : Stmt := PySem.Challenge.pw_hoverrest_k00_errors_by_themselves.main.body.getD i (.Pass ⟨0, 0, 0, 0⟩)
def d_is_integer : De := ⟨fun K => He.ga K "is_integer", "is_integer", "is_integer", topS 35, [], [], []⟩
def d_common_divisor : De := ⟨fun K => He.ga K "common_divisor", "common_divisor", "common_divisor", topS 36, [], [], []⟩
def d_is_figures : De := ⟨fun K => He.ga K "is_figures", "is_figures", "is_figures", topS 37, [], [], []⟩
def d_is_number : De := ⟨fun K => He.ga K "is_number", "is_number", "is_number", topS 39, [], [], []⟩
def d_ratio_of : De := ⟨fun K => He.ga K "ratio_of", "ratio_of", "ratio_of", topS 40, [], [], []⟩
def d_spacing : De := ⟨fun K => He.ga K "spacing", "spacing", "spacing", topS 41, [], [], []⟩
def d_plus : De := ⟨fun K => He.ga K "plus", "plus", "plus", topS 42, [], [], []⟩
def d_minus : De := ⟨fun K => He.ga K "minus", "minus", "minus", topS 43, [], [], []⟩
def d_times : De := ⟨fun K => He.ga K "times", "times", "times", topS 44, [], [], []⟩
def d__law_pot : De := ⟨fun K => He.ga K "_law_pot", "_law_pot", "_law_pot", topS 46, [], [], []⟩
def d__law_take : De := ⟨fun K => He.ga K "_law_take", "_law_take", "_law_take", topS 47, [], [], []⟩
def d__law_of : De := ⟨fun K => He.ga K "_law_of", "_law_of", "_law_of", topS 48, [], [], []⟩
def d__law_odd : De := ⟨fun K => He.ga K "_law_odd", "_law_odd", "_law_odd", topS 49, [], [], []⟩
def d__law_value : De := ⟨fun K => He.ga K "_law_value", "_law_value", "_law_value", topS 50, [], [], []⟩
def d__law_all : De := ⟨fun K => He.ga K "_law_all", "_law_all", "_law_all", topS 51, [], [], []⟩
def d__law_kinds : De := ⟨fun K => He.ga K "_law_kinds", "_law_kinds", "_law_kinds", topS 52, [], [], []⟩
def d__law_right : De := ⟨fun K => He.ga K "_law_right", "_law_right", "_law_right", topS 53, [], [], []⟩
def d_law : De := ⟨fun K => He.ga K "law", "law", "law", topS 54, [], [], []⟩
def d_HoverError___init__ : De := ⟨fun K => He.ma K (He.ga K "HoverError") "__init__", "__init__", "HoverError.__init__", inClass (topS 2) 0, [], [], ["__class__"]⟩
def d_Ratio___init__ : De := ⟨fun K => He.ma K (He.ga K "Ratio") "__init__", "__init__", "Ratio.__init__", inClass (topS 38) 1, [.int 1], [], []⟩
def d_Ratio_number : De := ⟨fun K => pgAt K (He.ga K "Ratio") "number", "number", "Ratio.number", inClass (topS 38) 2, [], [], []⟩
def d_Ratio_under : De := ⟨fun K => pgAt K (He.ga K "Ratio") "under", "under", "Ratio.under", inClass (topS 38) 3, [], [], []⟩
def d_Ratio_text : De := ⟨fun K => pgAt K (He.ga K "Ratio") "text", "text", "Ratio.text", inClass (topS 38) 4, [], [], []⟩
def d_Ratio_of : De := ⟨fun K => smAt K (He.ga K "Ratio") "of", "of", "Ratio.of", inClass (topS 38) 5, [], [], []⟩
def d_Ratio___repr__ : De := ⟨fun K => He.ma K (He.ga K "Ratio") "__repr__", "__repr__", "Ratio.__repr__", inClass (topS 38) 7, [], [], []⟩
def d_Ratio___eq__ : De := ⟨fun K => He.ma K (He.ga K "Ratio") "__eq__", "__eq__", "Ratio.__eq__", inClass (topS 38) 8, [], [], []⟩
def d_Ratio___lt__ : De := ⟨fun K => He.ma K (He.ga K "Ratio") "__lt__", "__lt__", "Ratio.__lt__", inClass (topS 38) 9, [], [], []⟩
def d_Ratio___le__ : De := ⟨fun K => He.ma K (He.ga K "Ratio") "__le__", "__le__", "Ratio.__le__", inClass (topS 38) 10, [], [], []⟩
def d_Ratio___gt__ : De := ⟨fun K => He.ma K (He.ga K "Ratio") "__gt__", "__gt__", "Ratio.__gt__", inClass (topS 38) 11, [], [], []⟩
def d_Ratio___ge__ : De := ⟨fun K => He.ma K (He.ga K "Ratio") "__ge__", "__ge__", "Ratio.__ge__", inClass (topS 38) 12, [], [], []⟩
def d_Ratio___neg__ : De := ⟨fun K => He.ma K (He.ga K "Ratio") "__neg__", "__neg__", "Ratio.__neg__", inClass (topS 38) 13, [], [], []⟩
def d_Ratio___abs__ : De := ⟨fun K => He.ma K (He.ga K "Ratio") "__abs__", "__abs__", "Ratio.__abs__", inClass (topS 38) 14, [], [], []⟩
def d_Ratio___add__ : De := ⟨fun K => He.ma K (He.ga K "Ratio") "__add__", "__add__", "Ratio.__add__", inClass (topS 38) 15, [], [], []⟩
def d_Ratio___radd__ : De := ⟨fun K => He.ma K (He.ga K "Ratio") "__radd__", "__radd__", "Ratio.__radd__", inClass (topS 38) 16, [], [], []⟩
def d_Ratio___sub__ : De := ⟨fun K => He.ma K (He.ga K "Ratio") "__sub__", "__sub__", "Ratio.__sub__", inClass (topS 38) 17, [], [], []⟩
def d_Ratio___rsub__ : De := ⟨fun K => He.ma K (He.ga K "Ratio") "__rsub__", "__rsub__", "Ratio.__rsub__", inClass (topS 38) 18, [], [], []⟩
def d_Ratio___mul__ : De := ⟨fun K => He.ma K (He.ga K "Ratio") "__mul__", "__mul__", "Ratio.__mul__", inClass (topS 38) 19, [], [], []⟩
def d_Ratio___rmul__ : De := ⟨fun K => He.ma K (He.ga K "Ratio") "__rmul__", "__rmul__", "Ratio.__rmul__", inClass (topS 38) 20, [], [], []⟩
abbrev n_is_integer : List PySem.Str := ["value"]
abbrev p_is_integer : List PySem.Str := ["value"]
theorem s_is_integer : FnScope n_is_integer p_is_integer (defScope d_is_integer.st) := sc_ok (by decide +kernel)
abbrev n_common_divisor : List PySem.Str := ["one", "other"]
abbrev p_common_divisor : List PySem.Str := ["one", "other"]
theorem s_common_divisor : FnScope n_common_divisor p_common_divisor (defScope d_common_divisor.st) := sc_ok (by decide +kernel)
abbrev n_is_figures : List PySem.Str := ["text", "sign"]
abbrev p_is_figures : List PySem.Str := ["text"]
theorem s_is_figures : FnScope n_is_figures p_is_figures (defScope d_is_figures.st) := sc_ok (by decide +kernel)
abbrev n_is_number : List PySem.Str := ["value"]
abbrev p_is_number : List PySem.Str := ["value"]
theorem s_is_number : FnScope n_is_number p_is_number (defScope d_is_number.st) := sc_ok (by decide +kernel)
abbrev n_ratio_of : List PySem.Str := ["number"]
abbrev p_ratio_of : List PySem.Str := ["number"]
theorem s_ratio_of : FnScope n_ratio_of p_ratio_of (defScope d_ratio_of.st) := sc_ok (by decide +kernel)
abbrev n_spacing : List PySem.Str := ["one", "other", "beside"]
abbrev p_spacing : List PySem.Str := ["one", "other"]
theorem s_spacing : FnScope n_spacing p_spacing (defScope d_spacing.st) := sc_ok (by decide +kernel)
abbrev n_plus : List PySem.Str := ["one", "other"]
abbrev p_plus : List PySem.Str := ["one", "other"]
theorem s_plus : FnScope n_plus p_plus (defScope d_plus.st) := sc_ok (by decide +kernel)
abbrev n_minus : List PySem.Str := ["one", "other"]
abbrev p_minus : List PySem.Str := ["one", "other"]
theorem s_minus : FnScope n_minus p_minus (defScope d_minus.st) := sc_ok (by decide +kernel)
abbrev n_times : List PySem.Str := ["one", "other"]
abbrev p_times : List PySem.Str := ["one", "other"]
theorem s_times : FnScope n_times p_times (defScope d_times.st) := sc_ok (by decide +kernel)
abbrev n__law_pot : List PySem.Str := ["_law_script", "_law_k", "_law_cell", "_law_own", "_law_small"]
abbrev p__law_pot : List PySem.Str := ["_law_script", "_law_k"]
theorem s__law_pot : FnScope n__law_pot p__law_pot (defScope d__law_pot.st) := sc_ok (by decide +kernel)
abbrev n__law_take : List PySem.Str := ["_law_pot_here", "_law_upto", "_law_prime", "_law_mixed", "_law_digit"]
abbrev p__law_take : List PySem.Str := ["_law_pot_here", "_law_upto"]
theorem s__law_take : FnScope n__law_take p__law_take (defScope d__law_take.st) := sc_ok (by decide +kernel)
abbrev n__law_of : List PySem.Str := ["_law_pot_here", "_law_some"]
abbrev p__law_of : List PySem.Str := ["_law_pot_here", "_law_some"]
theorem s__law_of : FnScope n__law_of p__law_of (defScope d__law_of.st) := sc_ok (by decide +kernel)
abbrev n__law_odd : List PySem.Str := ["_law_pot_here", "_law_some"]
abbrev p__law_odd : List PySem.Str := ["_law_pot_here"]
theorem s__law_odd : FnScope n__law_odd p__law_odd (defScope d__law_odd.st) := sc_ok (by decide +kernel)
abbrev n__law_value : List PySem.Str := ["_law_pot_here", "_law_some"]
abbrev p__law_value : List PySem.Str := ["_law_pot_here"]
theorem s__law_value : FnScope n__law_value p__law_value (defScope d__law_value.st) := sc_ok (by decide +kernel)
abbrev n__law_all : List PySem.Str := ["_law_value_here", "_law_found"]
abbrev p__law_all : List PySem.Str := ["_law_value_here"]
theorem s__law_all : FnScope n__law_all p__law_all (defScope d__law_all.st) := sc_ok (by decide +kernel)
abbrev n__law_kinds : List PySem.Str := ["_law_one", "_law_found"]
abbrev p__law_kinds : List PySem.Str := ["_law_one"]
theorem s__law_kinds : FnScope n__law_kinds p__law_kinds (defScope d__law_kinds.st) := sc_ok (by decide +kernel)
abbrev n__law_right : List PySem.Str := ["_law_pot_here", "_law_value_here", "_law_errors", "error", "_law_at", "_law_one", "_law_plain", "_law_caught", "_law_way", "_law_k"]
abbrev p__law_right : List PySem.Str := ["_law_pot_here"]
theorem s__law_right : FnScope n__law_right p__law_right (defScope d__law_right.st) := sc_ok (by decide +kernel)
abbrev n_law : List PySem.Str := ["_law_script", "_law_k"]
abbrev p_law : List PySem.Str := ["_law_script"]
theorem s_law : FnScope n_law p_law (defScope d_law.st) := sc_ok (by decide +kernel)
abbrev n_HoverError___init__ : List PySem.Str := ["self", "value"]
abbrev p_HoverError___init__ : List PySem.Str := ["self", "value"]
abbrev n_Ratio___init__ : List PySem.Str := ["self", "number", "under", "common"]
abbrev p_Ratio___init__ : List PySem.Str := ["self", "number", "under"]
theorem s_Ratio___init__ : FnScope n_Ratio___init__ p_Ratio___init__ (defScope d_Ratio___init__.st) := sc_ok (by decide +kernel)
abbrev n_Ratio_number : List PySem.Str := ["self"]
abbrev p_Ratio_number : List PySem.Str := ["self"]
theorem s_Ratio_number : FnScope n_Ratio_number p_Ratio_number (defScope d_Ratio_number.st) := sc_ok (by decide +kernel)
abbrev n_Ratio_under : List PySem.Str := ["self"]
abbrev p_Ratio_under : List PySem.Str := ["self"]
theorem s_Ratio_under : FnScope n_Ratio_under p_Ratio_under (defScope d_Ratio_under.st) := sc_ok (by decide +kernel)
abbrev n_Ratio_text : List PySem.Str := ["self"]
abbrev p_Ratio_text : List PySem.Str := ["self"]
theorem s_Ratio_text : FnScope n_Ratio_text p_Ratio_text (defScope d_Ratio_text.st) := sc_ok (by decide +kernel)
abbrev n_Ratio_of : List PySem.Str := ["text", "under", "found", "head", "more", "part"]
abbrev p_Ratio_of : List PySem.Str := ["text"]
theorem s_Ratio_of : FnScope n_Ratio_of p_Ratio_of (defScope d_Ratio_of.st) := sc_ok (by decide +kernel)
abbrev n_Ratio___repr__ : List PySem.Str := ["self"]
abbrev p_Ratio___repr__ : List PySem.Str := ["self"]
theorem s_Ratio___repr__ : FnScope n_Ratio___repr__ p_Ratio___repr__ (defScope d_Ratio___repr__.st) := sc_ok (by decide +kernel)
abbrev n_Ratio___eq__ : List PySem.Str := ["self", "other"]
abbrev p_Ratio___eq__ : List PySem.Str := ["self", "other"]
theorem s_Ratio___eq__ : FnScope n_Ratio___eq__ p_Ratio___eq__ (defScope d_Ratio___eq__.st) := sc_ok (by decide +kernel)
abbrev n_Ratio___lt__ : List PySem.Str := ["self", "other"]
abbrev p_Ratio___lt__ : List PySem.Str := ["self", "other"]
theorem s_Ratio___lt__ : FnScope n_Ratio___lt__ p_Ratio___lt__ (defScope d_Ratio___lt__.st) := sc_ok (by decide +kernel)
abbrev n_Ratio___le__ : List PySem.Str := ["self", "other"]
abbrev p_Ratio___le__ : List PySem.Str := ["self", "other"]
theorem s_Ratio___le__ : FnScope n_Ratio___le__ p_Ratio___le__ (defScope d_Ratio___le__.st) := sc_ok (by decide +kernel)
abbrev n_Ratio___gt__ : List PySem.Str := ["self", "other"]
abbrev p_Ratio___gt__ : List PySem.Str := ["self", "other"]
theorem s_Ratio___gt__ : FnScope n_Ratio___gt__ p_Ratio___gt__ (defScope d_Ratio___gt__.st) := sc_ok (by decide +kernel)
abbrev n_Ratio___ge__ : List PySem.Str := ["self", "other"]
abbrev p_Ratio___ge__ : List PySem.Str := ["self", "other"]
theorem s_Ratio___ge__ : FnScope n_Ratio___ge__ p_Ratio___ge__ (defScope d_Ratio___ge__.st) := sc_ok (by decide +kernel)
abbrev n_Ratio___neg__ : List PySem.Str := ["self"]
abbrev p_Ratio___neg__ : List PySem.Str := ["self"]
theorem s_Ratio___neg__ : FnScope n_Ratio___neg__ p_Ratio___neg__ (defScope d_Ratio___neg__.st) := sc_ok (by decide +kernel)
abbrev n_Ratio___abs__ : List PySem.Str := ["self"]
abbrev p_Ratio___abs__ : List PySem.Str := ["self"]
theorem s_Ratio___abs__ : FnScope n_Ratio___abs__ p_Ratio___abs__ (defScope d_Ratio___abs__.st) := sc_ok (by decide +kernel)
abbrev n_Ratio___add__ : List PySem.Str := ["self", "other"]
abbrev p_Ratio___add__ : List PySem.Str := ["self", "other"]
theorem s_Ratio___add__ : FnScope n_Ratio___add__ p_Ratio___add__ (defScope d_Ratio___add__.st) := sc_ok (by decide +kernel)
abbrev n_Ratio___radd__ : List PySem.Str := ["self", "other"]
abbrev p_Ratio___radd__ : List PySem.Str := ["self", "other"]
theorem s_Ratio___radd__ : FnScope n_Ratio___radd__ p_Ratio___radd__ (defScope d_Ratio___radd__.st) := sc_ok (by decide +kernel)
abbrev n_Ratio___sub__ : List PySem.Str := ["self", "other"]
abbrev p_Ratio___sub__ : List PySem.Str := ["self", "other"]
theorem s_Ratio___sub__ : FnScope n_Ratio___sub__ p_Ratio___sub__ (defScope d_Ratio___sub__.st) := sc_ok (by decide +kernel)
abbrev n_Ratio___rsub__ : List PySem.Str := ["self", "other"]
abbrev p_Ratio___rsub__ : List PySem.Str := ["self", "other"]
theorem s_Ratio___rsub__ : FnScope n_Ratio___rsub__ p_Ratio___rsub__ (defScope d_Ratio___rsub__.st) := sc_ok (by decide +kernel)
abbrev n_Ratio___mul__ : List PySem.Str := ["self", "other"]
abbrev p_Ratio___mul__ : List PySem.Str := ["self", "other"]
theorem s_Ratio___mul__ : FnScope n_Ratio___mul__ p_Ratio___mul__ (defScope d_Ratio___mul__.st) := sc_ok (by decide +kernel)
abbrev n_Ratio___rmul__ : List PySem.Str := ["self", "other"]
abbrev p_Ratio___rmul__ : List PySem.Str := ["self", "other"]
theorem s_Ratio___rmul__ : FnScope n_Ratio___rmul__ p_Ratio___rmul__ (defScope d_Ratio___rmul__.st) := sc_ok (by decide +kernel)
def fn : List De := [d_is_integer, d_common_divisor, d_is_figures, d_is_number, d_ratio_of, d_spacing, d_plus, d_minus, d_times, d__law_pot, d__law_take, d__law_of, d__law_odd, d__law_value, d__law_all, d__law_kinds, d__law_right, d_law, d_HoverError___init__, d_Ratio___init__, d_Ratio_number, d_Ratio_under, d_Ratio_text, d_Ratio_of, d_Ratio___repr__, d_Ratio___eq__, d_Ratio___lt__, d_Ratio___le__, d_Ratio___gt__, d_Ratio___ge__, d_Ratio___neg__, d_Ratio___abs__, d_Ratio___add__, d_Ratio___radd__, d_Ratio___sub__, d_Ratio___rsub__, d_Ratio___mul__, d_Ratio___rmul__]
def fb : List Fb := [.fa (.free "abs"),
  .fa (.free "all"),
  .fa (.free "any"),
  .fa (.free "bool"),
  .fa (.free "dict"),
  .fa (.free "enumerate"),
  .fa (.free "int"),
  .fa (.free "isinstance"),
  .fa (.free "len"),
  .fa (.free "list"),
  .fa (.free "max"),
  .fa (.free "min"),
  .fa (.free "range"),
  .fa (.free "repr"),
  .fa (.free "reversed"),
  .fa (.free "sorted"),
  .fa (.free "str"),
  .fa (.free "sum"),
  .fa (.free "tuple"),
  .fa (.free "type"),
  .fa (.free "zip"),
  .fa (.free "NotImplemented"),
  .fa (.free "set"),
  .fa (.free "ValueError"),
  .fa (.glo "_wall"),
  .fa (.glo "is_integer"),
  .fa (.glo "common_divisor"),
  .fa (.glo "is_figures"),
  .fa (.glo "is_number"),
  .fa (.glo "ratio_of"),
  .fa (.glo "spacing"),
  .fa (.glo "plus"),
  .fa (.glo "minus"),
  .fa (.glo "times"),
  .fa (.glo "_law_pot"),
  .fa (.glo "_law_take"),
  .fa (.glo "_law_of"),
  .fa (.glo "_law_odd"),
  .fa (.glo "_law_value"),
  .fa (.glo "_law_all"),
  .fa (.glo "_law_kinds"),
  .fa (.glo "_law_right"),
  .fa (.glo "law"),
  .fa (.str "DIGITS" "0123456789"),
  .fa (.int "MOST_SIGNS" 1802),
  .fa (.glo "Ratio"),
  .num "Ratio",
  .slot "Ratio" "above" 0,
  .slot "Ratio" "below" 1,
  .fa (.mkr "Ratio"),
  .prop "Ratio" "number",
  .prop "Ratio" "under",
  .prop "Ratio" "text",
  .stat "Ratio" "of",
  .fa (.meth "Ratio" "halved"),
  .fa (.meth "Ratio" "__repr__"),
  .fa (.meth "Ratio" "__eq__"),
  .fa (.meth "Ratio" "__lt__"),
  .fa (.meth "Ratio" "__le__"),
  .fa (.meth "Ratio" "__gt__"),
  .fa (.meth "Ratio" "__ge__"),
  .fa (.meth "Ratio" "__neg__"),
  .fa (.meth "Ratio" "__abs__"),
  .fa (.meth "Ratio" "__add__"),
  .fa (.meth "Ratio" "__radd__"),
  .fa (.meth "Ratio" "__sub__"),
  .fa (.meth "Ratio" "__rsub__"),
  .fa (.meth "Ratio" "__mul__"),
  .fa (.meth "Ratio" "__rmul__"),
  .fa (.glo "HoverError"),
  .fa (.glo "BadRatio"),
  .fa (.glo "BadText"),
  .fa (.glo "BadSum"),
  .fa (.glo "NoUnknown"),
  .fa (.glo "BadPoint"),
  .fa (.glo "Missing"),
  .fa (.glo "BadClaim"),
  .fa (.glo "TooMany"),
  .fa (.glo "BadPage"),
  .fa (.glo "NoLine"),
  .fa (.glo "BadState"),
  .fa (.glo "BadContents"),
  .fa (.glo "BadPlace"),
  .fa (.glo "BadEvents"),
  .fa (.glo "BadRow"),
  .fa (.glo "NoWay"),
  .fa (.glo "BadCount"),
  .fa (.glo "Unlike"),
  .fa (.glo "BadLogs"),
  .fa (.glo "BadWishes"),
  .fa (.glo "BadOffers"),
  .fa (.glo "NotThere"),
  .fa (.glo "NoSize"),
  .fa (.glo "BadSize"),
  .fa (.glo "Nowhere"),
  .fa (.glo "NothingToUndo"),
  .fa (.glo "NothingToRedo"),
  .fa (.glo "BadJournal"),
  .fa (.glo "BadLine")]
abbrev R : PySem.W.OpenRow := PySem.W.OpenLaw.row PySem.Challenge.rw_hoverrest_k00_errors_by_themselves
def errs : List PySem.Str := ["HoverError", "BadRatio", "BadText", "BadSum", "NoUnknown", "BadPoint", "Missing", "BadClaim", "TooMany", "BadPage", "NoLine", "BadState", "BadContents", "BadPlace", "BadEvents", "BadRow", "NoWay", "BadCount", "Unlike", "BadLogs", "BadWishes", "BadOffers", "NotThere", "NoSize", "BadSize", "Nowhere", "NothingToUndo", "NothingToRedo", "BadJournal", "BadLine"]
def errX (K : PySem.W.Frag) : Bool := Dv.initB K R.prog.main.file (He.ga K "HoverError") (He.ma K (He.ga K "HoverError") "__init__") && Dv.errsB K "HoverError" errs ["HoverError"] && Dv.sysB K
def ex (K : PySem.W.Frag) : Bool := allB fb K && (csB K [He.ga K "Ratio"] && errX K)
abbrev hk : PySem.W.Hook := hookG 5 ex fn
def ob (s : PySem.W.SharedT) : Al := obsG 5 ex fn (HandSHeadRun.getT s)
theorem ob_eq (s : PySem.W.SharedT) : ob s = hk.obs s.abs := obsG_eq (HandSHeadRun.getT_eq s)
def loose0 : List PySem.Str := ["_wall", "HoverError", "BadRatio", "BadText", "BadSum", "NoUnknown", "BadPoint", "Missing", "BadClaim", "TooMany", "BadPage", "NoLine", "BadState", "BadContents", "BadPlace", "BadEvents", "BadRow", "NoWay", "BadCount", "Unlike", "BadLogs", "BadWishes", "BadOffers", "NotThere", "NoSize", "BadSize", "Nowhere", "NothingToUndo", "NothingToRedo", "BadJournal"]
def loose1 : List PySem.Str := ["BadLine", "DIGITS", "MOST_SIGNS", "is_integer", "common_divisor", "is_figures", "Ratio", "is_number", "ratio_of", "spacing", "plus", "minus", "times", "_law_pot", "_law_take", "_law_of", "_law_odd", "_law_value", "_law_all", "_law_kinds", "_law_right"]
def loose : List PySem.Str := loose0 ++ loose1
theorem map3 {α A B C : Type _} {o : Option α} {f : α → A} {g : α → B} {h : α → C} {a : A} {b : B} {c : C} (e1 : o.map f = some a) (e2 : o.map g = some b) (e3 : o.map h = some c) : o.map (fun s => (f s, g s, h s)) = some (a, b, c) := by
  cases o with
  | none => cases e1
  | some x => cases e1; cases e2; cases e3; rfl
section
open PySem.W PySem.Calls HandSHeadRun
def fK (s : PySem.W.SharedT) : PySem.W.Frag := He.frG (HandSHeadRun.getT s) (cStatics :: sysModules :: He.asD (HandSHeadRun.getT s) 5)
theorem run1 (w : World) (os : OsState) : (endF (stepQ (denQ tabQ) R.prog w) 40000 R.prog w os).map (fun s => looksF R.prog (boot_heap w.params) s.abs) = some true := by kernel_rfl
theorem run2 (w : World) (os : OsState) : (endF (stepQ (denQ tabQ) R.prog w) 40000 R.prog w os).map (fun s => seenQ (PySem.W.view R.prog [54]) loose (importedModules R.prog.main.body) (fun s => xlAt (PySem.W.view R.prog [54]) [] s && recOk R.toRowW.records s) s.abs) = some (openGood (PySem.W.view R.prog [54]) loose) := by kernel_rfl
theorem runF0 (w : World) (os : OsState) : (endF (stepQ (denQ tabQ) R.prog w) 40000 R.prog w os).map (fun s => allB ((fb.drop 0).take 55) (fK s)) = some true := by kernel_rfl
theorem runF55 (w : World) (os : OsState) : (endF (stepQ (denQ tabQ) R.prog w) 40000 R.prog w os).map (fun s => allB ((fb.drop 55).take 55) (fK s)) = some true := by kernel_rfl
theorem run5 (w : World) (os : OsState) : (endF (stepQ (denQ tabQ) R.prog w) 40000 R.prog w os).map (fun s => (csB (fK s) [He.ga (fK s) "Ratio"], fn.all fun d => d.ok (fK s))) = some (true, true) := by kernel_rfl
theorem run6 (w : World) (os : OsState) : (endF (stepQ (denQ tabQ) R.prog w) 40000 R.prog w os).map (fun s => fn.map fun d => fwAt (fK s) (d.at_ (fK s))) = some (fn.map De.val) := by kernel_rfl
theorem run7 (w : World) (os : OsState) : (endF (stepQ (denQ tabQ) R.prog w) 40000 R.prog w os).map (fun s => errX (fK s)) = some true := by kernel_rfl
theorem run_ob (w : World) (os : OsState) : (endF (stepQ (denQ tabQ) R.prog w) 40000 R.prog w os).map ob = some (hk.val w) := by
  have ef0 := runF0 w os
  have ef55 := runF55 w os
  have e5 := run5 w os
  have e6 := run6 w os
  have e7 := run7 w os
  generalize endF (stepQ (denQ tabQ) R.prog w) 40000 R.prog w os = o at ef0 ef55 e5 e6 e7 ⊢
  cases o with
  | none => cases e5
  | some x =>
    have q0 : allB ((fb.drop 0).take 55) (fK x) = true := Option.some.inj ef0
    have q55 : allB ((fb.drop 55).take 55) (fK x) = true := Option.some.inj ef55
    have q5 := Prod.mk.inj (Option.some.inj e5)
    have q6 : (fn.map fun d => fwAt (fK x) (d.at_ (fK x))) = fn.map De.val := Option.some.inj e6
    have qa : allB fb (fK x) = true := by
      have e : fb = (fb.drop 0).take 55 ++ (fb.drop 55).take 55 := rfl
      rw [e]
      show List.all _ _ = true
      rw [List.all_append]
      exact Bool.and_eq_true_iff.mpr ⟨q0, q55⟩
    have qe : ex (fK x) = true := Bool.and_eq_true_iff.mpr ⟨qa, Bool.and_eq_true_iff.mpr ⟨q5.1, Option.some.inj e7⟩⟩
    have z : obsK ex fn (fK x) = valK fn := by
      unfold obsK valK
      rw [qe, q5.2, q6]; rfl
    show some (obsK ex fn (fK x)) = some (valK fn)
    rw [z]
end
theorem run (w : World) : HandSHeadRun.RunEq R (PySem.W.view R.prog [54]) hk ob 40000 loose w := fun os => map3 (run1 w os) (run2 w os) (run_ob w os)
end HvT
/-! DI: arguments, calls; operations on plain trees. -/
namespace Dv
open PySem PySem.Spec PyProof.Rows L2 Hv
def GoR (K : PySem.W.Frag) (β : Bc) (W : WX) (x : Sx) (r : R (List Ar)) (Q : List V → Hp → Prop) : Prop := match r with
  | .ok as ρ' => ∀ F' H' vs, Nx K β x ⟨F', H', x.σ, ρ'⟩ → ArRs K ⟨F', H', x.σ, ρ'⟩ vs as → Q vs H'
  | .ex c u ρ' => GoX K β W x x.σ c u ρ'
  | .bad => False
def DenR (X : Cx) (W : WX) (es : List Expr) (m : M (List Ar)) : Prop := ∀ β x Q, St X.K β x → GoR X.K β W x (m x.ρ) Q → AV X es x.σ x.H Q
def nilR : M (List Ar) := M.pure []
def consR (m : M T) (n : M (List Ar)) : M (List Ar) := m.bind fun t => n.bind fun as => M.pure (.v t :: as)
def lenR (i : Nat) (n : M (List Ar)) : M (List Ar) := fun ρ => if (lentT ρ i).isSome then (n.bind fun as => M.pure (.m i :: as)) ρ else .bad
/-- the promise with the number of parameters -/
def spN (K : PySem.W.Frag) (n : Nat) (F : FT) : Sp := fun vs H Q E => vs.length = n ∧ spD K F vs H Q E
def callN (n : Nat) (F : FT) (ma : M (List Ar)) : M Slot := ma.bind fun as ρ => if as.length = n ∧ (mss as).Nodup then (match inp ρ as with
  | some ins => fit ρ as (F ins)
  | none => .bad) else .bad
section
variable {X : Cx} {W : WX} {K : PySem.W.Frag} {β : Bc} {x y : Sx} {e a b c o : Expr} {es rest : List Expr} {Q : VK} {pos p : Pos} {ma mb : M Rdr} {m mc : M T}
theorem denr_nil : DenR X W [] nilR := fun β x Q hs g => av_nil (g x.F x.H [] (Nx.refl hs) .nil)
theorem GoR.on {r : R (List Ar)} {Q : List V → Hp → Prop} (n : Nx K β x y) (e : y.σ = x.σ) (g : GoR K β W x r Q) : GoR K β W y r Q := by
  cases r with
  | ok t ρ' => exact fun F' H' v n' rp => g F' H' v (n.trans (e ▸ n')) (e ▸ rp)
  | ex c u ρ' => exact fun F' H' cls d n' r => e ▸ g F' H' cls d (n.trans (e ▸ n')) r
  | bad => exact g
theorem DenR.thenR {n : M (List Ar)} {f : List Ar → M (List Ar)} {Q : List V → Hp → Prop} (h : DenR X W es n) (hs : St X.K β x) (g : GoR X.K β W x (M.bind n f x.ρ) Q) :
    AV X es x.σ x.H fun vs H1 => ∃ F1 ρ1 as, Nx X.K β x ⟨F1, H1, x.σ, ρ1⟩ ∧ ArRs X.K ⟨F1, H1, x.σ, ρ1⟩ vs as ∧ GoR X.K β W ⟨F1, H1, x.σ, ρ1⟩ (f as ρ1) Q := by
  refine h β x _ hs ?_
  unfold M.bind at g
  cases q : n x.ρ with
  | ok t ρ1 => rw [q] at g; exact fun F' H' v n rp => ⟨F', ρ1, t, n, rp, GoR.on n rfl g⟩
  | ex c u ρ1 => rw [q] at g; exact g
  | bad => rw [q] at g; exact g
theorem denr_cons {n : M (List Ar)} (h : Den X W e m) (h2 : DenR X W es n) (he : starEach (e :: es) X.env = (false, eval e X.env) :: starEach es X.env := by rfl) : DenR X W (e :: es) (consR m n) := by
  intro β x Q hs g
  refine av_cons ?_ he
  refine h β x _ hs ?_
  unfold consR M.bind at g
  cases q : m x.ρ with
  | ok t ρ1 =>
    rw [q] at g
    intro F1 H1 v n1 r
    refine av_mono (h2.thenR (x := ⟨F1, H1, x.σ, ρ1⟩) (f := fun as => M.pure (.v t :: as)) n1.1 (GoR.on n1 rfl g)) ?_
    rintro vs H2 ⟨F2, ρ2, as, n2, rs, g2⟩
    exact g2 _ _ _ (Nx.refl n2.1) (.cons (n2.2.rep n1.1 r) rs)
  | ex c u ρ1 => rw [q] at g; exact g
  | bad => rw [q] at g; exact g
theorem lent_at {i : Nat} {t : T} (hs : St K β x) (h : lentT x.ρ i = some t) : ∃ a s, x.σ[i]? = some (some (.ref a)) ∧ x.ρ[i]? = some s ∧ s.isOwn = some t ∧ OwnO K x.F x.H a t ∧ ¬ x.F a := by
  unfold lentT at h
  cases q : x.ρ[i]? with
  | none => rw [q] at h; cases h
  | some s =>
    rw [q] at h
    obtain ⟨o, e1, ok⟩ := hs.at_ q
    cases s with
    | un => cases h
    | val t => cases h
    | own t =>
      cases h
      obtain ⟨a, rfl, nf, r⟩ := ok
      exact ⟨a, _, e1, rfl, rfl, r, nf⟩
    | old t => cases h
    | nl t => cases h
    | bor t =>
      cases h
      obtain ⟨a, rfl, _, nf, r⟩ := ok
      exact ⟨a, _, e1, rfl, rfl, r, nf⟩
theorem denr_lent {n : Str} {k : M (List Ar)} (i : Nat) (hp : PE X (.Name n p) (tVar i)) (h2 : DenR X W es k) (he : starEach (.Name n p :: es) X.env = (false, eval (.Name n p) X.env) :: starEach es X.env := by rfl) : DenR X W (.Name n p :: es) (lenR i k) := by
  intro β x Q hs g
  unfold lenR at g
  cases q : lentT x.ρ i with
  | none => rw [q] at g; exact g.elim
  | some t =>
    rw [q] at g
    obtain ⟨a, _, e1, _, _, _, _⟩ := lent_at hs q
    refine av_cons (ev_var i hp e1 ?_) he
    refine av_mono (h2.thenR hs g) ?_
    rintro vs H2 ⟨F2, ρ2, as, n2, rs, g2⟩
    exact g2 _ _ _ (Nx.refl n2.1) (.cons e1 rs)
/-! ### calls of the module's defs -/
variable {j k : Nat} {f : Str} {sp : Sp} {pins : List (Addr × Obj)} {σ : L2.St} {H : Hp} {s : Shared} {us : List Value} {vs : List V} {E : XK}
theorem run_atS {A : Around} {g : Addr} (F : FnX X k g sp) (hr : RoomG k A) (e0 : Env0 X.prog X.w X.K X.mg X.base A X.stack s H) (hx : PassesAt (L2.CX X.prog X.w) X σ E) (I : Inv X pins σ H s) (r : Vals vs us) (h : sp vs H Q E) :
    codeAny (model X.prog X.w) A (.call (.ref g) ⟨us, []⟩) (fun r s' => match r with | .ok (.ret v) => EP X pins σ Q v s' | .ok _ => False | .error e => X.xe e s') s := by
  refine codeAny_mono (F A X.stack s H us vs Q E hr e0 r h) fun r s' z => ?_
  cases r with
  | error e => exact hx pins H s e s' I z
  | ok fl =>
    cases fl with
    | ret u => exact I.after z
    | next => exact False.elim z
    | brk => exact False.elim z
    | cont => exact False.elim z
def tCalS (sp : Sp) (W : WX) (t : TA) : TE := fun σ H Q => t σ H fun vs H1 => sp vs H1 Q (fun c d H' => W c d σ H')
theorem pg_callS {t : TA} (c : GFX X k f sp) (hr : RoomG j X.A) (hj : k ≤ j) (hg : Gl X f) (tk : Takes X W) (ha : PA X (e :: es) t)
    (hdb : (f == ("__debug__" : Str)) = false := by decide) (he : starEach (e :: es) X.env = (false, eval e X.env) :: starEach es X.env := by rfl)
    (hpl : (backTo pos (starEach es X.env)).any (·.1) = false := by rfl) : PE X (.Call (.Name f p) (e :: es) [] pos) (tCalS sp W t) := by
  obtain ⟨f, hm, hk, F⟩ := c.ex
  refine ⟨fun pins s σ H Q I h => ?_⟩
  refine wpAny_Call_Name_kw (ld_glob I hg hm ?_ hdb)
  refine PySem.W.callWith_K (h₀ := X.base) I.ok.mod.kin hk (thn (ha.run pos pins s σ H _ I h) fun us s1 ⟨vs, H1, I1, r, q⟩ => ⟨I1.kIn, ?_⟩) he hpl
  exact wpAny_call (run_atS F (hr.mono hj) I1.env0 (passAt tk σ) I1 r q)
theorem pg_callS0 (c : GFX X k f sp) (hr : RoomG j X.A) (hj : k ≤ j) (hg : Gl X f) (tk : Takes X W) (hdb : (f == ("__debug__" : Str)) = false := by decide) :
    PE X (.Call (.Name f p) [] [] pos) (tCalS sp W tNil) := by
  obtain ⟨f, hm, hk, F⟩ := c.ex
  refine ⟨fun pins s σ H Q I h => ?_⟩
  refine wpAny_Call_Name_kw (ld_glob I hg hm ?_ hdb)
  exact PySem.W.callWith_K0 I.kIn hk (wpAny_call (run_atS (us := []) F (hr.mono hj) I.env0 (passAt tk σ) I .nil h))
theorem denf_call {n : Nat} {F : FT} {ma : M (List Ar)} (c : GFX X k f (spN X.K n F)) (hr : RoomG j X.A) (tk : Takes X W) (ha : DenR X W (e :: es) ma) (hj : k ≤ j := by decide) (hg : Gl X f := by rfl)
    (hdb : (f == ("__debug__" : Str)) = false := by decide) (he : starEach (e :: es) X.env = (false, eval e X.env) :: starEach es X.env := by rfl)
    (hpl : (backTo pos (starEach es X.env)).any (·.1) = false := by rfl) : DenF X W (.Call (.Name f p) (e :: es) [] pos) (callN n F ma) := by
  intro β x Q hs g
  refine ⟨_, pg_callS c hr hj hg tk pa_av hdb he hpl, ?_⟩
  refine ha β x _ hs ?_
  unfold callN M.bind at g
  cases q : ma x.ρ with
  | ok as ρ1 =>
    rw [q] at g
    intro F1 H1 vs n1 ar
    have g1 := GoF.on n1 rfl g
    simp only [Dv.R.bind] at g1
    by_cases hc : as.length = n ∧ (mss as).Nodup
    · rw [if_pos hc] at g1
      refine ⟨ar.len.trans hc.1, ?_⟩
      cases ei : inp ρ1 as with
      | none => simp only [ei] at g1; exact g1.elim
      | some ins =>
        simp only [ei] at g1
        exact call_core (x := ⟨F1, H1, x.σ, ρ1⟩) n1.1 ar hc.2 ei g1
    · rw [if_neg hc] at g1
      exact g1.elim
  | ex c u ρ1 => rw [q] at g; exact g
  | bad => rw [q] at g; exact g
/-! ### plain operations -/
def addP : T → T → Option T
  | .int a, .int b => some (.int (a + b))
  | .str a, .str b => if a.length + b.length ≤ 10000000 then some (.str (a ++ b)) else none
  | .lst a, .lst b => if a.length + b.length ≤ 100000 then some (.lst (a ++ b)) else none
  | .tup a, .tup b => if a.length + b.length ≤ 100000 ∧ a ≠ [] ∧ b ≠ [] then some (.tup (a ++ b)) else none
  | _, _ => none
def subP : T → T → Option T
  | .int a, .int b => some (.int (a - b))
  | _, _ => none
def mulP : T → T → Option T
  | .int a, .int b => if a.natAbs.log2 + b.natAbs.log2 < 1000000 then some (.int (a * b)) else none
  | .lst ts, .int k => if 0 ≤ k ∧ k < 2 ^ 63 ∧ ts.length * k.toNat ≤ 100000 then some (.lst (List.replicate k.toNat ts).flatten) else none
  | _, _ => none
def modP : T → T → Option T
  | .int a, .int b => if 0 < b then some (.int (a % b)) else none
  | _, _ => none
def fdvP : T → T → Option T
  | .int a, .int b => if b ≠ 0 ∧ b.natAbs.log2 < 9000 then some (.int (a.fdiv b)) else none
  | _, _ => none
def powP : T → T → Option T
  | .int a, .int b => if 0 ≤ b ∧ (Builtin.Int.intBits a : Int) * b ≤ 2 ^ 27 then some (.int (a ^ b.toNat)) else none
  | _, _ => none
theorem big_line : (10000000 : Nat) ≤ sizeLine := by rw [sizeLine_eq]; decide
theorem opd_add : OpD X W addP (OV X (binaryOp .Add)) := by
  intro β x v w s t Q hs r1 r2 g
  cases s <;> cases t <;> simp only [addP, lift] at g <;> first | exact g.elim | skip
  · cases r1.int; cases r2.int
    exact ov_add (GoE.out hs g (.int _))
  · cases r1.str; cases r2.str
    split at g
    · rename_i hl
      split at hl
      · rename_i hl2
        cases hl
        exact ⟨_, op_add_str, _, _, rfl, rfl, Nat.le_trans hl2 big_line, GoE.out hs g (.str _)⟩
      · cases hl
    · exact g.elim
  · obtain ⟨a, us, rfl, h1, rs1⟩ := r1.tup
    obtain ⟨b, ws, rfl, h2, rs2⟩ := r2.tup
    split at g
    · rename_i hl
      split at hl
      · rename_i hl2
        cases hl
        refine ⟨_, op_catA, a, b, us, ws, rfl, rfl, .of h1, .of h2, ?_, fun e => ?_, fun _ e => ?_, fun _ _ p hp => GoE.new hs g hp (.tup upd_same (Reps.laid hs hp (rs1.app rs2)))⟩
        · rw [rs1.len, rs2.len]
          exact Nat.le_trans hl2.1 (by rw [sizeLine_eq]; decide)
        · exact absurd (by have := rs1.len; rw [e] at this; exact List.eq_nil_of_length_eq_zero this.symm) hl2.2.1
        · exact absurd (by have := rs2.len; rw [e] at this; exact List.eq_nil_of_length_eq_zero this.symm) hl2.2.2
      · cases hl
    · exact g.elim
  · obtain ⟨a, us, rfl, h1, rs1⟩ := r1.lst
    obtain ⟨b, ws, rfl, h2, rs2⟩ := r2.lst
    split at g
    · rename_i hl
      split at hl
      · rename_i hl2
        cases hl
        refine ⟨_, op_cat, a, b, us, ws, rfl, rfl, h1, h2, ?_, fun p hp => GoE.new hs g hp (.lst upd_same (Reps.laid hs hp (rs1.app rs2)))⟩
        rw [rs1.len, rs2.len]
        exact Nat.le_trans hl2 (by rw [sizeLine_eq]; decide)
      · cases hl
    · exact g.elim
end
end Dv
/-! DJ: operations on plain trees: numbers, texts, lists and tuples; built-in functions. -/
namespace Dv
open PySem PySem.Spec PyProof.Rows L2 Hv
theorem lift_if {c : Prop} [Decidable c] {K : PySem.W.Frag} {β : Bc} {W : WX} {x : Sx} {t : T} {Q : VK} (g : GoE K β W x (lift (if c then some t else none) x.ρ) Q) : c ∧ GoE K β W x (.ok t x.ρ) Q := by
  by_cases h : c
  · rw [if_pos h] at g
    exact ⟨h, g⟩
  · rw [if_neg h] at g
    exact g.elim
def optB (o : Option Bool) : Option T := o.map .bl
def ltP : T → T → Option T
  | .int a, .int b => some (.bl (decide (a < b)))
  | .str a, .str b => some (.bl (decide (a.cps.toList < b.cps.toList)))
  | _, _ => none
def leP : T → T → Option T
  | .int a, .int b => some (.bl (decide (a ≤ b)))
  | _, _ => none
def gtP : T → T → Option T
  | .int a, .int b => some (.bl (decide (b < a)))
  | _, _ => none
def geP : T → T → Option T
  | .int a, .int b => some (.bl (decide (b ≤ a)))
  | _, _ => none
def negP : T → Option T
  | .int a => some (.int (-a))
  | _ => none
/-- scalars as values -/
def vT : T → Option V
  | .non => some .non
  | .bl b => some (.bl b)
  | .int i => some (.int i)
  | .str x => some (.str x)
  | _ => none
mutual
def pdT : T → Option PyData
  | .non => some .none
  | .bl b => some (.bool b)
  | .int i => some (.int i)
  | .str x => some (.str x)
  | .tup ts => (pdTs ts).map .tuple
  | .lst ts => (pdTs ts).map .list
  | .wtu ts => (pdTs ts).map .tuple
  | _ => none
def pdTs : List T → Option (List PyData)
  | [] => some []
  | t :: ts => (pdT t).bind fun d => (pdTs ts).map (d :: ·)
end
def eqD (s t : T) : Option Bool := (pdT s).bind fun d => (pdT t).bind fun e => if SeqAt.shaped d = true ∧ SeqAt.shaped e = true then some (PyData.eqv d e) else none
def eqB : T → T → Option Bool
  | .int a, .int b => some (decide (a = b))
  | .str a, .str b => some (decide (a = b))
  | .bl a, .bl b => some (decide (a = b))
  | s, t => eqD s t
def eqP (s t : T) : Option T := (eqB s t).map .bl
def neP (s t : T) : Option T := (eqB s t).map fun b => .bl (!b)
def isNon : T → Bool
  | .non => true
  | _ => false
def isP : T → T → Option T
  | s, .non => some (.bl (isNon s))
  | _, _ => none
def isnP : T → T → Option T
  | s, .non => some (.bl (!isNon s))
  | _, _ => none
def vTs : List T → Option (List V)
  | [] => some []
  | t :: ts => (vT t).bind fun v => (vTs ts).map (v :: ·)
def inStr (y z : Str) : Bool := match y.cps.toList with
  | [c] => decide (c ∈ z.cps.toList)
  | _ => !(Builtin.Str.occurrences z y 0 z.length 1).isEmpty
def inB : T → T → Option Bool
  | .str y, .str z => some (inStr y z)
  | s, t => (seqT t).bind fun ts => (vT s).bind fun v => (vTs ts).map fun vs => inV v vs
def inP (s t : T) : Option T := (inB s t).map .bl
def ninP (s t : T) : Option T := (inB s t).map fun b => .bl (!b)
def ixP : T → T → Option T
  | .str z, .int i => if z.length ≤ 10000000 then (atI z.cps.toList i).map fun c => .str ⟨#[c]⟩ else none
  | s, .int i => (seqT s).bind fun ts => atI ts i
  | _, _ => none
section
variable {X : Cx} {W : WX} {K : PySem.W.Frag} {β : Bc} {x y : Sx} {e a b c o : Expr} {es rest : List Expr} {Q : VK} {pos p : Pos} {ma mb : M Rdr} {m mc : M T} {F : Addr → Prop} {H : Hp}
theorem opd_sub : OpD X W subP (OV X (binaryOp .Sub)) := by
  intro β x v w s t Q hs r1 r2 g
  cases s <;> cases t <;> simp only [subP, lift] at g <;> first | exact g.elim | skip
  cases r1.int; cases r2.int
  exact ov_sub (GoE.out hs g (.int _))
theorem Reps.rep {vs : List V} {ts : List T} (r : Reps K F H vs ts) (n : Nat) : Reps K F H (List.replicate n vs).flatten (List.replicate n ts).flatten := by
  induction n with
  | zero => exact .nil
  | succ n ih =>
    rw [List.replicate_succ, List.replicate_succ, List.flatten_cons, List.flatten_cons]
    exact r.app ih
theorem opd_mul : OpD X W mulP (OV X (binaryOp .Mult)) := by
  intro β x v w s t Q hs r1 r2 g
  cases s <;> cases t <;> first | exact g.elim | skip
  · cases r1.int; cases r2.int
    obtain ⟨h, g⟩ := lift_if g
    exact ov_mul h (GoE.out hs g (.int _))
  · cases r2.int
    obtain ⟨⟨h0, h1, h2⟩, g⟩ := lift_if g
    obtain ⟨a, us, rfl, ha, rs⟩ := r1.lst
    refine ⟨_, op_rep, a, _, us, rfl, rfl, ha, by omega, h1, ?_, fun p hp => GoE.new hs g hp (.lst upd_same (Reps.laid hs hp (rs.rep _)))⟩
    rw [rs.len]
    exact Nat.le_trans h2 (by rw [sizeLine_eq]; decide)
theorem opd_mod : OpD X W modP (OV X (binaryOp .Mod)) := by
  intro β x v w s t Q hs r1 r2 g
  cases s <;> cases t <;> first | exact g.elim | skip
  cases r1.int; cases r2.int
  obtain ⟨h, g⟩ := lift_if g
  exact ov_mod h (GoE.out hs g (.int _))
theorem opd_fdv : OpD X W fdvP (OV X (binaryOp .FloorDiv)) := by
  intro β x v w s t Q hs r1 r2 g
  cases s <;> cases t <;> first | exact g.elim | skip
  cases r1.int; cases r2.int
  obtain ⟨h, g⟩ := lift_if g
  exact ov_fdiv h (GoE.out hs g (.int _))
theorem opd_pow : OpD X W powP (OV X (binaryOp .Pow)) := by
  intro β x v w s t Q hs r1 r2 g
  cases s <;> cases t <;> first | exact g.elim | skip
  cases r1.int; cases r2.int
  obtain ⟨h, g⟩ := lift_if g
  exact ov_pow h (GoE.out hs g (.int _))
theorem und_neg : UnD X W negP (UV X (unaryOp .USub)) := by
  intro β x v t Q hs r1 g
  cases t <;> first | exact g.elim | skip
  cases r1.int
  exact uv_neg (GoE.out hs g (.int _))
theorem opd_lt : OpD X W ltP (OV X (compareOp .Lt)) := by
  intro β x v w s t Q hs r1 r2 g
  cases s <;> cases t <;> first | exact g.elim | skip
  · cases r1.int; cases r2.int
    exact ov_lt (GoE.out hs g (.bl _))
  · cases r1.str; cases r2.str
    exact ⟨_, op_lt_str, _, _, rfl, rfl, GoE.out hs g (.bl _)⟩
theorem opd_le : OpD X W leP (OV X (compareOp .LtE)) := by
  intro β x v w s t Q hs r1 r2 g
  cases s <;> cases t <;> first | exact g.elim | skip
  cases r1.int; cases r2.int
  exact ov_le (GoE.out hs g (.bl _))
theorem opd_gt : OpD X W gtP (OV X (compareOp .Gt)) := by
  intro β x v w s t Q hs r1 r2 g
  cases s <;> cases t <;> first | exact g.elim | skip
  cases r1.int; cases r2.int
  exact ov_gt (GoE.out hs g (.bl _))
theorem opd_ge : OpD X W geP (OV X (compareOp .GtE)) := by
  intro β x v w s t Q hs r1 r2 g
  cases s <;> cases t <;> first | exact g.elim | skip
  cases r1.int; cases r2.int
  exact ov_ge (GoE.out hs g (.bl _))
mutual
theorem rep_dp {v : V} : ∀ (t : T) (d : PyData), pdT t = some d → RepP K F H v t → Dp K H v d
  | .non, d, e, r => by cases e; cases r.non; exact .non
  | .bl b, d, e, r => by cases e; cases r.bl; exact .bl b
  | .int i, d, e, r => by cases e; cases r.int; exact .int i
  | .str z, d, e, r => by cases e; cases r.str; exact .str z
  | .tup ts, d, e, r => by
    rw [pdT, Option.map_eq_some_iff] at e
    obtain ⟨ds, e1, rfl⟩ := e
    obtain ⟨a, vs, rfl, h, rs⟩ := r.tup
    exact .tup (.of h) (rep_dps ts ds vs e1 rs)
  | .lst ts, d, e, r => by
    rw [pdT, Option.map_eq_some_iff] at e
    obtain ⟨ds, e1, rfl⟩ := e
    obtain ⟨a, vs, rfl, h, rs⟩ := r.lst
    exact .lst (.of h) (rep_dps ts ds vs e1 rs)
  | .wtu ts, d, e, r => by
    rw [pdT, Option.map_eq_some_iff] at e
    obtain ⟨ds, e1, rfl⟩ := e
    obtain ⟨a, vs, rfl, h, rs⟩ := r.wtu
    exact .tup h (rep_dps ts ds vs e1 rs)
  | .ty _, d, e, r => by cases e
  | .cls _, d, e, r => by cases e
  | .scr _, d, e, r => by cases e
  | .dic _, d, e, r => by cases e
  | .rat _, d, e, r => by cases e
  | .ins _ _, d, e, r => by cases e
  | .exc _ _, d, e, r => by cases e
theorem rep_dps : ∀ (ts : List T) (ds : List PyData) (vs : List V), pdTs ts = some ds → Reps K F H vs ts → DpAll K H vs ds
  | [], ds, vs, e, r => by cases e; cases r; exact .nil
  | t :: ts, ds, vs, e, r => by
    rw [pdTs, Option.bind_eq_some_iff] at e
    obtain ⟨d, e1, e⟩ := e
    rw [Option.map_eq_some_iff] at e
    obtain ⟨ds, e2, rfl⟩ := e
    cases r with
    | cons r rs => exact .cons (rep_dp t d e1 (.inl r)) (rep_dps ts ds _ e2 rs)
end
theorem lift_some {o : Option T} {g : GoE K β W x (lift o x.ρ) Q} : ∃ t, o = some t := by
  cases o with
  | none => exact g.elim
  | some t => exact ⟨t, rfl⟩
theorem eqD_dp {v w : V} {s t : T} {k : Bool} (e : eqD s t = some k) (r1 : RepP K F H v s) (r2 : RepP K F H w t) : ∃ d e, Dp K H v d ∧ Dp K H w e ∧ SeqAt.shaped d = true ∧ SeqAt.shaped e = true ∧ PyData.eqv d e = k := by
  unfold eqD at e
  obtain ⟨d, e1, e⟩ := Option.bind_eq_some_iff.mp e
  obtain ⟨d2, e2, e⟩ := Option.bind_eq_some_iff.mp e
  split at e
  · rename_i h
    cases e
    exact ⟨d, d2, rep_dp s d e1 r1, rep_dp t d2 e2 r2, h.1, h.2, rfl⟩
  · cases e
theorem eqB_ov {n : Nat} {v w : V} {s t : T} {k : Bool} (hr : RoomG n X.A) (e : eqB s t = some k) (r1 : RepP X.K F H v s) (r2 : RepP X.K F H w t) : (Q (.bl k) H → OV X (compareOp .Eq) v w H Q) ∧ (Q (.bl (!k)) H → OV X (compareOp .NotEq) v w H Q) := by
  unfold eqB at e
  split at e
  · cases e; cases r1.int; cases r2.int; exact ⟨ov_eq, ov_ne⟩
  · cases e; cases r1.str; cases r2.str; exact ⟨ov_eqs, ov_nes⟩
  · cases e; cases r1.bl; cases r2.bl; exact ⟨ov_eqb, ov_neb⟩
  · obtain ⟨d, d2, h1, h2, h3, h4, rfl⟩ := eqD_dp e r1 r2
    exact ⟨ov_eqD hr h1 h2 h3 h4, ov_neD hr h1 h2 h3 h4⟩
theorem opd_eq {n : Nat} (hr : RoomG n X.A) : OpD X W eqP (OV X (compareOp .Eq)) := by
  intro β x v w s t Q hs r1 r2 g
  cases e : eqB s t with
  | none => simp only [eqP, e] at g; exact g.elim
  | some k =>
    simp only [eqP, e] at g
    exact (eqB_ov hr e r1 r2).1 (GoE.out hs g (.bl _))
theorem opd_ne {n : Nat} (hr : RoomG n X.A) : OpD X W neP (OV X (compareOp .NotEq)) := by
  intro β x v w s t Q hs r1 r2 g
  cases e : eqB s t with
  | none => simp only [neP, e] at g; exact g.elim
  | some k =>
    simp only [neP, e] at g
    exact (eqB_ov hr e r1 r2).2 (GoE.out hs g (.bl _))
theorem rep_isN {v : V} {s : T} (r : RepP K F H v s) : decide (v = .non) = isNon s := by
  rcases r with r | ⟨a, rfl, r⟩
  · cases r with
    | obj f h => cases h <;> rfl
    | _ => rfl
  · cases r <;> rfl
theorem opd_is : OpD X W isP (OV X (compareOp .Is)) := by
  intro β x v w s t Q hs r1 r2 g
  cases t <;> first | exact g.elim | skip
  cases r2.non
  exact ⟨_, op_isN, rfl, by rw [rep_isN r1]; exact GoE.out hs g (.bl _)⟩
theorem opd_isn : OpD X W isnP (OV X (compareOp .IsNot)) := by
  intro β x v w s t Q hs r1 r2 g
  cases t <;> first | exact g.elim | skip
  cases r2.non
  exact ⟨_, op_notN, rfl, by rw [rep_isN r1]; exact GoE.out hs g (.bl _)⟩
theorem vT_rep {v u : V} {s : T} (e : vT s = some u) (r : RepP K F H v s) : v = u ∧ flatV u = true := by
  cases s <;> simp only [vT] at e <;> first | cases e | skip
  · exact ⟨r.non, rfl⟩
  · exact ⟨r.bl, rfl⟩
  · exact ⟨r.int, rfl⟩
  · exact ⟨r.str, rfl⟩
theorem vTs_rep : ∀ {ts : List T} {vs us : List V}, vTs ts = some us → Reps K F H vs ts → vs = us ∧ us.all flatV = true
  | [], _, _, e, .nil => by cases e; exact ⟨rfl, rfl⟩
  | t :: ts, _, _, e, .cons r rs => by
    rw [vTs, Option.bind_eq_some_iff] at e
    obtain ⟨v, e1, e⟩ := e
    obtain ⟨us, e2, rfl⟩ := Option.map_eq_some_iff.mp e
    obtain ⟨h1, h2⟩ := vT_rep e1 (.inl r)
    obtain ⟨h3, h4⟩ := vTs_rep e2 rs
    exact ⟨by rw [h1, h3], by rw [List.all_cons, h2, h4]; rfl⟩
theorem inB_ov {v w : V} {s t : T} {k : Bool} (e : inB s t = some k) (r1 : RepP X.K F H v s) (r2 : RepP X.K F H w t) : (Q (.bl k) H → OV X (compareOp .In) v w H Q) ∧ (Q (.bl (!k)) H → OV X (compareOp .NotIn) v w H Q) := by
  unfold inB at e
  split at e
  · rename_i y z
    cases e
    cases r1.str; cases r2.str
    unfold inStr
    split
    · rename_i c hc
      have : y = ⟨#[c]⟩ := by
        cases y with
        | mk cps => simp at hc; rw [← hc]
      subst this
      exact ⟨fun q => ⟨_, op_in_sign, c, z, rfl, rfl, q⟩, fun q => ⟨_, op_notIn_sign, c, z, rfl, rfl, q⟩⟩
    · exact ⟨fun q => ⟨_, op_in_str, y, z, rfl, rfl, q⟩, fun q => ⟨_, op_notin_str, y, z, rfl, rfl, q⟩⟩
  · obtain ⟨ts, e1, e⟩ := Option.bind_eq_some_iff.mp e
    obtain ⟨u, e2, e⟩ := Option.bind_eq_some_iff.mp e
    obtain ⟨us, e3, rfl⟩ := Option.map_eq_some_iff.mp e
    obtain ⟨p, vs, rfl, sq, rs⟩ := r2.seq e1
    obtain ⟨rfl, h2⟩ := vT_rep e2 r1
    obtain ⟨rfl, h4⟩ := vTs_rep e3 rs
    exact ⟨fun q => ⟨_, op_in_seq, p, vs, rfl, sq, h2, h4, q⟩, fun q => ⟨_, op_notIn_seq, p, vs, rfl, sq, h2, h4, q⟩⟩
theorem opd_in : OpD X W inP (OV X (compareOp .In)) := by
  intro β x v w s t Q hs r1 r2 g
  cases e : inB s t with
  | none => simp only [inP, e] at g; exact g.elim
  | some k =>
    simp only [inP, e] at g
    exact (inB_ov e r1 r2).1 (GoE.out hs g (.bl _))
theorem opd_nin : OpD X W ninP (OV X (compareOp .NotIn)) := by
  intro β x v w s t Q hs r1 r2 g
  cases e : inB s t with
  | none => simp only [ninP, e] at g; exact g.elim
  | some k =>
    simp only [ninP, e] at g
    exact (inB_ov e r1 r2).2 (GoE.out hs g (.bl _))
theorem Reps.atI {vs : List V} {ts : List T} {i : Int} {t : T} (rs : Reps K F H vs ts) (e : L2.atI ts i = some t) : ∃ v, L2.atI vs i = some v ∧ Rep K F H v t := by
  unfold L2.atI at e ⊢
  rw [rs.len]
  obtain ⟨j, e1, e2⟩ := Option.bind_eq_some_iff.mp e
  obtain ⟨v, h1, h2⟩ := rs.get e2
  exact ⟨v, Option.bind_eq_some_iff.mpr ⟨j, e1, h1⟩, h2⟩
theorem opd_ix : OpD X W ixP (IV X) := by
  intro β x v w s t Q hs r1 r2 g
  unfold ixP at g
  split at g
  · rename_i z i
    cases r1.str; cases r2.int
    split at g
    · rename_i hl
      cases e : L2.atI z.cps.toList i with
      | none => simp only [e] at g; exact g.elim
      | some c =>
        simp only [e] at g
        exact iv_str (Nat.le_trans hl big_line) e (GoE.out hs g (.str _))
    · exact g.elim
  · rename_i i _
    cases r2.int
    cases e : (seqT s).bind fun ts => L2.atI ts i with
    | none => simp only [e] at g; exact g.elim
    | some t =>
      simp only [e] at g
      obtain ⟨ts, e1, e2⟩ := Option.bind_eq_some_iff.mp e
      obtain ⟨p, vs, rfl, sq, rs⟩ := r1.seq e1
      obtain ⟨u, h1, h2⟩ := rs.atI e2
      rcases sq with sq | sq
      · exact iv_lst sq h1 (GoE.out hs g h2)
      · exact iv_tup sq h1 (GoE.out hs g h2)
  · exact g.elim
/-! ### built-in functions -/
def lenP : T → Option T
  | .str z => if z.length ≤ 10000000 then some (.int z.length) else none
  | .dic kts => some (.int kts.length)
  | t => (seqT t).map fun ts => .int ts.length
def absP : T → Option T
  | .int i => some (.int i.natAbs)
  | _ => none
def intP : T → Option T
  | .int i => some (.int i)
  | .bl b => some (.int (if b then 1 else 0))
  | .str z => if z.length ≤ 640 then (PySem.intText? z).map .int else none
  | _ => none
def strP : T → Option T
  | .int i => if i.natAbs.log2 < 1920 then some (.str (toString i)) else none
  | .str z => some (.str z)
  | _ => none
def blsT : T → Option Bool
  | .bl b => some b
  | _ => none
def blsTs : List T → Option (List Bool)
  | [] => some []
  | t :: ts => (blsT t).bind fun b => (blsTs ts).map (b :: ·)
def lstT : T → Option (List T)
  | .lst ts => some ts
  | _ => none
def allP (t : T) : Option T := ((lstT t).bind blsTs).map fun bs => .bl (bs.all id)
def anyP (t : T) : Option T := ((lstT t).bind blsTs).map fun bs => .bl (bs.any id)
def intsT : List T → Option (List Int)
  | [] => some []
  | .int i :: ts => (intsT ts).map (i :: ·)
  | _ :: _ => none
def sumP (t : T) : Option T := ((lstT t).bind intsT).map fun is => .int is.sum
def maxP : T → T → Option T
  | .int a, .int b => some (.int (max a b))
  | _, _ => none
def minP : T → T → Option T
  | .int a, .int b => some (.int (min a b))
  | _, _ => none
theorem call_lenDR : CallR X (.builtin "len") (fun xs H Q => ∃ a kvs, xs = [V.ref a] ∧ Rd H a (.dK kvs) ∧ Q (.int kvs.length) H) := by
  intro pins s σ H xs us Q I r h
  obtain ⟨a, kvs, ex, ha, q⟩ := h
  subst ex
  obtain ⟨u, eu, rx⟩ := vals1 r
  subst eu
  cases rx
  exact d_len I ha fun t s' I' => ⟨.int kvs.length, H, I', ⟨t, rfl⟩, q⟩
theorem und_len : UnD X W lenP fun v H Q => CV X (.builtin "len") [v] H Q := by
  intro β x v t Q hs r g
  unfold lenP at g
  split at g
  · cases r.str
    obtain ⟨h, g⟩ := lift_if g
    exact cv_lenS (Nat.le_trans h big_line) (GoE.out hs g (.int _))
  · rename_i kts
    obtain ⟨a, kvs, rfl, h, l, rs⟩ := r.dic
    refine ⟨_, call_lenDR, a, _, rfl, h, ?_⟩
    have : kvs.length = kts.length := by have := congrArg List.length l; rwa [List.length_map, List.length_map] at this
    rw [this]
    exact GoE.out hs g (.int _)
  · cases e : seqT t with
    | none => rw [e] at g; exact g.elim
    | some ts =>
      rw [e] at g
      obtain ⟨p, vs, rfl, sq, rs⟩ := r.seq e
      exact cv_len sq (by rw [rs.len]; exact GoE.out hs g (.int _))
theorem und_abs : UnD X W absP fun v H Q => CV X (.builtin "abs") [v] H Q := by
  intro β x v t Q hs r g
  cases t <;> first | exact g.elim | skip
  cases r.int
  exact cv_abs (GoE.out hs g (.int _))
theorem und_int : UnD X W intP fun v H Q => CV X (.type "int") [v] H Q := by
  intro β x v t Q hs r g
  cases t <;> first | exact g.elim | skip
  · cases r.bl
    exact cv_intb (GoE.out hs g (.int _))
  · cases r.int
    exact cv_int (GoE.out hs g (.int _))
  · rename_i z
    cases r.str
    unfold intP at g
    simp only at g
    split at g
    · rename_i hl
      cases e1 : PySem.intText? z with
      | none => rw [e1] at g; exact g.elim
      | some n =>
        rw [e1] at g
        exact cv_intS e1 hl (GoE.out hs g (.int _))
    · exact g.elim
theorem und_str : UnD X W strP fun v H Q => CV X (.type "str") [v] H Q := by
  intro β x v t Q hs r g
  cases t <;> first | exact g.elim | skip
  · cases r.int
    obtain ⟨h, g⟩ := lift_if g
    exact cv_strI h (GoE.out hs g (.str _))
  · cases r.str
    exact ⟨_, SkE.call_str_str, _, rfl, GoE.out hs g (.str _)⟩
theorem blsTs_rep : ∀ {ts : List T} {vs : List V} {bs : List Bool}, blsTs ts = some bs → Reps K F H vs ts → vs = bs.map V.bl
  | [], _, _, e, .nil => by cases e; rfl
  | t :: ts, _, _, e, .cons r rs => by
    rw [blsTs, Option.bind_eq_some_iff] at e
    obtain ⟨b, e1, e⟩ := e
    obtain ⟨bs, e2, rfl⟩ := Option.map_eq_some_iff.mp e
    cases t <;> cases e1
    rw [List.map_cons, ← blsTs_rep e2 rs, RepP.bl (.inl r)]
theorem intsT_rep : ∀ {ts : List T} {vs : List V} {bs : List Int}, intsT ts = some bs → Reps K F H vs ts → vs = bs.map V.int
  | [], _, _, e, .nil => by cases e; rfl
  | t :: ts, _, _, e, .cons r rs => by
    cases t <;> simp only [intsT] at e <;> first | cases e | skip
    obtain ⟨bs, e2, rfl⟩ := Option.map_eq_some_iff.mp e
    rw [List.map_cons, ← intsT_rep e2 rs, RepP.int (.inl r)]
theorem lstT_rep {v : V} {t : T} {ts : List T} (e : lstT t = some ts) (r : RepP K F H v t) : ∃ a vs, v = .ref a ∧ H a = some (.lst vs) ∧ Reps K F H vs ts := by
  cases t <;> cases e
  exact r.lst
theorem und_all (hc : X.calm = true) : UnD X W allP fun v H Q => CV X (.builtin "all") [v] H Q := by
  intro β x v t Q hs r g
  unfold allP at g
  cases e : (lstT t).bind blsTs with
  | none => rw [e] at g; exact g.elim
  | some bs =>
    rw [e] at g
    obtain ⟨ts, e1, e2⟩ := Option.bind_eq_some_iff.mp e
    obtain ⟨a, vs, rfl, h, rs⟩ := lstT_rep e1 r
    exact cv_all hc (.of (by rw [← blsTs_rep e2 rs]; exact h)) (GoE.out hs g (.bl _))
theorem und_any (hc : X.calm = true) : UnD X W anyP fun v H Q => CV X (.builtin "any") [v] H Q := by
  intro β x v t Q hs r g
  unfold anyP at g
  cases e : (lstT t).bind blsTs with
  | none => rw [e] at g; exact g.elim
  | some bs =>
    rw [e] at g
    obtain ⟨ts, e1, e2⟩ := Option.bind_eq_some_iff.mp e
    obtain ⟨a, vs, rfl, h, rs⟩ := lstT_rep e1 r
    exact cv_any hc (.of (by rw [← blsTs_rep e2 rs]; exact h)) (GoE.out hs g (.bl _))
theorem und_sum (hc : X.calm = true) : UnD X W sumP fun v H Q => CV X (.builtin "sum") [v] H Q := by
  intro β x v t Q hs r g
  unfold sumP at g
  cases e : (lstT t).bind intsT with
  | none => rw [e] at g; exact g.elim
  | some bs =>
    rw [e] at g
    obtain ⟨ts, e1, e2⟩ := Option.bind_eq_some_iff.mp e
    obtain ⟨a, vs, rfl, h, rs⟩ := lstT_rep e1 r
    exact ⟨_, cr_sum hc, a, bs, rfl, .of (by rw [← intsT_rep e2 rs]; exact h), GoE.out hs g (.int _)⟩
theorem opd_max (hc : X.calm = true) : OpD X W maxP fun v w H Q => CV X (.builtin "max") [v, w] H Q := by
  intro β x v w s t Q hs r1 r2 g
  cases s <;> cases t <;> first | exact g.elim | skip
  cases r1.int; cases r2.int
  exact cv_max hc (GoE.out hs g (.int _))
theorem opd_min (hc : X.calm = true) : OpD X W minP fun v w H Q => CV X (.builtin "min") [v, w] H Q := by
  intro β x v w s t Q hs r1 r2 g
  cases s <;> cases t <;> first | exact g.elim | skip
  cases r1.int; cases r2.int
  exact cv_min hc (GoE.out hs g (.int _))
theorem den_len (B : Blt X.mg) (ha : DenO X W a ma) (hg : Gl X "len" := by rfl) (he : starEach [a] X.env = (false, eval a X.env) :: starEach [] X.env := by rfl) (hpl : (backTo pos (starEach [] X.env)).any (·.1) = false := by rfl) :
    Den X W (.Call (.Name "len" p) [a] [] pos) (un1 lenP ma) := fun β x Q hs g => ev_len B (av_cons (ev_mono (ha.then1 (und_len) hs g) fun v H1 h => av_nil h) he) hg he hpl
theorem den_abs (B : Blt X.mg) (ha : DenO X W a ma) (hg : Gl X "abs" := by rfl) (he : starEach [a] X.env = (false, eval a X.env) :: starEach [] X.env := by rfl) (hpl : (backTo pos (starEach [] X.env)).any (·.1) = false := by rfl) :
    Den X W (.Call (.Name "abs" p) [a] [] pos) (un1 absP ma) := fun β x Q hs g => ev_abs B (av_cons (ev_mono (ha.then1 (und_abs) hs g) fun v H1 h => av_nil h) he) hg he hpl
theorem den_intf (B : Blt X.mg) (ha : DenO X W a ma) (hg : Gl X "int" := by rfl) (he : starEach [a] X.env = (false, eval a X.env) :: starEach [] X.env := by rfl) (hpl : (backTo pos (starEach [] X.env)).any (·.1) = false := by rfl) :
    Den X W (.Call (.Name "int" p) [a] [] pos) (un1 intP ma) := fun β x Q hs g => ev_intc B (av_cons (ev_mono (ha.then1 (und_int) hs g) fun v H1 h => av_nil h) he) hg he hpl
theorem den_strf (B : Blt X.mg) (ha : DenO X W a ma) (hg : Gl X "str" := by rfl) (he : starEach [a] X.env = (false, eval a X.env) :: starEach [] X.env := by rfl) (hpl : (backTo pos (starEach [] X.env)).any (·.1) = false := by rfl) :
    Den X W (.Call (.Name "str" p) [a] [] pos) (un1 strP ma) := fun β x Q hs g => ev_strc B (av_cons (ev_mono (ha.then1 (und_str) hs g) fun v H1 h => av_nil h) he) hg he hpl
theorem den_all (B : Blt X.mg) (hc : X.calm = true) (ha : DenO X W a ma) (hg : Gl X "all" := by rfl) (he : starEach [a] X.env = (false, eval a X.env) :: starEach [] X.env := by rfl) (hpl : (backTo pos (starEach [] X.env)).any (·.1) = false := by rfl) :
    Den X W (.Call (.Name "all" p) [a] [] pos) (un1 allP ma) := fun β x Q hs g => ev_all B (av_cons (ev_mono (ha.then1 (und_all hc) hs g) fun v H1 h => av_nil h) he) hg he hpl
theorem den_any (B : Blt X.mg) (hc : X.calm = true) (ha : DenO X W a ma) (hg : Gl X "any" := by rfl) (he : starEach [a] X.env = (false, eval a X.env) :: starEach [] X.env := by rfl) (hpl : (backTo pos (starEach [] X.env)).any (·.1) = false := by rfl) :
    Den X W (.Call (.Name "any" p) [a] [] pos) (un1 anyP ma) := fun β x Q hs g => ev_any B (av_cons (ev_mono (ha.then1 (und_any hc) hs g) fun v H1 h => av_nil h) he) hg he hpl
theorem den_sum (B : Blt X.mg) (hc : X.calm = true) (ha : DenO X W a ma) (hg : Gl X "sum" := by rfl) (he : starEach [a] X.env = (false, eval a X.env) :: starEach [] X.env := by rfl) (hpl : (backTo pos (starEach [] X.env)).any (·.1) = false := by rfl) :
    Den X W (.Call (.Name "sum" p) [a] [] pos) (un1 sumP ma) := fun β x Q hs g => ev_sum B (av_cons (ev_mono (ha.then1 (und_sum hc) hs g) fun v H1 h => av_nil h) he) hg he hpl
theorem den_max (B : Blt X.mg) (hc : X.calm = true) (ha : DenO X W a ma) (hb : DenO X W b mb) (hg : Gl X "max" := by rfl) (he : starEach [a, b] X.env = (false, eval a X.env) :: starEach [b] X.env := by rfl) (he2 : starEach [b] X.env = (false, eval b X.env) :: starEach [] X.env := by rfl)
    (hpl : (backTo pos (starEach [b] X.env)).any (·.1) = false := by rfl) : Den X W (.Call (.Name "max" p) [a, b] [] pos) (op2 maxP ma mb) :=
  fun β x Q hs g => ev_max B (av_cons (ev_mono (ha.then2 hb (opd_max hc) hs g) fun v H1 h => av_cons (ev_mono h fun w H2 h => av_nil h) he2) he) hg he hpl
theorem den_min (B : Blt X.mg) (hc : X.calm = true) (ha : DenO X W a ma) (hb : DenO X W b mb) (hg : Gl X "min" := by rfl) (he : starEach [a, b] X.env = (false, eval a X.env) :: starEach [b] X.env := by rfl) (he2 : starEach [b] X.env = (false, eval b X.env) :: starEach [] X.env := by rfl)
    (hpl : (backTo pos (starEach [b] X.env)).any (·.1) = false := by rfl) : Den X W (.Call (.Name "min" p) [a, b] [] pos) (op2 minP ma mb) :=
  fun β x Q hs g => ev_min B (av_cons (ev_mono (ha.then2 hb (opd_min hc) hs g) fun v H1 h => av_cons (ev_mono h fun w H2 h => av_nil h) he2) he) hg he hpl
end
end Dv
/-! DK: what slots own is changed: items stored, lists' methods; slices; new lists and tuples of others. -/
namespace Dv
open PySem PySem.Spec PyProof.Rows L2 Hv
structure SetV (X : Cx) (o i v : V) (H : Hp) (Q : Hp → Prop) : Prop where
  ex : ∃ t, PSet X t ∧ t o i v H Q
theorem set_sv {X : Cx} : PSet X (SetV X) := fun pins s σ H o i v ov iv u Q I ro ri rv ⟨t, h, q⟩ => h pins s σ H o i v ov iv u Q I ro ri rv q
/-- keys -/
def keyT : T → Option Key
  | .int i => some (.inl i)
  | .str x => some (.inr x)
  | _ => none
def putD (kts : List (Key × T)) (k : Key) (t : T) : List (Key × T) :=
  if (kts.any fun kt => decide (kt.1 = k)) = true then kts.map (fun kt => if kt.1 = k then (kt.1, t) else kt) else kts ++ [(k, t)]
def getD (kts : List (Key × T)) (k : Key) : Option T := (kts.find? fun kt => decide (kt.1 = k)).map (·.2)
/-- c[i] = t -/
def putT : T → T → T → Option T
  | .lst ts, .int i, t => (ixN ts.length i).map fun j => .lst (ts.set j t)
  | .dic kts, k, t => (keyT k).bind fun k => if kts.length < 100000 then some (.dic (putD kts k t)) else none
  | _, _, _ => none
/-- the slot's object becomes another one -/
def mutS (i : Nat) (o : Option T) (ρ : Env) : RS := match o with
  | some t => .nx (setW ρ i t)
  | none => .bad
def storeS (i : Nat) (mv mi : M T) : S := mv.thenS fun t ρ => if (lentT ρ i).isSome then (mi.thenS fun k ρ => mutS i ((lentT ρ i).bind fun c => putT c k t) ρ) ρ else .bad
section
variable {X : Cx} {W : WX} {K : PySem.W.Frag} {β : Bc} {x y : Sx} {e a b c o : Expr} {es rest : List Expr} {Q : VK} {pos p apos : Pos} {ma mb : M Rdr} {m mc mv mi : M T} {F : Addr → Prop} {H : Hp}
theorem keyT_rep {v : V} {t : T} {k : Key} (e : keyT t = some k) (r : RepP K F H v t) : v = kV k := by
  cases t <;> cases e
  · exact r.int
  · exact r.str
/-- pairs of a dict, of fields -/
def RepKs {κ : Type} (K : PySem.W.Frag) (F : Addr → Prop) (H : Hp) (kvs : List (κ × V)) (kts : List (κ × T)) : Prop := kvs.map (·.1) = kts.map (·.1) ∧ Reps K F H (kvs.map (·.2)) (kts.map (·.2))
theorem repKs_nil {κ : Type} : RepKs (κ := κ) K F H [] [] := ⟨rfl, .nil⟩
theorem repKs_cons {κ : Type} {k : κ} {v : V} {t : T} {kvs : List (κ × V)} {kts : List (κ × T)} (r : Rep K F H v t) (rs : RepKs K F H kvs kts) : RepKs K F H ((k, v) :: kvs) ((k, t) :: kts) := ⟨by simp [rs.1], .cons r rs.2⟩
theorem RepKs.ind {κ : Type} {P : List (κ × V) → List (κ × T) → Prop} (h0 : P [] []) (h1 : ∀ k v t kvs kts, Rep K F H v t → RepKs K F H kvs kts → P kvs kts → P ((k, v) :: kvs) ((k, t) :: kts)) : ∀ {kvs : List (κ × V)} {kts : List (κ × T)}, RepKs K F H kvs kts → P kvs kts
  | [], [], _ => h0
  | [], _ :: _, h => by cases h.1
  | _ :: _, [], h => by cases h.1
  | (k, v) :: kvs, (k', t) :: kts, ⟨e, r⟩ => by
    simp only [List.map_cons, List.cons.injEq] at e
    obtain ⟨e1, e2⟩ := e
    subst e1
    cases r with
    | cons r rs => exact h1 k v t kvs kts r ⟨e2, rs⟩ (RepKs.ind h0 h1 ⟨e2, rs⟩)
theorem RepKs.app {κ : Type} {kvs kvs' : List (κ × V)} {kts kts' : List (κ × T)} (a : RepKs K F H kvs kts) (b : RepKs K F H kvs' kts') : RepKs K F H (kvs ++ kvs') (kts ++ kts') :=
  ⟨by rw [List.map_append, List.map_append, a.1, b.1], by rw [List.map_append, List.map_append]; exact a.2.app b.2⟩
theorem RepKs.len {κ : Type} {kvs : List (κ × V)} {kts : List (κ × T)} (a : RepKs K F H kvs kts) : kvs.length = kts.length := by
  have := congrArg List.length a.1
  rwa [List.length_map, List.length_map] at this
theorem RepKs.any {κ : Type} [DecidableEq κ] {k : κ} {kvs : List (κ × V)} {kts : List (κ × T)} (a : RepKs K F H kvs kts) : (kvs.any fun kv => decide (kv.1 = k)) = kts.any fun kt => decide (kt.1 = k) := by
  refine RepKs.ind (P := fun kvs kts => (kvs.any fun kv => decide (kv.1 = k)) = kts.any fun kt => decide (kt.1 = k)) rfl (fun k v t kvs kts _ _ ih => ?_) a
  rw [List.any_cons, List.any_cons, ih]
theorem RepKs.put {k : Key} {v : V} {t : T} (r : Rep K F H v t) {kvs : List (Key × V)} {kts : List (Key × T)} (a : RepKs K F H kvs kts) : RepKs K F H (putK kvs k v) (putD kts k t) := by
  unfold putK putD
  rw [a.any]
  split
  · refine RepKs.ind (P := fun kvs kts => RepKs K F H (kvs.map fun kv => if kv.1 = k then (kv.1, v) else kv) (kts.map fun kt => if kt.1 = k then (kt.1, t) else kt)) repKs_nil (fun k' v' t' kvs kts r' _ ih => ?_) a
    rw [List.map_cons, List.map_cons]
    by_cases e : k' = k
    · rw [if_pos e, if_pos e]; exact repKs_cons r ih
    · rw [if_neg e, if_neg e]; exact repKs_cons r' ih
  · exact a.app (repKs_cons r repKs_nil)
theorem RepKs.get {k : Key} {kvs : List (Key × V)} {kts : List (Key × T)} (a : RepKs K F H kvs kts) : match getD kts k with
    | some t => ∃ v, valV kvs k = some v ∧ Rep K F H v t
    | none => valV kvs k = none := by
  refine RepKs.ind (P := fun kvs kts => match getD kts k with
    | some t => ∃ v, valV kvs k = some v ∧ Rep K F H v t
    | none => valV kvs k = none) rfl (fun k' v' t' kvs kts r' _ ih => ?_) a
  by_cases e : k' = k
  · rw [show getD ((k', t') :: kts) k = some t' by simp [getD, List.find?_cons, e]]
    exact ⟨v', valV_pos e, r'⟩
  · rw [show getD ((k', t') :: kts) k = getD kts k by simp [getD, List.find?_cons, e], valV_neg e]
    exact ih
theorem OwnO.lstI {a : Addr} {ts : List T} (h : OwnO K F H a (.lst ts)) : ∃ vs, H a = some (.lst vs) ∧ Reps K F H vs ts := by
  cases h with | lst h r => exact ⟨_, h, r⟩
theorem OwnO.dicI {a : Addr} {kts : List (Key × T)} (h : OwnO K F H a (.dic kts)) : ∃ kvs, H a = some (.dK kvs) ∧ RepKs K F H kvs kts := by
  cases h with | dic h l r => exact ⟨_, h, l, r⟩
theorem setW_with {ρ : Env} {i : Nat} {s : Slot} {t : T} (e : ρ[i]? = some s) : setW ρ i t = ρ.set i (s.with t) := by unfold setW; rw [e]
theorem Reps.updO {vs : List V} {ts : List T} {a : Addr} {o : HO} (nf : ¬ F a) (r : Reps K F H vs ts) : Reps K F (upd H a o) vs ts := r.mono (fun _ f => f) fun b u f e => by
  rw [upd_ne (fun z => by subst z; exact nf f)]
  exact e
/-- what a slot owns, and how it changes -/
theorem mut_core {i : Nat} {c : T} (hs : St K β x) (h : lentT x.ρ i = some c) : ∃ a, x.σ[i]? = some (some (.ref a)) ∧ OwnO K x.F x.H a c ∧ ¬ x.F a ∧ ∀ o c', OwnO K x.F (upd x.H a o) a c' → Nx K β x ⟨x.F, upd x.H a o, x.σ, setW x.ρ i c'⟩ := by
  obtain ⟨a, s, e1, e2, e3, e4, nf⟩ := lent_at hs h
  refine ⟨a, e1, e4, nf, fun o c' ow => ?_⟩
  rw [setW_with e2]
  exact Nx.mut hs e1 e2 e3 ow
theorem dens_store {n : Str} {ip sp : Pos} {j : Nat} (i : Nat) (hp : PE X (.Name n ip) (tVar i)) (hr : RoomG j X.A) (hv : Den X W e mv) (hi : Den X W a mi)
    (ha : ∀ v, assign (.Subscript (.Name n ip) a p) X.env v = (do
      let ov ← holding [v] (eval (.Name n ip) X.env)
      let iv ← holding [v, ov] (eval a X.env)
      standAt p
      holding [v, ov, iv] (setItem ov iv v)
      release [v, ov, iv] []) := by intro _; rfl)
    (hs : swapsWithSole [.Subscript (.Name n ip) a p] e sp.line X.env = pure false := by rfl) (hw : swappedStores [.Subscript (.Name n ip) a p] e X.env = pure none := by rfl) (hx : (assignEach [.Subscript (.Name n ip) a p] X.env).map (·.2) = [assign (.Subscript (.Name n ip) a p) X.env] := by rfl) :
    DenS X W (.Assign [.Subscript (.Name n ip) a p] e sp) (storeS i mv mi) := by
  intro β x D st g
  refine ⟨_, ps_asg pe_ev (pg_sub pe_ev pe_ev set_sv ha) hs hw hx, ?_⟩
  refine ev_mono (hv.thenS st g) ?_
  rintro v H1 ⟨F1, ρ1, t, at1, _, g1⟩
  cases q : lentT ρ1 i with
  | none => rw [if_neg (by simp [q])] at g1; exact g1.elim
  | some c0 =>
    rw [if_pos (by simp [q])] at g1
    obtain ⟨a0, e0, _⟩ := mut_core (x := ⟨F1, H1, x.σ, ρ1⟩) at1.st q
    refine ev_var i hp e0 ?_
    refine ev_mono (hi.thenS (x := ⟨F1, H1, x.σ, ρ1⟩) at1.st g1) ?_
    rintro w H2 ⟨F2, ρ2, k, at2, _, g2⟩
    cases q2 : lentT ρ2 i with
    | none => simp only [q2] at g2; exact g2.elim
    | some c =>
      simp only [q2] at g2
      obtain ⟨a1, e1, ow, nf, nx⟩ := mut_core (x := ⟨F2, H2, x.σ, ρ2⟩) at2.st q2
      have ee : a0 = a1 := by
        have z : (some (some (V.ref a0)) : Option (Option V)) = some (some (V.ref a1)) := e0.symm.trans e1
        simpa using z
      subst ee
      have rt : Rep X.K F2 H2 v t := at2.nx.2.rep at1.st at1.rep
      cases c <;> first | exact g2.elim | skip
      · rename_i ts
        cases k <;> first | exact g2.elim | skip
        rename_i z _
        cases RepP.int (.inl at2.rep)
        obtain ⟨vs, hl, rs⟩ := ow.lstI
        cases q3 : ixN ts.length z with
        | none => simp only [Option.bind, putT, q3] at g2; exact g2.elim
        | some j =>
          simp only [Option.bind, putT, q3] at g2
          refine ⟨_, set_list, a0, vs, z, j, rfl, rfl, hl, by rw [rs.len]; exact q3, ?_⟩
          exact g2 _ _ _ (nx _ _ (.lst upd_same (Reps.updO nf (rs.set j rt))))
      · rename_i kts
        cases q3 : keyT k with
        | none => simp only [Option.bind, putT, q3] at g2; exact g2.elim
        | some key =>
          simp only [Option.bind, putT, q3] at g2
          by_cases hl : kts.length < 100000
          · rw [if_pos hl] at g2
            obtain ⟨kvs, hd, rk⟩ := ow.dicI
            cases keyT_rep q3 (.inl at2.rep)
            have rk2 := RepKs.put (k := key) rt rk
            refine ⟨_, set_dict (by have := hr.r.units; omega), a0, _, rfl, DPut.k hd ?_, ?_⟩
            · rw [rk.len]; exact Nat.lt_of_lt_of_le hl (by rw [sizeLine_eq]; decide)
            · exact g2 _ _ _ (nx _ _ (.dic upd_same rk2.1 (Reps.updO nf rk2.2)))
          · rw [if_neg hl] at g2
            exact g2.elim
/-! ### methods of lists that slots own -/
def isLst : T → Bool
  | .lst _ => true
  | _ => false
def lmM (i : Nat) (f : List T → List T → Option (T × List T)) (ma : M (List T)) : M T := fun ρ => if ((lentT ρ i).map isLst) = some true then (ma.bind fun as ρ => match lentT ρ i with
  | some (.lst ts) => match f ts as with
    | some (t, ts') => .ok t (setW ρ i (.lst ts'))
    | none => .bad
  | _ => .bad) ρ else .bad
/-- what a list's method does -/
def LmOk (X : Cx) (f : List T → List T → Option (T × List T)) (r : V → List V → Hp → VK → Prop) : Prop := ∀ (F : Addr → Prop) (H : Hp) (a : Addr) (us vs : List V) (ts as : List T) (t : T) (ts' : List T) (Q : VK),
  ¬ F a → H a = some (.lst us) → Reps X.K F H us ts → Reps X.K F H vs as → f ts as = some (t, ts') → (∀ us' v, Reps X.K F H us' ts' → Rep X.K F H v t → Q v (upd H a (.lst us'))) → r (.ref a) vs H Q
theorem den_lm {n : Str} {ip : Pos} {ce : Expr} {f : List T → List T → Option (T × List T)} {r : V → List V → Hp → VK → Prop} {mas : M (List T)} (i : Nat) (hp : PE X (.Name n ip) (tVar i)) (h : DenA X W es mas) (ok : LmOk X f r)
    (hev : ∀ σ H Q, (EV X (.Name n ip) σ H fun x H1 => tyV X.K "list" x H1 ∧ AV X es σ H1 fun vs H2 => r x vs H2 Q) → EV X ce σ H Q) : Den X W ce (lmM i f mas) := by
  intro β x Q st g
  unfold lmM at g
  cases q : lentT x.ρ i with
  | none => rw [if_neg (by simp [q])] at g; exact g.elim
  | some c0 =>
    by_cases hq : isLst c0 = true
    case neg => rw [if_neg (by simp [q, hq])] at g; exact g.elim
    rw [if_pos (by simp [q, hq])] at g
    obtain ⟨ts0, rfl⟩ : ∃ ts0, c0 = .lst ts0 := by cases c0 <;> simp [isLst] at hq ⊢
    obtain ⟨a0, e0, ow0, _⟩ := mut_core st q
    obtain ⟨us0, h0, _⟩ := ow0.lstI
    refine hev _ _ _ (ev_var i hp e0 ⟨ty_lst h0, ?_⟩)
    refine av_mono (h.then st g) ?_
    rintro vs H1 ⟨F1, ρ1, as, n1, rs1, _, g1⟩
    cases q2 : lentT ρ1 i with
    | none => simp only [q2] at g1; exact g1.elim
    | some c =>
      by_cases hc : isLst c = true
      case neg => cases c <;> first | exact absurd rfl hc | (simp only [q2] at g1; exact g1.elim)
      obtain ⟨ts, rfl⟩ : ∃ ts, c = .lst ts := by cases c <;> simp [isLst] at hc ⊢
      simp only [q2] at g1
      obtain ⟨a1, e1, ow, nf, nx⟩ := mut_core (x := ⟨F1, H1, x.σ, ρ1⟩) n1.1 q2
      have ee : a0 = a1 := by
        have z : (some (some (V.ref a0)) : Option (Option V)) = some (some (V.ref a1)) := e0.symm.trans e1
        simpa using z
      subst ee
      obtain ⟨us, hl, rs⟩ := ow.lstI
      cases q3 : f ts as with
      | none => simp only [q3] at g1; exact g1.elim
      | some tt =>
        obtain ⟨t, ts'⟩ := tt
        simp only [q3] at g1
        refine ok F1 H1 a0 us vs ts as t ts' Q nf hl rs rs1 q3 fun us' v ru rv => ?_
        refine g1 _ _ v (nx _ _ (.lst upd_same (Reps.updO nf ru))) (rv.mono (fun _ f => f) fun b u f e => ?_)
        rw [upd_ne (fun z => by subst z; exact nf f)]
        exact e
def appF : List T → List T → Option (T × List T)
  | ts, [t] => if ts.length < 100000 then some (.non, ts ++ [t]) else none
  | _, _ => none
def insF : List T → List T → Option (T × List T)
  | ts, [.int i, t] => if ts.length < 100000 ∧ 0 ≤ i ∧ i < 2 ^ 63 then some (.non, ts.take i.toNat ++ [t] ++ ts.drop i.toNat) else none
  | _, _ => none
def popF : List T → List T → Option (T × List T)
  | ts, [.int i] => (ixN ts.length i).bind fun j => (ts[j]?).map fun t => (t, ts.eraseIdx j)
  | ts, [] => (ts.getLast?).map fun t => (t, ts.dropLast)
  | _, _ => none
def extF : List T → List T → Option (T × List T)
  | ts, [t] => (lstT t).bind fun us => if ts.length + us.length ≤ 100000 then some (.non, ts ++ us) else none
  | _, _ => none
theorem lt_line {n : Nat} (h : n < 100000) : n < sizeLine := Nat.lt_of_lt_of_le h (by rw [sizeLine_eq]; decide)
theorem lm_app : LmOk X appF rAppend := by
  intro F H a us vs ts as t ts' Q nf hl rs rv e k
  unfold appF at e
  split at e
  · cases rv with
    | cons r rv =>
      cases rv
      split at e
      · rename_i hlen
        cases e
        exact ⟨a, us, _, rfl, rfl, hl, by rw [rs.len]; exact lt_line hlen, k _ _ (rs.app (.cons r .nil)) .non⟩
      · cases e
  · cases e
theorem lm_ins : LmOk X insF (fun x vs H Q => ∃ (l : Addr) (xs : List V) (i : Int) (y : V), x = .ref l ∧ vs = [.int i, y] ∧ H l = some (.lst xs) ∧ xs.length < sizeLine ∧ 0 ≤ i ∧ i < 2 ^ 63 ∧
      Q .non (upd H l (.lst (xs.take i.toNat ++ [y] ++ xs.drop i.toNat)))) := by
  intro F H a us vs ts as t ts' Q nf hl rs rv e k
  unfold insF at e
  split at e
  · rename_i i _
    cases rv with
    | cons r rv =>
      cases rv with
      | cons r2 rv =>
        cases rv
        cases RepP.int (.inl r)
        split at e
        · rename_i h
          cases e
          exact ⟨a, us, i, _, rfl, rfl, hl, by rw [rs.len]; exact lt_line h.1, h.2.1, h.2.2, k _ _ (((rs.take _).app (.cons r2 .nil)).app (rs.drop _)) .non⟩
        · cases e
  · cases e
end
end Dv
/-! DL: methods of lists by name; slices; list(), tuple(); data's text. -/
namespace Dv
open PySem PySem.Spec PyProof.Rows L2 Hv
section
variable {X : Cx} {W : WX} {K : PySem.W.Frag} {β : Bc} {x y : Sx} {e a b c o : Expr} {es rest : List Expr} {Q : VK} {pos p p2 apos : Pos} {ma mb : M Rdr} {m mc mv mi : M T} {F : Addr → Prop} {H : Hp} {mas : M (List T)} {n : Str} {ip : Pos}
theorem den_append (i : Nat) (hp : PE X (.Name n ip) (tVar i)) (h : DenA X W [e] mas)
    (hbase : attributeBase (.Name n ip) "append" X.env (eval (.Name n ip) X.env) = eval (.Name n ip) X.env := by rfl)
    (hfew : ((backTo pos (starEach (e :: []) X.env)).all (fun x => !x.1) && (backToKw pos (keywordEach [] X.env)).all (fun x => x.1.isSome)
      && decide ((e :: ([] : List Expr)).length + ([] : List Keyword).length + (if ([] : List Keyword).isEmpty then 0 else 1) < 30)) = true := by rfl)
    (hline : (apos.endLine == pos.line) = true := by rfl) (hs : starEach (e :: []) X.env = (false, eval e X.env) :: starEach [] X.env := by rfl) (hplain : (backTo pos (starEach [] X.env)).any (·.1) = false := by rfl) :
    Den X W (.Call (.Attribute (.Name n ip) "append" apos) [e] [] pos) (lmM i appF mas) := den_lm i hp h lm_app fun _ _ _ q => ev_append q hbase hfew hline hs hplain
theorem den_insert (i : Nat) (hp : PE X (.Name n ip) (tVar i)) (h : DenA X W [a, b] mas)
    (hbase : attributeBase (.Name n ip) "insert" X.env (eval (.Name n ip) X.env) = eval (.Name n ip) X.env := by rfl)
    (hfew : ((backTo pos (starEach (a :: [b]) X.env)).all (fun x => !x.1) && (backToKw pos (keywordEach [] X.env)).all (fun x => x.1.isSome)
      && decide ((a :: [b]).length + ([] : List Keyword).length + (if ([] : List Keyword).isEmpty then 0 else 1) < 30)) = true := by rfl)
    (hline : (apos.endLine == pos.line) = true := by rfl) (hs : starEach (a :: [b]) X.env = (false, eval a X.env) :: starEach [b] X.env := by rfl) (hplain : (backTo pos (starEach [b] X.env)).any (·.1) = false := by rfl) :
    Den X W (.Call (.Attribute (.Name n ip) "insert" apos) [a, b] [] pos) (lmM i insF mas) := den_lm i hp h lm_ins fun _ _ _ q => ev_insert q hbase hfew hline hs hplain
/-! ### slices -/
structure SliV (X : Cx) (x : V) (lo hi : Option Int) (H : Hp) (Q : VK) : Prop where
  ex : ∃ r, L2.SlR X r ∧ r x lo hi H Q
theorem sl_sv : L2.SlR X (SliV X) := fun pins s σ H x v vl vu lo hi sl Q I rx hs hl hu ⟨r, h, q⟩ => h pins s σ H x v vl vu lo hi sl Q I rx hs hl hu q
def cutL (ts : List T) (lo hi : Option Int) : List T := (ts.drop (HT.sIx ts.length 0 lo)).take (HT.sIx ts.length ts.length hi - HT.sIx ts.length 0 lo)
def slP (t : T) (lo hi : Option Int) : Option T := match t with
  | .str z => if z.length ≤ 10000000 then some (.str (Txt.slice z lo hi)) else none
  | .lst ts => some (.lst (cutL ts lo hi))
  | .tup ts => if HT.sIx ts.length 0 lo = 0 ∧ HT.sIx ts.length ts.length hi = ts.length then none else some (.tup (cutL ts lo hi))
  | _ => none
theorem Reps.cut {vs : List V} {ts : List T} {lo hi : Option Int} (r : Reps K F H vs ts) : Reps K F H (cutV vs lo hi) (cutL ts lo hi) := by
  unfold cutV cutL
  rw [r.len]
  exact (r.drop _).take _
theorem sli_of {v : V} {t : T} {lo hi : Option Int} (hs : St X.K β x) (r : RepP X.K x.F x.H v t) (g : GoE X.K β W x (lift (slP t lo hi) x.ρ) Q) : SliV X v lo hi x.H Q := by
  cases t <;> first | exact g.elim | skip
  · rename_i z
    cases r.str
    obtain ⟨h, g⟩ := lift_if g
    exact ⟨_, C8.sl_txt, z, rfl, Nat.le_trans h big_line, GoE.out hs g (.str _)⟩
  · rename_i ts
    obtain ⟨a, vs, rfl, h, rs⟩ := r.tup
    by_cases hw : HT.sIx ts.length 0 lo = 0 ∧ HT.sIx ts.length ts.length hi = ts.length
    · simp only [slP, if_pos hw] at g; exact g.elim
    · simp only [slP, if_neg hw] at g
      exact ⟨_, sl_tup, a, vs, rfl, .of h, by rw [rs.len]; exact hw, fun p hp => GoE.new hs g hp (.tup upd_same (Reps.laid hs hp rs.cut))⟩
  · rename_i ts
    obtain ⟨a, vs, rfl, h, rs⟩ := r.lst
    exact ⟨_, sl_list, a, vs, rfl, .of h, fun p hp => GoE.new hs g hp (.lst upd_same (Reps.laid hs hp rs.cut))⟩
/-- an end of a slice -/
def DenOp (X : Cx) (W : WX) (e : Option Expr) (m : M (Option Int)) : Prop := ∀ β x (Q : Option Int → Hp → Prop), St X.K β x → (match m x.ρ with
  | .ok i ρ' => ∀ F' H', Nx X.K β x ⟨F', H', x.σ, ρ'⟩ → Q i H'
  | .ex c u ρ' => GoX X.K β W x x.σ c u ρ'
  | .bad => False) → OVs X e x.σ x.H Q
def noO : M (Option Int) := M.pure none
def soO (m : M T) : M (Option Int) := m.bind fun t => lift (match t with
  | .int i => some (some i)
  | _ => none)
theorem denop_no : DenOp X W none noO := fun β x Q hs g => os_no (g _ _ (Nx.refl hs))
theorem denop_so (h : Den X W e m) : DenOp X W (some e) (soO m) := by
  intro β x Q hs g
  refine os_so (h β x _ hs ?_)
  unfold soO M.bind at g
  cases q : m x.ρ with
  | ex c u ρ1 => rw [q] at g; exact g
  | bad => rw [q] at g; exact g.elim
  | ok t ρ1 =>
    rw [q] at g
    intro F1 H1 v n r
    cases t <;> first | exact g.elim | skip
    cases RepP.int (.inl r)
    exact ⟨_, rfl, g _ _ n⟩
def slM (ma : M Rdr) (ml mh : M (Option Int)) : M T := ma.bind fun r => ml.bind fun l => mh.bind fun h ρ => lift ((r ρ).bind fun t => slP t l h) ρ
theorem den_sl {lo hi : Option Expr} {ml mh : M (Option Int)} (ha : DenO X W a ma) (hl : DenOp X W lo ml) (hh : DenOp X W hi mh) : Den X W (.Subscript a (.Slice lo hi none p2) pos) (slM ma ml mh) := by
  intro β x Q hs g
  refine ⟨_, L2.pe_slice sl_sv pe_ev po_ov po_ov, ?_⟩
  refine ha β x _ hs ?_
  unfold slM M.bind at g
  cases q : ma x.ρ with
  | ex c u ρ1 => rw [q] at g; exact g
  | bad => rw [q] at g; exact g.elim
  | ok r ρ1 =>
    rw [q] at g
    simp only [Dv.R.bind] at g
    intro F1 H1 v n1 rp
    refine hl β ⟨F1, H1, x.σ, ρ1⟩ _ n1.1 ?_
    show (match ml ρ1 with
      | .ok i ρ' => _
      | .ex c u ρ' => _
      | .bad => False)
    cases q2 : ml ρ1 with
    | ex c u ρ2 => rw [q2] at g; exact GoX.on n1 g
    | bad => rw [q2] at g; exact g.elim
    | ok l ρ2 =>
      rw [q2] at g
      simp only [Dv.R.bind] at g
      intro F2 H2 n2
      refine hh β ⟨F2, H2, x.σ, ρ2⟩ _ n2.1 ?_
      show (match mh ρ2 with
        | .ok i ρ' => _
        | .ex c u ρ' => _
        | .bad => False)
      cases q3 : mh ρ2 with
      | ex c u ρ3 => rw [q3] at g; exact GoX.on (n1.trans n2) g
      | bad => rw [q3] at g; exact g.elim
      | ok h ρ3 =>
        rw [q3] at g
        simp only [Dv.R.bind] at g
        intro F3 H3 n3
        have g2 := GoE.on ((n1.trans n2).trans n3) rfl g
        cases q4 : r ρ3 with
        | none => simp only [q4, Option.bind] at g2; exact g2.elim
        | some t =>
          simp only [q4, Option.bind] at g2
          exact sli_of (x := ⟨F3, H3, x.σ, ρ3⟩) n3.1 (rp ⟨F3, H3, x.σ, ρ3⟩ (n2.trans n3) rfl t q4) g2
/-! ### tuple(e), list(e) -/
def tupP : T → Option T
  | .lst ts => some (.tup ts)
  | .tup ts => some (.tup ts)
  | _ => none
theorem und_tuple : UnD X W tupP fun v H Q => CV X (.type "tuple") [v] H Q := by
  intro β x v t Q hs r g
  cases t <;> first | exact g.elim | skip
  · obtain ⟨a, vs, rfl, h, rs⟩ := r.tup
    refine ⟨_, call_tuple_of, a, vs, rfl, .inr ⟨.of h, ?_⟩⟩
    rcases r with r | ⟨_, e, r⟩
    · exact GoE.out hs g r
    · cases r
  · obtain ⟨a, vs, rfl, h, rs⟩ := r.lst
    exact ⟨_, call_tuple_of, a, vs, rfl, .inl ⟨.of h, fun p hp => GoE.new hs g hp (.tup upd_same (Reps.laid hs hp rs))⟩⟩
theorem den_tuple (B : Blt X.mg) (ha : DenO X W a ma) (hg : Gl X "tuple" := by rfl) (he : starEach [a] X.env = (false, eval a X.env) :: starEach [] X.env := by rfl) (hpl : (backTo pos (starEach [] X.env)).any (·.1) = false := by rfl) :
    Den X W (.Call (.Name "tuple" p) [a] [] pos) (un1 tupP ma) := fun β x Q hs g => ev_tuplec B (av_cons (ev_mono (ha.then1 und_tuple hs g) fun v H1 h => av_nil h) he) hg he hpl
/-- the same, for what is handed out -/
def un1F (f : T → Option T) (a : M Rdr) : M Slot := a.bind fun r ρ => lift (((r ρ).bind f).map .own) ρ
def UnF (X : Cx) (W : WX) (f : T → Option T) (G : V → Hp → VK → Prop) : Prop := ∀ β x v t Q, St X.K β x → RepP X.K x.F x.H v t → GoF X.K β W x (lift ((f t).map .own) x.ρ) Q → G v x.H Q
theorem DenO.then1F {f : T → Option T} {G : V → Hp → VK → Prop} (h : DenO X W e ma) (d : UnF X W f G) (hs : St X.K β x) (g : GoF X.K β W x (un1F f ma x.ρ) Q) : EV X e x.σ x.H fun v H => G v H Q := by
  refine h β x _ hs ?_
  unfold un1F M.bind at g
  cases q : ma x.ρ with
  | ok r ρ1 =>
    rw [q] at g
    intro F' H' v n rp
    have g2 := GoF.on n rfl g
    cases q2 : r ρ1 with
    | none => simp only [Dv.R.bind, q2] at g2; exact g2.elim
    | some t =>
      simp only [Dv.R.bind, q2] at g2
      exact d β ⟨F', H', x.σ, ρ1⟩ v t Q n.1 (rp ⟨F', H', x.σ, ρ1⟩ (Nx.refl n.1) rfl t q2) g2
  | ex c u ρ1 => rw [q] at g; exact g
  | bad => rw [q] at g; exact g
def lstP (t : T) : Option T := (seqT t).map .lst
theorem unf_list : UnF X W lstP fun v H Q => CV X (.type "list") [v] H Q := by
  intro β x v t Q hs r g
  cases e : seqT t with
  | none => simp only [lstP, e] at g; exact g.elim
  | some ts =>
    simp only [lstP, e] at g
    obtain ⟨a, vs, rfl, sq, rs⟩ := r.seq e
    exact ⟨_, call_list_of, a, vs, rfl, sq, fun p hp => GoF.new hs g hp (.lst upd_same (Reps.laidO hs hp rs))⟩
theorem denf_list (B : Blt X.mg) (ha : DenO X W a ma) (hg : Gl X "list" := by rfl) (he : starEach [a] X.env = (false, eval a X.env) :: starEach [] X.env := by rfl) (hpl : (backTo pos (starEach [] X.env)).any (·.1) = false := by rfl) :
    DenF X W (.Call (.Name "list" p) [a] [] pos) (un1F lstP ma) := fun β x Q hs g => ev_listc B (av_cons (ev_mono (ha.then1F unf_list hs g) fun v H1 h => av_nil h) he) hg he hpl
/-! ### names of built-in classes -/
theorem den_nint (B : Blt X.mg) (hg : Gl X "int" := by rfl) : Den X W (.Name "int" pos) (cst (.ty "int")) := fun β x Q hs g => ev_nint B (GoE.out hs g (.ty _)) hg
theorem den_nbool (B : Blt X.mg) (hg : Gl X "bool" := by rfl) : Den X W (.Name "bool" pos) (cst (.ty "bool")) := fun β x Q hs g => ev_nbool B (GoE.out hs g (.ty _)) hg
theorem den_nstr (B : Blt X.mg) (hg : Gl X "str" := by rfl) : Den X W (.Name "str" pos) (cst (.ty "str")) := fun β x Q hs g => ev_nstr B (GoE.out hs g (.ty _)) hg
theorem den_ndict (B : Blt X.mg) (hg : Gl X "dict" := by rfl) : Den X W (.Name "dict" pos) (cst (.ty "dict")) := fun β x Q hs g => ev_ndict B (GoE.out hs g (.ty _)) hg
theorem den_nlist (B : Blt X.mg) (hg : Gl X "list" := by rfl) : Den X W (.Name "list" pos) (cst (.ty "list")) := fun β x Q hs g => ev_nlist B (GoE.out hs g (.ty _)) hg
theorem den_ntuple (B : Blt X.mg) (hg : Gl X "tuple" := by rfl) : Den X W (.Name "tuple" pos) (cst (.ty "tuple")) := fun β x Q hs g => ev_ntuple B (GoE.out hs g (.ty _)) hg
/-- an own class by its name -/
theorem den_cls {c : Str} (hm : X.mg c = some (.ref (He.ga X.K c))) (hg : Gl X c := by rfl) (hd : (c == ("__debug__" : Str)) = false := by decide) : Den X W (.Name c pos) (cst (.cls c)) := fun β x Q hs g => ev_gl hg hm (v := .ref _) rfl (GoE.out hs g (.cls c)) hd
/-- a text, an int of the module -/
theorem den_gstr {c z : Str} {t : Tok} (hm : X.mg c = some (.str z t)) (hg : Gl X c := by rfl) (hd : (c == ("__debug__" : Str)) = false := by decide) : Den X W (.Name c pos) (cst (.str z)) := fun β x Q hs g => ev_gl hg hm (v := .str z) ⟨t, rfl⟩ (GoE.out hs g (.str z)) hd
theorem den_gint {c : Str} {z : Int} {t : Tok} (hm : X.mg c = some (.int z t)) (hg : Gl X c := by rfl) (hd : (c == ("__debug__" : Str)) = false := by decide) : Den X W (.Name c pos) (cst (.int z)) := fun β x Q hs g => ev_gl hg hm (v := .int z) ⟨t, rfl⟩ (GoE.out hs g (.int z)) hd
/-! ### the text of data -/
def reprP : T → Option T
  | .tup ts => (pdT (.tup ts)).bind fun d => if d.showable = true ∧ d.hasDict = false ∧ d.depth ≤ 60 ∧ d.shown.length ≤ sizeLine then some (.str d.shown) else none
  | .lst ts => (pdT (.lst ts)).bind fun d => if d.showable = true ∧ d.hasDict = false ∧ d.depth ≤ 60 ∧ d.shown.length ≤ sizeLine then some (.str d.shown) else none
  | _ => none
theorem und_repr {k : Nat} (hr : RoomG k X.A) : UnD X W reprP fun v H Q => CV X (.builtin "repr") [v] H Q := by
  intro β x v t Q hs r g
  cases t <;> first | exact g.elim | skip
  · rename_i ts
    cases e : pdT (.tup ts) with
    | none => simp only [reprP, e] at g; exact g.elim
    | some d =>
      simp only [reprP, e, Option.bind] at g
      obtain ⟨h, g⟩ := lift_if g
      obtain ⟨a, vs, rfl, _, _⟩ := r.tup
      exact cv_repr hr (rep_dp _ _ e r) h.1 h.2.1 h.2.2.1 h.2.2.2 (GoE.out hs g (.str _))
  · rename_i ts
    cases e : pdT (.lst ts) with
    | none => simp only [reprP, e] at g; exact g.elim
    | some d =>
      simp only [reprP, e, Option.bind] at g
      obtain ⟨h, g⟩ := lift_if g
      obtain ⟨a, vs, rfl, _, _⟩ := r.lst
      exact cv_repr hr (rep_dp _ _ e r) h.1 h.2.1 h.2.2.1 h.2.2.2 (GoE.out hs g (.str _))
theorem den_repr {k : Nat} (B : Blt X.mg) (hr : RoomG k X.A) (ha : DenO X W a ma) (hg : Gl X "repr" := by rfl) (he : starEach [a] X.env = (false, eval a X.env) :: starEach [] X.env := by rfl) (hpl : (backTo pos (starEach [] X.env)).any (·.1) = false := by rfl) :
    Den X W (.Call (.Name "repr" p) [a] [] pos) (un1 reprP ma) := fun β x Q hs g => ev_repr B (av_cons (ev_mono (ha.then1 (und_repr hr) hs g) fun v H1 h => av_nil h) he) hg he hpl
end
end Dv
/-! DM: dicts: read, asked, made, written; pop; sorted texts. -/
namespace Dv
open PySem PySem.Spec PyProof.Rows L2 Hv
section
variable {X : Cx} {W : WX} {K : PySem.W.Frag} {β : Bc} {x y : Sx} {e a b c o : Expr} {es rest : List Expr} {Q : VK} {pos p p2 apos : Pos} {ma mb : M Rdr} {m mc mv mi : M T} {F : Addr → Prop} {H : Hp} {mas : M (List T)} {n : Str} {ip : Pos} {j : Nat}
theorem RepP.dicK {v : V} {kts : List (Key × T)} (h : RepP K F H v (.dic kts)) : ∃ a kvs, v = .ref a ∧ Rd H a (.dK kvs) ∧ RepKs K F H kvs kts := by
  obtain ⟨a, kvs, e, h, l, r⟩ := h.dic
  exact ⟨a, kvs, e, h, l, r⟩
theorem DGet.r {H : Hp} {a : Addr} {kvs : List (Key × V)} {k : Key} (e : Rd H a (.dK kvs)) : DGet H a (kV k) (valV kvs k) := .inl ⟨kvs, k, e, rfl, rfl⟩
theorem lineU {k : Nat} (hr : RoomG k X.A) : X.A.units + 1 < cLine := by have := hr.r.units; omega
/-! ### d[k] -/
def ixA (s t : T) : Option T := match s with
  | .dic kts => (keyT t).bind (getD kts)
  | s => ixP s t
theorem ix_dict (hu : X.A.units + 1 < cLine) : IxR X (fun x y H Q => ∃ a v, x = .ref a ∧ DGet H a y (some v) ∧ Q v H) := by
  intro va sl pins s σ H x y v u Q I rx ry ⟨a, w, ex, g, q⟩ hs
  subst ex
  obtain rfl : v = Value.ref a := rx
  exact tail_any (dict_typeIs I g) PySem.F.slot_dict_getitem.lookup (d_getItem hu I g ry fun w' s3 I3 rw' => ⟨w, H, I3, rw', q⟩) hs
theorem opd_ixA (hr : RoomG j X.A) : OpD X W ixA (IV X) := by
  intro β x v w s t Q hs r1 r2 g
  unfold ixA at g
  split at g
  · rename_i kts
    obtain ⟨a, kvs, rfl, rd, rk⟩ := r1.dicK
    cases q1 : keyT t with
    | none => rw [q1] at g; exact g.elim
    | some k =>
      rw [q1] at g
      cases keyT_rep q1 r2
      have hg := rk.get (k := k)
      cases q2 : getD kts k with
      | none => simp only [Option.bind, q2] at g; exact g.elim
      | some u =>
        simp only [Option.bind, q2] at g
        rw [q2] at hg
        obtain ⟨w, e1, r⟩ := hg
        exact ⟨_, ix_dict (lineU hr), a, w, rfl, e1 ▸ DGet.r rd, GoE.out hs g r⟩
  · exact opd_ix β x v w s t Q hs r1 r2 g
/-! ### k in d -/
def inA (s t : T) : Option T := match t with
  | .dic kts => (keyT s).map fun k => .bl (getD kts k).isSome
  | t => inP s t
def ninA (s t : T) : Option T := match t with
  | .dic kts => (keyT s).map fun k => .bl (!(getD kts k).isSome)
  | t => ninP s t
theorem op_dIn (hu : X.A.units + 1 < cLine) : OpR X (compareOp .In) (fun y x H Q => ∃ a o, x = .ref a ∧ DGet H a y o ∧ Q (.bl o.isSome) H) := by
  intro pins s σ H x y v u Q I rx ry ⟨a, o, ex, g, q⟩
  subst ex
  obtain rfl : u = Value.ref a := ry
  exact d_in hu I g rx fun s3 I3 => ⟨.bl o.isSome, H, I3, rfl, q⟩
theorem op_dNin (hu : X.A.units + 1 < cLine) : OpR X (compareOp .NotIn) (fun y x H Q => ∃ a o, x = .ref a ∧ DGet H a y o ∧ Q (.bl (!o.isSome)) H) := by
  intro pins s σ H x y v u Q I rx ry ⟨a, o, ex, g, q⟩
  subst ex
  obtain rfl : u = Value.ref a := ry
  exact d_notIn hu I g rx fun s3 I3 => ⟨.bl (!o.isSome), H, I3, rfl, q⟩
theorem RepKs.isSome {k : Key} {kvs : List (Key × V)} {kts : List (Key × T)} (a : RepKs K F H kvs kts) : (valV kvs k).isSome = (getD kts k).isSome := by
  have := a.get (k := k)
  cases q : getD kts k with
  | none => rw [q] at this; rw [this]; rfl
  | some u => rw [q] at this; obtain ⟨w, e, _⟩ := this; rw [e]; rfl
theorem opd_inA (hr : RoomG j X.A) : OpD X W inA (OV X (compareOp .In)) := by
  intro β x v w s t Q hs r1 r2 g
  unfold inA at g
  split at g
  · rename_i kts
    obtain ⟨a, kvs, rfl, rd, rk⟩ := r2.dicK
    cases q1 : keyT s with
    | none => rw [q1] at g; exact g.elim
    | some k =>
      rw [q1] at g
      cases keyT_rep q1 r1
      refine ⟨_, op_dIn (lineU hr), a, _, rfl, DGet.r rd, ?_⟩
      rw [rk.isSome]
      exact GoE.out hs g (.bl _)
  · exact opd_in β x v w s _ Q hs r1 r2 g
theorem opd_ninA (hr : RoomG j X.A) : OpD X W ninA (OV X (compareOp .NotIn)) := by
  intro β x v w s t Q hs r1 r2 g
  unfold ninA at g
  split at g
  · rename_i kts
    obtain ⟨a, kvs, rfl, rd, rk⟩ := r2.dicK
    cases q1 : keyT s with
    | none => rw [q1] at g; exact g.elim
    | some k =>
      rw [q1] at g
      cases keyT_rep q1 r1
      refine ⟨_, op_dNin (lineU hr), a, _, rfl, DGet.r rd, ?_⟩
      rw [rk.isSome]
      exact GoE.out hs g (.bl _)
  · exact opd_nin β x v w s _ Q hs r1 r2 g
/-! ### d.get(k, x) -/
def isDic : T → Bool
  | .dic _ => true
  | _ => false
def getP : T → T → T → Option T
  | .dic kts, k, d => (keyT k).map fun k => (getD kts k).getD d
  | _, _, _ => none
def get2M (ma : M Rdr) (mk md : M T) : M T := ma.bind fun r ρ => if (r ρ).map isDic = some true then (mk.bind fun k => md.bind fun d ρ => lift ((r ρ).bind fun t => getP t k d) ρ) ρ else .bad
theorem den_get2 {cp : Pos} (hr : RoomG j X.A) (ho : DenO X W o ma) (hk : Den X W a m) (hd : Den X W b mc)
    (hbase : attributeBase o "get" X.env (eval o X.env) = eval o X.env := by rfl)
    (hfew : ((backTo cp (starEach [a, b] X.env)).all (fun x => !x.1) && (backToKw cp (keywordEach [] X.env)).all (fun x => x.1.isSome)
      && decide (([a, b] : List Expr).length + ([] : List Keyword).length + (if ([] : List Keyword).isEmpty then 0 else 1) < 30)) = true := by rfl)
    (hline : (apos.endLine == cp.line) = true := by rfl) (htr : backTo cp (starEach [a, b] X.env) = [(false, eval a X.env), (false, eval b X.env)] := by rfl) :
    Den X W (.Call (.Attribute o "get" apos) [a, b] [] cp) (get2M ma m mc) := by
  intro β x Q hs g
  refine ⟨_, pe_dget2 (lineU hr) pe_ev pe_ev pe_ev ⟨hbase, hfew, hline, htr⟩, ?_⟩
  refine ho β x _ hs ?_
  unfold get2M M.bind at g
  cases q : ma x.ρ with
  | ex c u ρ1 => rw [q] at g; exact g
  | bad => rw [q] at g; exact g.elim
  | ok r ρ1 =>
    rw [q] at g
    simp only [Dv.R.bind] at g
    intro F1 H1 v n1 rp
    by_cases hc : (r ρ1).map isDic = some true
    · rw [if_pos hc] at g
      obtain ⟨t, e1, e2⟩ := Option.map_eq_some_iff.mp hc
      obtain ⟨kts, rfl⟩ : ∃ kts, t = .dic kts := by cases t <;> first | exact ⟨_, rfl⟩ | exact absurd e2 Bool.false_ne_true
      obtain ⟨a1, kvs, rfl, rd, rk⟩ := (rp ⟨F1, H1, x.σ, ρ1⟩ (Nx.refl n1.1) rfl _ e1).dicK
      refine ⟨a1, rfl, .inl ⟨kvs, rd⟩, ?_⟩
      refine ev_mono (hk.then (x := ⟨F1, H1, x.σ, ρ1⟩) n1.1 (GoE.on n1 rfl g)) ?_
      rintro w H2 ⟨F2, ρ2, k, at2, _, g2⟩
      refine ev_mono (hd.then (x := ⟨F2, H2, x.σ, ρ2⟩) at2.st g2) ?_
      rintro z H3 ⟨F3, ρ3, d, at3, _, g3⟩
      cases q3 : r ρ3 with
      | none => simp only [q3, Option.bind] at g3; exact g3.elim
      | some t =>
        simp only [q3, Option.bind] at g3
        cases t <;> first | exact g3.elim | skip
        rename_i kts3
        obtain ⟨a3, kvs3, e3, rd3, rk3⟩ := (rp ⟨F3, H3, x.σ, ρ3⟩ (at2.nx.trans at3.nx) rfl _ q3).dicK
        cases e3
        cases q4 : keyT k with
        | none => simp only [getP, q4, Option.map] at g3; exact g3.elim
        | some k' =>
          simp only [getP, q4, Option.map] at g3
          cases keyT_rep q4 (.inl at2.rep)
          refine ⟨_, DGet.r rd3, ?_⟩
          have hg := rk3.get (k := k')
          cases q5 : getD kts3 k' with
          | none =>
            rw [q5] at hg g3
            rw [hg]
            exact GoE.out (x := ⟨F3, H3, x.σ, ρ3⟩) at3.st g3 at3.rep
          | some u =>
            rw [q5] at hg g3
            obtain ⟨w, e5, r5⟩ := hg
            rw [e5]
            exact GoE.out (x := ⟨F3, H3, x.σ, ρ3⟩) at3.st g3 r5
    · rw [if_neg hc] at g
      exact g.elim
/-! ### displays -/
def dic0 : M Slot := M.pure (.own (.dic []))
theorem denf_dic0 : DenF X W (.Dict [] [] pos) dic0 := fun β x Q hs g => ⟨_, pe_dnewK, fun p hp => GoF.new hs g hp (.dic upd_same rfl .nil)⟩
def DenP (X : Cx) (W : WX) (pos : Pos) (ks : List (Option Expr)) (vs : List Expr) (m : M (List (T × T))) : Prop := ks.all (·.isSome) = true ∧ ks.length = vs.length ∧ ∃ trs, PPs X pos ks vs trs ∧ ∀ β x (Q : List (V × V) → Hp → Prop), St X.K β x → (match m x.ρ with
  | .ok ps ρ' => ∀ F' H' us ws, Nx X.K β x ⟨F', H', x.σ, ρ'⟩ → Reps X.K F' H' us (ps.map (·.1)) → Reps X.K F' H' ws (ps.map (·.2)) → Q (us.zip ws) H'
  | .ex c u ρ' => GoX X.K β W x x.σ c u ρ'
  | .bad => False) → tPairs trs x.σ x.H Q
def nilP : M (List (T × T)) := M.pure []
def consP (mk mv : M T) (mr : M (List (T × T))) : M (List (T × T)) := mk.bind fun k => mv.bind fun v => mr.bind fun ps => M.pure ((k, v) :: ps)
theorem denp_nil : DenP X W pos [] [] nilP := ⟨rfl, rfl, [], pps_nil, fun β x Q hs g => g _ _ [] [] (Nx.refl hs) .nil .nil⟩
theorem denp_cons {ks : List (Option Expr)} {vs : List Expr} {mr : M (List (T × T))} (hk : Den X W a m) (hv : Den X W b mc) (hr : DenP X W pos ks vs mr) : DenP X W pos (some a :: ks) (b :: vs) (consP m mc mr) := by
  obtain ⟨h1, h2, trs, hp, hq⟩ := hr
  refine ⟨by simp [h1], by simp [h2], (EV X a, EV X b) :: trs, pps_cons pe_ev pe_ev hp, fun β x Q hs g => ?_⟩
  refine hk β x _ hs ?_
  unfold consP M.bind at g
  cases q1 : m x.ρ with
  | ex c u ρ1 => rw [q1] at g; exact g
  | bad => rw [q1] at g; exact g.elim
  | ok k ρ1 =>
    rw [q1] at g
    simp only [Dv.R.bind] at g
    intro F1 H1 v1 n1 r1
    refine hv β ⟨F1, H1, x.σ, ρ1⟩ _ n1.1 ?_
    show GoE _ _ _ _ (mc ρ1) _
    cases q2 : mc ρ1 with
    | ex c u ρ2 => rw [q2] at g; exact GoX.on n1 g
    | bad => rw [q2] at g; exact g.elim
    | ok w ρ2 =>
      rw [q2] at g
      simp only [Dv.R.bind] at g
      intro F2 H2 v2 n2 r2
      refine hq β ⟨F2, H2, x.σ, ρ2⟩ _ n2.1 ?_
      show (match mr ρ2 with
        | .ok i ρ' => _
        | .ex c u ρ' => _
        | .bad => False)
      cases q3 : mr ρ2 with
      | ex c u ρ3 => rw [q3] at g; exact GoX.on (n1.trans n2) g
      | bad => rw [q3] at g; exact g.elim
      | ok ps ρ3 =>
        rw [q3] at g
        simp only [Dv.R.bind, M.pure] at g
        intro F3 H3 us ws n3 r3 r4
        exact g F3 H3 (v1 :: us) (v2 :: ws) ((n1.trans n2).trans n3) (.cons ((n2.trans n3).2.rep n1.1 r1) r3) (.cons (n3.2.rep n2.1 r2) r4)
def keyTs : List (T × T) → Option (List (Key × T))
  | [] => some []
  | (k, t) :: ps => (keyT k).bind fun k => (keyTs ps).map ((k, t) :: ·)
def mergeD (kts more : List (Key × T)) : List (Key × T) := more.foldl (fun acc kt => putD acc kt.1 kt.2) kts
theorem RepKs.merge : ∀ {more : List (Key × V)} {mt : List (Key × T)} {kvs : List (Key × V)} {kts : List (Key × T)}, RepKs K F H more mt → RepKs K F H kvs kts → RepKs K F H (mergeK kvs more) (mergeD kts mt) := by
  intro more mt kvs kts r
  refine RepKs.ind (P := fun more mt => ∀ {kvs : List (Key × V)} {kts : List (Key × T)}, RepKs K F H kvs kts → RepKs K F H (mergeK kvs more) (mergeD kts mt)) (fun r0 => r0) (fun k v t more mt rv rs ih kvs kts r0 => ?_) r
  exact ih (RepKs.put rv r0)
def dicF (mp : M (List (T × T))) : M Slot := mp.bind fun ps => lift (if ps.length ≤ 15 then (keyTs ps).map fun kts => .own (.dic (mergeD [] kts)) else none)
theorem keyTs_rep : ∀ {ps : List (T × T)} {kts : List (Key × T)} {us ws : List V}, keyTs ps = some kts → Reps K F H us (ps.map (·.1)) → Reps K F H ws (ps.map (·.2)) → ∃ kvs : List (Key × V), us.zip ws = kvs.map (fun kv => (kV kv.1, kv.2)) ∧ RepKs K F H kvs kts ∧ kvs.length = ps.length
  | [], kts, us, ws, e, r1, r2 => by
    cases e; cases r1; cases r2
    exact ⟨[], rfl, repKs_nil, rfl⟩
  | (k, t) :: ps, kts, us, ws, e, r1, r2 => by
    rw [keyTs] at e
    obtain ⟨k', e1, e⟩ := Option.bind_eq_some_iff.mp e
    obtain ⟨kts', e2, rfl⟩ := Option.map_eq_some_iff.mp e
    cases r1 with
    | cons r1 rs1 =>
      cases r2 with
      | cons r2 rs2 =>
        obtain ⟨kvs, h1, h2, h3⟩ := keyTs_rep e2 rs1 rs2
        cases keyT_rep e1 (.inl r1)
        exact ⟨(k', _) :: kvs, by simp [h1], repKs_cons r2 h2, by simp [h3]⟩
theorem denf_dic {ks : List (Option Expr)} {vs : List Expr} {mp : M (List (T × T))} (h : DenP X W pos ks vs mp) (h0 : ks ≠ [] := by intro h; cases h) (h15 : ks.length ≤ 15 := by decide) : DenF X W (.Dict ks vs pos) (dicF mp) := by
  obtain ⟨h1, h2, trs, hp, hq⟩ := h
  intro β x Q hs g
  refine ⟨_, pe_disp hp h1 h2 h0 h15, fun D hD => ?_⟩
  have n0 := Nx.laidO (o := .dK []) hs hD
  refine hq β ⟨x.F, upd x.H D (.dK []), x.σ, x.ρ⟩ _ n0.1 ?_
  unfold dicF M.bind at g
  show (match mp x.ρ with
        | .ok i ρ' => _
        | .ex c u ρ' => _
        | .bad => False)
  cases q : mp x.ρ with
  | ex c u ρ1 => rw [q] at g; exact GoX.on n0 g
  | bad => rw [q] at g; exact g.elim
  | ok ps ρ1 =>
    rw [q] at g
    simp only [Dv.R.bind] at g
    intro F1 H1 us ws n1 r1 r2
    by_cases hl : ps.length ≤ 15
    · rw [if_pos hl] at g
      cases q2 : keyTs ps with
      | none => simp only [q2, Option.map, lift] at g; exact g.elim
      | some kts =>
        simp only [q2, Option.map, lift] at g
        obtain ⟨kvs, e1, rk, e2⟩ := keyTs_rep q2 r1 r2
        have nf : ¬ x.F D := hs.fNone hD
        have nw : ¬ (Sx.mk x.F (upd x.H D (.dK [])) x.σ x.ρ).ow D := hs.owNone hD
        have d1 : H1 D = some (.dK []) := n1.2.keep D _ upd_same nw
        have d2 : ¬ F1 D := fun f => by
          rcases n1.2.new D f with f | f | f | ⟨u, f, im⟩
          · exact nf f
          · exact nw f
          · have f : upd x.H D (.dK []) D = none := f
            rw [upd_same] at f; cases f
          · have f : upd x.H D (.dK []) D = some u := f
            rw [upd_same] at f
            cases f
            rcases im with ⟨_, im⟩ | ⟨_, _, _, _, im⟩ | ⟨_, im⟩ <;> cases im
        have d3 : ¬ (Sx.mk F1 H1 x.σ ρ1).ow D := fun w => by
          rcases n1.2.wn D w with w | w
          · exact nw w
          · have w : upd x.H D (.dK []) D = none := w
            rw [upd_same] at w; cases w
        refine ⟨d1, kvs, e1, by rw [e2]; exact hl, ?_⟩
        have n2 := (n0.trans n1).updD (o := .dK (mergeK [] kvs)) hD d2 d3
        have rm := (RepKs.merge rk repKs_nil : RepKs X.K F1 H1 (mergeK [] kvs) (mergeD [] kts))
        exact g _ _ _ n2 ⟨D, rfl, d2, .dic upd_same rm.1 (Reps.updO d2 rm.2), fun ⟨i, w⟩ => d3 ⟨i, w⟩, .inr hD⟩
    · rw [if_neg hl] at g
      exact g.elim
/-! ### dict(pairs) -/
def unpT : List T → Option (List (T × T))
  | [] => some []
  | .tup [k, v] :: ts => (unpT ts).map ((k, v) :: ·)
  | _ :: _ => none
def dctP (t : T) : Option T := (lstT t).bind fun ts => (unpT ts).bind fun ps => (keyTs ps).map fun kts => .dic (mergeD [] kts)
theorem unp_rep : ∀ {ts : List T} {ps : List (T × T)} {kts : List (Key × T)} {us : List V}, unpT ts = some ps → keyTs ps = some kts → Reps K F H us ts → ∃ (as : List Addr) (kvs : List (Key × V)), us = as.map V.ref ∧ Paired (fun p kv => SqT K H p [kV kv.1, kv.2]) as kvs ∧ RepKs K F H kvs kts
  | [], ps, kts, us, e, e2, r => by
    cases e; cases e2; cases r
    exact ⟨[], [], rfl, .nil, repKs_nil⟩
  | t :: ts, ps, kts, us, e, e2, r => by
    cases r with
    | @cons v _ vs _ r rs =>
      cases t <;> first | (simp [unpT] at e; done) | skip
      rename_i ls
      match ls, e, r with
      | [k, w], e, r =>
        rw [unpT] at e
        obtain ⟨ps', e1, rfl⟩ := Option.map_eq_some_iff.mp e
        rw [keyTs] at e2
        obtain ⟨k', e3, e2⟩ := Option.bind_eq_some_iff.mp e2
        obtain ⟨kts', e4, rfl⟩ := Option.map_eq_some_iff.mp e2
        obtain ⟨as, kvs, h1, h2, h3⟩ := unp_rep e1 e4 rs
        obtain ⟨a, ws, rfl, ha, rw2⟩ := RepP.tup (.inl r)
        cases rw2 with
        | cons ra rw2 =>
          cases rw2 with
          | cons rb rw2 =>
            cases rw2
            cases keyT_rep e3 (.inl ra)
            exact ⟨a :: as, (k', _) :: kvs, by simp [h1], .cons (.of ha) h2, repKs_cons rb h3⟩
      | [], e, r => simp [unpT] at e
      | [_], e, r => simp [unpT] at e
      | _ :: _ :: _ :: _, e, r => simp [unpT] at e
theorem unf_dict (hc : X.calm = true) : UnF X W dctP fun v H Q => CV X (.type "dict") [v] H Q := by
  intro β x v t Q hs r g
  cases t <;> first | exact g.elim | skip
  rename_i ts
  cases e1 : unpT ts with
  | none => simp only [dctP, lstT, Option.bind, e1] at g; exact g.elim
  | some ps =>
    cases e2 : keyTs ps with
    | none => simp only [dctP, lstT, Option.bind, e1, e2] at g; exact g.elim
    | some kts =>
      simp only [dctP, lstT, Option.bind, e1, e2] at g
      obtain ⟨a, us, rfl, ha, rs⟩ := r.lst
      obtain ⟨as, kvs, rfl, h2, h3⟩ := unp_rep e1 e2 rs
      refine ⟨_, call_dictP hc, a, as, kvs, rfl, .of ha, h2, fun p hp => ?_⟩
      have rm := (RepKs.merge h3 repKs_nil : RepKs X.K x.F x.H (mergeK [] kvs) (mergeD [] kts))
      exact GoF.new hs g hp (.dic upd_same rm.1 (Reps.laidO hs hp rm.2))
theorem denf_dict (B : Blt X.mg) (hc : X.calm = true) (ha : DenO X W a ma) (hg : Gl X "dict" := by rfl) (he : starEach [a] X.env = (false, eval a X.env) :: starEach [] X.env := by rfl) (hpl : (backTo pos (starEach [] X.env)).any (·.1) = false := by rfl) :
    DenF X W (.Call (.Name "dict" p) [a] [] pos) (un1F dctP ma) := fun β x Q hs g => ev_ty hg (B.at_ 4) boot_dict (av_cons (ev_mono (ha.then1F (unf_dict hc) hs g) fun v H1 h => av_nil h) he) (he := he) (hpl := hpl)
/-! ### pop -/
def popN : List T → List T → Option (T × List T)
  | ts, [.int i] => if -(2 ^ 63) ≤ i ∧ i < 2 ^ 63 then (seqIndex? i ts.length).bind fun j => (ts[j]?).map fun t => (t, ts.eraseIdx j) else none
  | _, _ => none
theorem Reps.erase : ∀ {vs : List V} {ts : List T} (i : Nat), Reps K F H vs ts → Reps K F H (vs.eraseIdx i) (ts.eraseIdx i)
  | _, _, _, .nil => .nil
  | _, _, 0, .cons _ s => s
  | _, _, i + 1, .cons r s => .cons r (Reps.erase i s)
theorem lm_pop : LmOk X popN rPopAt := by
  intro F H a us vs ts as t ts' Q nf hl rs rv e k
  unfold popN at e
  split at e
  · cases rv with
    | cons r rv =>
      cases rv
      cases RepP.int (.inl r)
      split at e
      · rename_i h
        obtain ⟨j, e1, e⟩ := Option.bind_eq_some_iff.mp e
        obtain ⟨u, e2, e⟩ := Option.map_eq_some_iff.mp e
        cases e
        obtain ⟨w, e3, r3⟩ := rs.get e2
        exact ⟨a, us, _, j, w, rfl, rfl, hl, h.1, h.2, by rw [rs.len]; exact e1, e3, k _ _ (rs.erase j) r3⟩
      · cases e
  · cases e
theorem den_pop (i : Nat) (hp : PE X (.Name n ip) (tVar i)) (h : DenA X W [e] mas)
    (hbase : attributeBase (.Name n ip) "pop" X.env (eval (.Name n ip) X.env) = eval (.Name n ip) X.env := by rfl)
    (hfew : ((backTo pos (starEach (e :: []) X.env)).all (fun x => !x.1) && (backToKw pos (keywordEach [] X.env)).all (fun x => x.1.isSome)
      && decide ((e :: ([] : List Expr)).length + ([] : List Keyword).length + (if ([] : List Keyword).isEmpty then 0 else 1) < 30)) = true := by rfl)
    (hline : (apos.endLine == pos.line) = true := by rfl) (hs : starEach (e :: []) X.env = (false, eval e X.env) :: starEach [] X.env := by rfl) (hplain : (backTo pos (starEach [] X.env)).any (·.1) = false := by rfl) :
    Den X W (.Call (.Attribute (.Name n ip) "pop" apos) [e] [] pos) (lmM i popN mas) := den_lm i hp h lm_pop fun _ _ _ q => ev_popAt q hbase hfew hline hs hplain
/-! ### sorted texts -/
def leS (a b : Str) : Prop := a.cps.toList ≤ b.cps.toList
instance (a b : Str) : Decidable (leS a b) := inferInstanceAs (Decidable (_ ≤ _))
def insS (a : Str) : List Str → List Str
  | [] => [a]
  | b :: l => if leS a b then a :: b :: l else b :: insS a l
def srtS : List Str → List Str
  | [] => []
  | a :: l => insS a (srtS l)
theorem leS_trans {a b c : Str} (h : leS a b) (h' : leS b c) : leS a c := List.le_trans h h'
theorem leS_total (a b : Str) : leS a b ∨ leS b a := List.le_total _ _
theorem leS_anti {a b : Str} (h : leS a b) (h' : leS b a) : a = b := by
  have := List.le_antisymm h h'
  cases a; cases b
  rw [Str.mk.injEq]
  exact Array.toList_inj.mp this
theorem insS_perm (a : Str) : ∀ l, (insS a l).Perm (a :: l)
  | [] => .refl _
  | b :: l => by
    unfold insS
    split
    · exact .refl _
    · exact ((insS_perm a l).cons b).trans (.swap a b l)
theorem srtS_perm : ∀ l, (srtS l).Perm l
  | [] => .refl _
  | a :: l => (insS_perm a _).trans ((srtS_perm l).cons a)
theorem insS_pw {a : Str} : ∀ {l : List Str}, l.Pairwise leS → (insS a l).Pairwise leS
  | [], _ => .cons (by simp) .nil
  | b :: l, h => by
    obtain ⟨h1, h2⟩ := List.pairwise_cons.mp h
    unfold insS
    split
    · rename_i hl
      exact .cons (fun c hc => (List.mem_cons.mp hc).elim (fun e => e ▸ hl) fun hc => leS_trans hl (h1 c hc)) h
    · rename_i hl
      refine .cons (fun c hc => ?_) (insS_pw h2)
      rcases List.mem_cons.mp ((insS_perm a l).mem_iff.mp hc) with e | hc
      · rw [e]; exact (leS_total a b).resolve_left hl
      · exact h1 c hc
theorem srtS_pw : ∀ l, (srtS l).Pairwise leS
  | [] => .nil
  | a :: l => insS_pw (srtS_pw l)
theorem pw_unique : ∀ {l m : List Str}, l.Perm m → l.Pairwise leS → m.Pairwise leS → l = m
  | [], m, p, _, _ => by simpa using p.symm.eq_nil
  | a :: l, m, p, h, h' => by
    cases m with
    | nil => simpa using p.eq_nil
    | cons b m =>
      obtain ⟨h1, h2⟩ := List.pairwise_cons.mp h
      obtain ⟨h3, h4⟩ := List.pairwise_cons.mp h'
      have e : a = b := by
        rcases List.mem_cons.mp (p.mem_iff.mp (List.mem_cons_self (a := a) (l := l))) with e | e
        · exact e
        · rcases List.mem_cons.mp (p.mem_iff.mpr (List.mem_cons_self (a := b) (l := m))) with e' | e'
          · exact e'.symm
          · exact leS_anti (h1 b e') (h3 a e)
      subst e
      rw [pw_unique (List.perm_cons a |>.mp p) h2 h4]
theorem risingS_pw : ∀ {l : List Str} {p : Str}, risingS p l = true → (p :: l).Pairwise leS
  | [], p, _ => .cons (by simp) .nil
  | x :: r, p, h => by
    simp only [risingS, Bool.and_eq_true, Bool.not_eq_true', ltCps_eq, decide_eq_false_iff_not] at h
    have q := risingS_pw h.2
    have le : leS p x := h.1
    refine .cons (fun c hc => (List.mem_cons.mp hc).elim (fun e => e ▸ le) fun hc => leS_trans le ((List.pairwise_cons.mp q).1 c hc)) q
theorem srtS_of {ys xs : List Str} (p : ys.Perm xs) (h : sortedS ys = true) : ys = srtS xs := by
  refine pw_unique (p.trans (srtS_perm xs).symm) ?_ (srtS_pw xs)
  cases ys with
  | nil => exact .nil
  | cons a l => exact risingS_pw h
def strsT : List T → Option (List Str)
  | [] => some []
  | .str z :: ts => (strsT ts).map (z :: ·)
  | _ :: _ => none
theorem strsT_rep : ∀ {ts : List T} {zs : List Str} {us : List V}, strsT ts = some zs → Reps K F H us ts → us = zs.map V.str
  | [], zs, us, e, r => by cases e; cases r; rfl
  | t :: ts, zs, us, e, r => by
    cases r with
    | @cons v _ vs _ r rs =>
      cases t <;> first | (simp [strsT] at e; done) | skip
      rw [strsT] at e
      obtain ⟨zs', e1, rfl⟩ := Option.map_eq_some_iff.mp e
      cases RepP.str (.inl r)
      rw [List.map_cons, strsT_rep e1 rs]
theorem reps_strs : ∀ (zs : List Str), Reps K F H (zs.map V.str) (zs.map T.str)
  | [] => .nil
  | z :: zs => .cons (.str z) (reps_strs zs)
def srtP (t : T) : Option T := (lstT t).bind fun ts => (strsT ts).bind fun zs => if zs.length < 64 then some (.lst ((srtS zs).map .str)) else none
theorem unf_sorted : UnF X W srtP fun v H Q => CV X (.builtin "sorted") [v] H Q := by
  intro β x v t Q hs r g
  cases t <;> first | exact g.elim | skip
  rename_i ts
  cases e1 : strsT ts with
  | none => simp only [srtP, lstT, Option.bind, e1] at g; exact g.elim
  | some zs =>
    by_cases hl : zs.length < 64
    · simp only [srtP, lstT, Option.bind, e1, if_pos hl] at g
      obtain ⟨a, us, rfl, ha, rs⟩ := r.lst
      have := strsT_rep e1 rs
      subst this
      refine ⟨_, cr_sortedS, a, zs, rfl, .of ha, hl, fun ys p pm so hp => ?_⟩
      rw [srtS_of pm so]
      exact GoF.new hs g hp (.lst upd_same (reps_strs _))
    · simp only [srtP, lstT, Option.bind, e1, if_neg hl] at g
      exact g.elim
theorem denf_sorted (B : Blt X.mg) (ha : DenO X W a ma) (hg : Gl X "sorted" := by rfl) (he : starEach [a] X.env = (false, eval a X.env) :: starEach [] X.env := by rfl) (hpl : (backTo pos (starEach [] X.env)).any (·.1) = false := by rfl) :
    DenF X W (.Call (.Name "sorted" p) [a] [] pos) (un1F srtP ma) := fun β x Q hs g => ev_fn hg (B.at_ 15) boot_sorted (av_cons (ev_mono (ha.then1F unf_sorted hs g) fun v H1 h => av_nil h) he) (he := he) (hpl := hpl)
end
end Dv
/-! DN: dict comprehensions; the number of a set comprehension's members; two comparisons in a row. -/
namespace Dv
open PySem PySem.Spec PyProof.Rows L2 Hv
def compDL (own : List Nat) (g : T → Env → Option Env) (c : M Bool) (mk mv : M T) : List T → List (Key × T) → M (List (Key × T))
  | [], acc, ρ => .ok acc ρ
  | t :: ts, acc, ρ => match g t ρ with
    | none => .bad
    | some ρ1 => match c ρ1 with
      | .ok false ρ2 => compDL own g c mk mv ts acc (wipeR ρ2 own)
      | .ok true ρ2 => match mk ρ2 with
        | .ok k ρ3 => match mv ρ3 with
          | .ok v ρ4 => match keyT k with
            | some k' => if acc.length < 100000 then compDL own g c mk mv ts (putD acc k' v) (wipeR ρ4 own) else .bad
            | none => .bad
          | _ => .bad
        | _ => .bad
      | _ => .bad
def compDF (own : List Nat) (mi : M (List T)) (g : T → Env → Option Env) (c : M Bool) (mk mv : M T) : M Slot := mi.bind fun ts ρ =>
  (compDL own g c mk mv ts [] (wipeR ρ own)).bind fun kts => M.pure (.own (.dic kts))
section
variable {X : Cx} {W : WX} {K : PySem.W.Frag} {β : Bc} {x y z : Sx} {e a b c o : Expr} {Q : VK} {pos p p2 : Pos} {m : M T} {D : Addr} {ma mb mc3 : M Rdr}
theorem dc_it {J : It} {n : Nat} {G : Hp → Prop} {Y : Nat → Hp → V → Hp → Prop} (w : Walk J n G Y) {g : TG} {tt : TT} {tk tv : TE} {vs : List Nat} {σ : L2.St} {H1 : Hp} {D : Addr} {Qd : Hp → Prop} (Pv : Nat → Hp → Prop) (h0 : Pv 0 (upd H1 D (.dK []))) (hG : ∀ i H, i ≤ n → Pv i H → G H)
    (hs : ∀ i x H H', i < n → Pv i H → Y i H x H' → g x (wipe σ vs) H' fun σ2 H2 => wipe σ2 vs = wipe σ vs ∧ tt σ2 H2 fun b H3 =>
      if b = true then tk σ2 H3 fun y H4 => tv σ2 H4 fun z H5 => ∃ kvs k, y = kV k ∧ H5 D = some (.dK kvs) ∧ kvs.length < sizeLine ∧ Pv (i + 1) (upd H5 D (.dK (putK kvs k z))) else Pv (i + 1) H3) (hd : ∀ H, Pv n H → Qd H) :
    ∃ W : Nat → Nat → Hp → Prop, (∃ m, W 0 m (upd H1 D (.dK []))) ∧ ∀ i m H, W i m H →
      (J.stop i H ∧ Qd H) ∨ (J.go i H ∧ ∃ Nx : Hp → Prop, (∀ H', Nx H' → ∃ m', m' < m ∧ W (i + 1) m' H') ∧ ∀ x H', J.yld i H x H' → g x (wipe σ vs) H' fun σ2 H2 => wipe σ2 vs = wipe σ vs ∧ tt σ2 H2 fun b H3 =>
        if b = true then tk σ2 H3 fun y H4 => tv σ2 H4 fun z H5 => ∃ kvs k, y = kV k ∧ H5 D = some (.dK kvs) ∧ kvs.length < sizeLine ∧ Nx (upd H5 D (.dK (putK kvs k z))) else Nx H3) := by
  refine ⟨fun i m H => m = n - i ∧ i ≤ n ∧ Pv i H, ⟨n, by simp, Nat.zero_le _, h0⟩, ?_⟩
  rintro i m H ⟨rfl, hi, p⟩
  have q := hG i H hi p
  by_cases hlt : i < n
  · refine .inr ⟨w.goes i H hlt q, Pv (i + 1), fun H' p' => ⟨n - (i + 1), by omega, rfl, hlt, p'⟩, fun x H' y => hs i x H H' hlt p (w.yields i H x H' hlt q y)⟩
  · have e : i = n := by omega
    subst e
    exact .inl ⟨w.stops H q, hd H p⟩
theorem Nx.offU {u : HO} (n : Nx K β y z) (h : y.H D = some u) (ni : ¬ Imm u) (nf : ¬ y.F D) (nw : ¬ y.ow D) : z.H D = some u ∧ ¬ z.F D ∧ ¬ z.ow D := by
  refine ⟨n.2.keep D _ h nw, fun f => ?_, fun w => ?_⟩
  · rcases n.2.new D f with f | f | f | ⟨u', f, im⟩
    · exact nf f
    · exact nw f
    · rw [h] at f; cases f
    · rw [h] at f
      cases f
      exact ni im
  · rcases n.2.wn D w with w | w
    · exact nw w
    · rw [h] at w; cases w
theorem dK_ni {kvs : List (Key × V)} : ¬ Imm (.dK kvs) := fun im => by rcases im with ⟨_, im⟩ | ⟨_, _, _, _, im⟩ | ⟨_, im⟩ <;> cases im
variable {kx vx tg iter : Expr} {ifs : List Expr} {scope : Scope} {own : List (Str × Nat)} {mi : M (List T)} {g : T → Env → Option Env} {gg : TG} {sl : List Nat} {mc : M Bool} {mk mv : M T}
theorem dcm_core {wi : TI} {tt : TT} (hw : ∀ β x R, St X.K β x → GoI X.K β W x (mi x.ρ) R → wi x.σ x.H R)
    (hg : ∀ (s : Shared) (H : Hp) (C : Addr) (cl : List (Str × Addr)) (fp : List Addr), DenG (Cx.blk0 X scope s H C cl fp) tg sl g gg) (hsl : ∀ i ∈ sl, i ∈ own.map (·.2))
    (ht : ∀ β x Q, St X.K β x → GoT X.K β W0 x (mc x.ρ) Q → tt x.σ x.H Q)
    (hk : ∀ (s : Shared) (H : Hp) (C : Addr) (cl : List (Str × Addr)) (fp : List Addr), Den (Cx.blk0 X scope s H C cl fp) W0 kx mk)
    (he : ∀ (s : Shared) (H : Hp) (C : Addr) (cl : List (Str × Addr)) (fp : List Addr), Den (Cx.blk0 X scope s H C cl fp) W0 vx mv)
    (hs : St X.K β x) (gf : GoF X.K β W x (compDF (own.map (·.2)) mi g mc mk mv x.ρ) Q) : tDc wi gg tt (LE X scope kx) (LE X scope vx) (own.map (·.2)) x.σ x.H Q := by
  have bl : (Cx.blk0 X scope X.s_0 X.H_0 0 [] []).K = X.K := rfl
  generalize hvs : own.map (·.2) = vs at *
  refine hw β x _ hs ?_
  unfold compDF M.bind at gf
  cases q : mi x.ρ with
  | ex c u ρ1 => rw [q] at gf; exact gf
  | bad => rw [q] at gf; exact gf
  | ok ts ρ1 =>
    rw [q] at gf
    simp only [Dv.R.bind] at gf
    rintro F1 H1 J n1 ⟨G, Y, w, hG, hY⟩ D hD
    have g1 := GoF.on n1 rfl gf
    have s1 : St X.K β (Sx.mk F1 H1 x.σ ρ1) := n1.1
    have sz : (100000 : Nat) < sizeLine := by decide
    have hD1 : (Sx.mk F1 H1 x.σ ρ1).H D = none := hD
    refine dc_it w (fun i H => ∃ F ρ kts kvs, Nx X.K β (Sx.mk F1 H1 x.σ ρ1) ⟨F, H, L2.wipe x.σ vs, ρ⟩ ∧ H D = some (.dK kvs) ∧ RepKs X.K F H kvs kts ∧ ¬ F D ∧ ¬ (Sx.mk F H (L2.wipe x.σ vs) ρ).ow D ∧ (∀ i ∈ vs, ∀ s, ρ[i]? = some s → s = .un) ∧
      GoF X.K β W (Sx.mk F1 H1 x.σ ρ1) ((compDL vs g mc mk mv (ts.drop i) kts ρ).bind fun zs => M.pure (.own (.dic zs))) Q) ?_ ?_ ?_ ?_
    · have a1 := Nx.laidO (o := .dK []) s1 hD1
      have a2 := Nx.wipe vs a1.1
      refine ⟨F1, wipeR ρ1 vs, [], [], a1.trans a2, upd_same, repKs_nil, s1.fNone hD1, ?_, fun i hi s e => wipeR_in hi e, g1⟩
      intro w
      rcases a2.2.wn D w with t | t
      · exact s1.owNone hD1 t
      · rw [show (Sx.mk F1 (upd H1 D (.dK [])) x.σ ρ1).H D = some (.dK []) from upd_same] at t
        cases t
    · rintro i H _ ⟨F, ρ, _, _, n, _⟩
      exact hG _ n
    · rintro i v H H2 hi ⟨F, ρ, kts, kvs, n, eD, rk, nf, nw, un, gl⟩ hy
      obtain ⟨F2, t, et, n2, r⟩ := hY i ⟨F, H, L2.wipe x.σ vs, ρ⟩ v H2 hi n hy
      have ed : ts.drop i = t :: ts.drop (i + 1) := by
        rw [List.drop_eq_getElem_cons hi]
        congr 1
        rw [List.getElem?_eq_getElem hi] at et
        exact Option.some.inj et
      rw [ed] at gl
      unfold compDL at gl
      cases q2 : g t ρ with
      | none => simp only [q2, Dv.R.bind] at gl; exact gl.elim
      | some ρ3 =>
        simp only [q2] at gl
        have off : ∀ {σ3 : L2.St}, OffSl sl (L2.wipe x.σ vs) σ3 → L2.wipe σ3 vs = L2.wipe x.σ vs := fun {σ3} o3 => by
          have o4 : OffSl vs (L2.wipe x.σ vs) σ3 := ⟨o3.1, fun i hi => o3.2 i fun h => hi (hsl i h)⟩
          rw [wipe_eq o4]
          exact wipe_eq (σ := x.σ) ⟨wipe_length _ _, fun i hi => wipe_get hi⟩
        refine (hg X.s_0 X.H_0 0 [] []).2.2 β ⟨F2, H2, L2.wipe x.σ vs, ρ⟩ v t ρ3 _ n2.1 r q2 fun σ3 o3 n3 => ⟨off o3, ?_⟩
        have ew := off o3
        have n23 := n2.trans n3
        refine ht β ⟨F2, H2, σ3, ρ3⟩ _ n3.1 ?_
        show GoT _ _ _ _ (mc ρ3) _
        cases q3 : mc ρ3 with
        | ex c u ρ4 => simp only [q3, Dv.R.bind] at gl; exact gl.elim
        | bad => simp only [q3, Dv.R.bind] at gl; exact gl.elim
        | ok k ρ4 =>
          intro F4 H4 n4
          have n24 := n23.trans n4
          cases k with
          | false =>
            simp only [q3] at gl
            rw [if_neg (by decide)]
            obtain ⟨d1, d2, d3⟩ := n24.offU eD dK_ni nf nw
            have a2 := Nx.wipe vs n4.1
            have a3 := (n24.trans a2)
            refine ⟨F4, wipeR ρ4 vs, kts, kvs, ?_, d1, ⟨rk.1, n24.2.reps n.1 rk.2⟩, d2, ?_, fun i hi s e => wipeR_in hi e, gl⟩
            · have := n.trans a3
              simp only [ew] at this
              exact this
            · have := (a3.offU eD dK_ni nf nw).2.2
              simp only [ew] at this
              exact this
          | true =>
            simp only [q3] at gl
            rw [if_pos rfl]
            intro s H0 C cl fp
            refine hk s H0 C cl fp β ⟨F4, H4, σ3, ρ4⟩ _ n4.1 ?_
            show GoE _ _ _ _ (mk ρ4) _
            cases q4 : mk ρ4 with
            | ex c u ρ5 => simp only [q4, Dv.R.bind] at gl; exact gl.elim
            | bad => simp only [q4, Dv.R.bind] at gl; exact gl.elim
            | ok t5 ρ5 =>
              simp only [q4] at gl
              intro F5 H5 v5 n5 r5
              intro s' H0' C' cl' fp'
              refine he s' H0' C' cl' fp' β ⟨F5, H5, σ3, ρ5⟩ _ n5.1 ?_
              show GoE _ _ _ _ (mv ρ5) _
              cases q5 : mv ρ5 with
              | ex c u ρ6 => simp only [q5, Dv.R.bind] at gl; exact gl.elim
              | bad => simp only [q5, Dv.R.bind] at gl; exact gl.elim
              | ok t6 ρ6 =>
                simp only [q5] at gl
                intro F6 H6 v6 n6 r6
                cases q6 : keyT t5 with
                | none => simp only [q6, Dv.R.bind] at gl; exact gl.elim
                | some k' =>
                  simp only [q6] at gl
                  by_cases hl : kts.length < 100000
                  · rw [if_pos hl] at gl
                    cases keyT_rep q6 (.inl r5)
                    have n26 := (n24.trans n5).trans n6
                    obtain ⟨d1, d2, d3⟩ := n26.offU eD dK_ni nf nw
                    have a2 := Nx.wipe vs n6.1
                    have a3 := n26.trans a2
                    have e3 := a3.offU eD dK_ni nf nw
                    have a4 := (n.trans a3).updD (o := .dK (putK kvs k' v6)) hD1 e3.2.1 e3.2.2
                    have rk6 : RepKs X.K F6 H6 kvs kts := ⟨rk.1, n26.2.reps n.1 rk.2⟩
                    have rk7 := RepKs.put (k := k') r6 rk6
                    refine ⟨kvs, k', rfl, d1, by have := rk6.len; omega, F6, wipeR ρ6 vs, putD kts k' t6, putK kvs k' v6, ?_, upd_same, ⟨rk7.1, Reps.updO d2 rk7.2⟩, d2, ?_, fun i hi s e => wipeR_in hi e, gl⟩
                    · simp only [ew] at a4
                      exact a4
                    · have := e3.2.2
                      simp only [ew] at this
                      exact this
                  · rw [if_neg hl] at gl
                    exact gl.elim
    · rintro H ⟨F, ρ, kts, kvs, n, eD, rk, nf, nw, un, gl⟩
      rw [List.drop_length] at gl
      simp only [compDL, Dv.R.bind, M.pure] at gl
      have n' := Nx.unwipe n un
      refine gl F H (.ref D) n' ⟨D, rfl, nf, .dic eD rk.1 rk.2, ?_, .inr hD1⟩
      intro ⟨i, e1, t, e2⟩
      have ni : i ∉ vs := fun hi => by rcases e2 with e2 | e2 <;> exact nomatch un i hi _ e2
      exact nw ⟨i, by show (L2.wipe x.σ vs)[i]? = _; rw [wipe_get ni]; exact e1, t, e2⟩
theorem denf_dcm (hc : X.calm = true) (hN : X.N.Nodup) (hi : DenI X W tg iter mi) (ok : BlkOk X.N X.env.scope scope own)
    (hg : ∀ (s : Shared) (H : Hp) (C : Addr) (cl : List (Str × Addr)) (fp : List Addr), DenG (Cx.blk0 X scope s H C cl fp) tg sl g gg) (hsl : ∀ i ∈ sl, i ∈ own.map (·.2)) (ht : DenIfs X scope ifs mc)
    (hk : ∀ (s : Shared) (H : Hp) (C : Addr) (cl : List (Str × Addr)) (fp : List Addr), Den (Cx.blk0 X scope s H C cl fp) W0 kx mk)
    (he : ∀ (s : Shared) (H : Hp) (C : Addr) (cl : List (Str × Addr)) (fp : List Addr), Den (Cx.blk0 X scope s H C cl fp) W0 vx mv) (hs : ∀ x, foldedSetIterable iter X.env x = pure x := by intro _; rfl) :
    DenF X W (.DictComp kx vx [⟨tg, iter, ifs, 0⟩] scope pos) (compDF (own.map (·.2)) mi g mc mk mv) := by
  obtain ⟨wi, hpi, _, hw⟩ := hi
  obtain ⟨tt, htt, ht⟩ := ht
  exact fun β x Q st gf => ⟨_, pe_dc hc hN hpi ok (fun s H C cl fp => (hg s H C cl fp).1) htt (fun s H C cl fp => pe_le s H C cl fp) (fun s H C cl fp => pe_le s H C cl fp) hs, dcm_core hw hg hsl ht hk he st gf⟩
end
end Dv
/-! DO: sets of texts and ints: how many members a set comprehension has. -/
namespace Dv
open PySem PySem.Spec PyProof.Rows L2 Hv
section
variable {X : Cx}
/-- {elt for target in iter if ..}, elt a key: D the new set -/
def tSk (P : Program) (w : World) (wi : TI) (g : TG) (tt : TT) (te : TE) (vs : List Nat) : TE := fun σ H Q => wi σ H fun J H1 => ∀ D, H1 D = none → ∃ W : Nat → Nat → Hp → Prop, (∃ m, W 0 m (upd H1 D (SetK P w D (fun _ => false) 0))) ∧ ∀ i m H, W i m H →
  (J.stop i H ∧ Q (.ref D) H) ∨ (J.go i H ∧ ∃ Nx : Hp → Prop, (∀ H', Nx H' → ∃ m', m' < m ∧ W (i + 1) m' H') ∧ ∀ x H', J.yld i H x H' → g x (wipe σ vs) H' fun σ2 H2 => wipe σ2 vs = wipe σ vs ∧ tt σ2 H2 fun b H3 =>
    if b = true then te σ2 H3 fun y H4 => ∃ (c : Key) (S : Key → Bool) (n : Nat), y = kV c ∧ H4 D = some (SetK P w D S n) ∧ n + 1 < scanBound ∧ Nx (upd H4 D (SetK P w D (fun j => S j || decide (j = c)) (if S c = true then n else n + 1))) else Nx H3)
theorem sk_core {pins : List (Addr × Obj)} {s : Shared} {σ : L2.St} {H : Hp} {Q : VK} {elt tg iter : Expr} {ifs : List Expr} {scope : Scope} {own : List (PySem.Str × Nat)} {pos pos' : Pos} {wi : TI} {g : TG} {tt : TT} {te : TE} {use : Option (Value → Sem Unit)} {Qf : Value → Shared → Prop}
    (hc : X.calm = true) (hN : X.N.Nodup) (I : Inv X pins σ H s) (hi : PI X tg iter wi) (ok : BlkOk X.N X.env.scope scope own)
    (hg : ∀ (s : Shared) (H : Hp) (C : Addr) (cl : List (PySem.Str × Addr)) (fp : List Addr), PG (X.blk s H scope (compEnvC scope cl C X.env) fp) tg g) (ht : ∀ (s : Shared) (H : Hp) (C : Addr) (cl : List (PySem.Str × Addr)) (fp : List Addr), PTs (X.blk s H scope (compEnvC scope cl C X.env) fp) ifs tt)
    (he : ∀ (s : Shared) (H : Hp) (C : Addr) (cl : List (PySem.Str × Addr)) (fp : List Addr), PE (X.blk s H scope (compEnvC scope cl C X.env) fp) elt te) (hs : ∀ x, foldedSetIterable iter X.env x = pure x)
    (h : tSk X.prog X.w wi g tt te (own.map (·.2)) σ H Q)
    (hRR : ∀ D C s' m H', Inv X pins σ H' s' → Q (.ref D) H' → s'.heap.Ns C m → FpOk X pins H' C → compPost (model X.prog X.w) X.A X.xe use Qf (.ref D) C (.ok .next) s') :
    wpAny (model X.prog X.w) X.A (comprehension (.SetComp elt [⟨tg, iter, ifs, 0⟩] scope pos) scope X.env pos' (newSet (.type "set")) false (eval iter X.env) use) Qf X.xe s := by
  have hfree : ∀ y ∈ scope.names, y.2 = .free → ∃ c, X.env.cells.lookup y.1 = some c := fun y hy e => by
    rcases ok.free y hy e with k | k
    · exact I.ok.has _ (.inl k)
    · exact I.ok.has _ (.inr k)
  refine wpAny_comprehension_free (use := use) rfl hs (closure_ok hfree) ok.kind (fun y hy e => by rw [ok.uniq y hy, e])
    (thn (hi.run pins s σ H _ I h) fun xv s1 hx => thn hx fun itv s2 h2 => ?_)
  obtain ⟨it, fp, tn, J, H2, e, I2, T, st2, f2, q⟩ := h2
  subst e
  refine PpSet.newSet_ok (newEnv_comp ?_)
  generalize hD : s2.heap.objs.size = D
  have hDn : H2 D = none := I2.hok.fresh (Nat.le_of_eq hD)
  obtain ⟨W, ⟨m0, w0⟩, turn⟩ := q D hDn
  generalize hs3 : ({ s2 with heap := s2.heap.push { cls := .type "set", dict := none, data := .set #[] 0 (.fresh 0 0 (!X.w.params.followText "set-order")) } } : Shared) = s3
  have I3 : Inv X pins σ (upd H2 D (SetK X.prog X.w D (fun _ => false) 0)) s3 := by
    rw [← hs3]
    refine I2.laid (t' := s2.toks) (fun b o e => Heap.get?_push_of_some _ e) (Nat.le_of_eq hD) ?_
    rw [← hD]
    have new : (s2.heap.push { cls := .type "set", dict := none, data := .set #[] 0 (.fresh 0 0 (!X.w.params.followText "set-order")) }).SetOf (mixKind X.prog X.w) s2.heap.objs.size (fun _ => false) 0 :=
      ⟨_, #[], 0, _, Heap.get?_push_size _ rfl, ⟨rfl, rfl, rfl⟩, rfl, (fun e he => by simp at he), (fun k => by simp), (by decide), (by rfl), rfl⟩
    exact setK_new new
  have h3 : s3.heap = s2.heap.push { cls := .type "set", dict := none, data := .set #[] 0 (.fresh 0 0 (!X.w.params.followText "set-order")) } := by rw [← hs3]
  have sz : ∀ b ∈ fp, b < s2.heap.objs.size := fun b hb => by
    obtain ⟨o, e, _⟩ := T.obj _ _ st2 b hb
    exact Heap.lt_size e
  have f3 : ∀ b ∈ fp, FpOk X pins (upd H2 D (SetK X.prog X.w D (fun _ => false) 0)) b ∧ b < s3.heap.objs.size := fun b hb => by
    have hlt := sz b hb
    refine ⟨⟨?_, (f2 b hb).2⟩, by rw [h3, Heap.size_push]; exact Nat.lt_succ_of_lt hlt⟩
    rw [upd_ne (by rw [← hD]; exact Nat.ne_of_lt hlt)]
    exact (f2 b hb).1
  have st3 : tn 0 s3.heap := T.keep _ _ _ st2 fun b _ o e => by rw [h3]; exact Heap.get?_push_of_some _ e
  have I4 := block_start I3 ok hN f3
  have pg := hg s3 (upd H2 D (SetK X.prog X.w D (fun _ => false) 0)) s3.heap.objs.size (cellsFrom (s3.heap.objs.size + 1) scope.names (cloFrom X.env.cells scope.names [])) fp
  have pt := ht s3 (upd H2 D (SetK X.prog X.w D (fun _ => false) 0)) s3.heap.objs.size (cellsFrom (s3.heap.objs.size + 1) scope.names (cloFrom X.env.cells scope.names [])) fp
  have pe := he s3 (upd H2 D (SetK X.prog X.w D (fun _ => false) 0)) s3.heap.objs.size (cellsFrom (s3.heap.objs.size + 1) scope.names (cloFrom X.env.cells scope.names [])) fp
  show codeAny _ _ (.compStart (.SetComp elt [⟨tg, iter, ifs, 0⟩] scope pos) 0 (.ref it) (.ref D) (compEnvC scope (cellsFrom (s3.heap.objs.size + 1) scope.names (cloFrom X.env.cells scope.names [])) s3.heap.objs.size X.env)) (compPost (model X.prog X.w) X.A X.xe use Qf (.ref D) s3.heap.objs.size) { s3 with heap := pushCells (s3.heap.push { cls := .type "dict", data := .dict #[] }) scope.names }
  have nfp : ∀ b ∈ fp, (upd H2 D (SetK X.prog X.w D (fun _ => false) 0)) b = none := fun b hb => (f3 b hb).1.1
  generalize hce : compEnvC scope (cellsFrom (s3.heap.objs.size + 1) scope.names (cloFrom X.env.cells scope.names [])) s3.heap.objs.size X.env = ce at I4 pg pt pe ⊢
  have cL : ce.locals = s3.heap.objs.size := by subst hce; rfl
  generalize hH3 : upd H2 D (SetK X.prog X.w D (fun _ => false) 0) = H3 at I3 I4 pg pt pe w0 nfp f3
  generalize hs4 : ({ s3 with heap := pushCells (s3.heap.push { cls := .type "dict", data := .dict #[] }) scope.names } : Shared) = s4 at I4 ⊢
  have st4 : tn 0 s4.heap := T.keep _ _ _ st3 fun b _ o e => by rw [← hs4]; exact pushCells_keeps _ _ _ _ (Heap.get?_push_of_some _ e)
  have stat : ∀ {σ' : L2.St} {H' : Hp} {s' : Shared}, Inv (X.blk s3 H3 scope ce fp) [] σ' H' s' → (∀ b ∈ fp, H' b = none) → ∀ b ∈ fp, FpOk (X.blk s3 H3 scope ce fp) [] H' b := fun {σ' H' s'} I' hn b hb =>
    ⟨hn b hb, (I'.ok.exf b hb).1, I'.ok.exfs b hb, .inl hb, fun x c e => (I'.ok.exf b hb).2 x c e, fun p hp => absurd (show p ∈ ([] : List (Addr × Obj)) ++ [] from hp) (by simp)⟩
  have loop : codeAny (model X.prog X.w) X.A (.compLoop (.SetComp elt [⟨tg, iter, ifs, 0⟩] scope pos) 0 (.ref it) (.ref D) ce) (compPost (model X.prog X.w) X.A X.xe use Qf (.ref D) s3.heap.objs.size) s4 := by
    refine PpSet.compLoopS_any (fun n s' => ∃ i H', Inv (X.blk s3 H3 scope ce fp) [] (wipe σ (own.map (·.2))) H' s' ∧ tn i s'.heap ∧ (∀ b ∈ fp, H' b = none) ∧ W i n H') ?_ m0 ⟨0, H3, I4, st4, nfp, w0⟩
    rintro n s5 ⟨i, H5, I5, st5, n5, w5⟩
    rcases turn i n H5 w5 with ⟨stop, qq⟩ | ⟨go, Nx, hNx, step⟩
    · have td := T.done (X.blk s3 H3 scope ce fp) rfl rfl rfl hc i [] s5 _ H5 (fun _ _ => False) I5 (stat I5 n5) st5 stop
      refine thnF td fun r s6 ⟨hr, I6⟩ => ?_
      subst hr
      have I7 : Inv X pins σ H5 s6 := I3.call' (ch := fp) I6.os I6.base I6.hok I6.bare fun b hb => ⟨(f3 b hb).1.2.2.2.1, (f3 b hb).1.2.1, (f3 b hb).1.2.2.2.2.1, (f3 b hb).1.2.2.2.2.2⟩
      have nC : H5 s3.heap.objs.size = none := by
        have z : H5 ce.locals = none := I6.free
        rw [cL] at z
        exact z
      obtain ⟨m, hn, _⟩ := I6.loc
      have hn : s6.heap.Ns ce.locals m := hn
      rw [cL] at hn
      exact hRR D s3.heap.objs.size s6 m H5 I7 qq hn (I3.fpOk (Nat.le_refl _) nC)
    · have ti := T.item (X.blk s3 H3 scope ce fp) rfl rfl rfl hc i [] s5 _ H5 (fun _ _ => False) I5 (stat I5 n5) st5 go
      refine thnF ti fun r s6 ⟨u, hr, h6⟩ => ?_
      subst hr
      refine thnF h6 fun _ s7 ⟨x, H7, I7, r7, y7, st7, n7⟩ => ?_
      have I7' := I7.pinned (stat I7 n7) (T.obj _ _ st7)
      refine thnF (pg.run _ s7 _ H7 x u _ I7' r7 (step x H7 y7)) fun _ s8 ⟨σ8, H8, I8, hw8, q8⟩ => ?_
      refine thnF (pt.run _ s8 σ8 H8 _ I8 q8) fun b s9 ⟨H9, I9, q9⟩ => ?_
      have fin : ∀ {s' : Shared} {H' : Hp}, Inv (X.blk s3 H3 scope ce fp) ([] ++ pinsAt fp s7.heap) σ8 H' s' → Nx H' → ∃ m, m < n ∧ ∃ i H', Inv (X.blk s3 H3 scope ce fp) [] (wipe σ (own.map (·.2))) H' s' ∧ tn i s'.heap ∧ (∀ b ∈ fp, H' b = none) ∧ W i m H' := fun {s' H'} I' nx => by
        obtain ⟨m', hm, w'⟩ := hNx H' nx
        have pin' : ∀ b ∈ fp, ∀ o, s7.heap.get? b = some o → s'.heap.get? b = some o ∧ H' b = none := fun b hb o e =>
          let z := I'.pin (b, o) (List.mem_append_right _ (List.mem_append_right _ (mem_pinsAt hb e)))
          ⟨z.1, z.2.1⟩
        have hl : (wipe σ (own.map (·.2))).length = σ8.length := by rw [← hw8, wipe_length]
        refine ⟨m', hm, i + 1, H', (I'.unpinned (pins := [])).weak hl (fun j v e => ?_), T.keep _ _ _ st7 fun b hb o e => (pin' b hb o e).1, fun b hb => ?_, w'⟩
        · rw [← hw8] at e
          exact (wipe_some e).1
        · obtain ⟨o, e, _⟩ := T.obj _ _ st7 b hb
          exact (pin' b hb o e).2
      cases b with
      | false =>
        simp only [Bool.false_eq_true, if_false] at q9 ⊢
        exact fin I9 q9
      | true =>
        simp only [if_true] at q9 ⊢
        refine thnF (pe.run _ s9 σ8 H9 _ I9 q9) fun z s10 ⟨yv, H10, I10, r10, cb, S0, n0, ey, hD10, hz10, nx⟩ => ?_
        subst ey
        refine thnF (mt_saddK (X := X.blk s3 H3 scope ce fp) _ s10 σ8 H10 (.ref D) [kV cb] (.ref D) [z] (fun _ H' => Nx H') I10 rfl (.cons r10 .nil) ⟨D, cb, S0, n0, rfl, rfl, hD10, hz10, nx⟩) fun _ s11 ⟨_, H11, I11, _, nx11⟩ => fin I11 nx11
  exact PpSet.codeAny_compStart_set loop (T.self X.A 0 _ _ _ st4 loop)
theorem pe_sk {elt tg iter : Expr} {ifs : List Expr} {scope : Scope} {own : List (PySem.Str × Nat)} {pos : Pos} {wi : TI} {g : TG} {tt : TT} {te : TE} (hc : X.calm = true) (hN : X.N.Nodup) (hi : PI X tg iter wi) (ok : BlkOk X.N X.env.scope scope own)
    (hg : ∀ (s : Shared) (H : Hp) (C : Addr) (cl : List (PySem.Str × Addr)) (fp : List Addr), PG (X.blk s H scope (compEnvC scope cl C X.env) fp) tg g) (ht : ∀ (s : Shared) (H : Hp) (C : Addr) (cl : List (PySem.Str × Addr)) (fp : List Addr), PTs (X.blk s H scope (compEnvC scope cl C X.env) fp) ifs tt)
    (he : ∀ (s : Shared) (H : Hp) (C : Addr) (cl : List (PySem.Str × Addr)) (fp : List Addr), PE (X.blk s H scope (compEnvC scope cl C X.env) fp) elt te) (hs : ∀ x, foldedSetIterable iter X.env x = pure x := by intro _; rfl) :
    PE X (.SetComp elt [⟨tg, iter, ifs, 0⟩] scope pos) (tSk X.prog X.w wi g tt te (own.map (·.2))) := by
  refine ⟨fun pins s σ H Q I h => ?_⟩
  rw [PpSet.eval_SetComp]
  refine sk_core hc hN I hi ok hg ht he hs h fun D C s' m H' I' q hn f => ⟨m, hn, fun h'' sb => ?_⟩
  obtain ⟨f0, f1, f2, f3, f4, f5⟩ := f
  exact ⟨.ref D, H', I'.turned (t' := s'.toks) (fun b o hb e => (sb.2 b hb).trans e) f0 f1 f3 f4 f5, rfl, q⟩
theorem call_lenSK : CallR X (.builtin "len") (fun xs H Q => ∃ a S n, xs = [V.ref a] ∧ H a = some (SetK X.prog X.w a S n) ∧ Q (.int (n : Nat)) H) := by
  intro pins s σ H xs us Q I r h
  obtain ⟨a, S, n, ex, ha, q⟩ := h
  subst ex
  obtain ⟨u, eu, rx⟩ := vals1 r
  subst eu
  cases rx
  obtain ⟨o, es, ep, t, ho, hex, hd, _, _, hb, hf, hn⟩ := setK_get I ha
  refine call_len_set ho hex hd hf (by unfold scanBound at hb; omega) ⟨.int (n : Nat), H, I.tok _, ⟨_, by rw [hn]⟩, q⟩
end
instance memKey (k : Key) (l : List Key) : Decidable (k ∈ l) := decidable_of_iff ((l.any fun j => decide (j = k)) = true) (by simp)
def addS (k : Key) (acc : List Key) : List Key := if k ∈ acc then acc else k :: acc
def compSL (own : List Nat) (g : T → Env → Option Env) (c : M Bool) (el : M T) : List T → List Key → M (List Key)
  | [], acc, ρ => .ok acc ρ
  | t :: ts, acc, ρ => match g t ρ with
    | none => .bad
    | some ρ1 => match c ρ1 with
      | .ok false ρ2 => compSL own g c el ts acc (wipeR ρ2 own)
      | .ok true ρ2 => match el ρ2 with
        | .ok y ρ3 => match keyT y with
          | some k => if acc.length < 4000 then compSL own g c el ts (addS k acc) (wipeR ρ3 own) else .bad
          | none => .bad
        | _ => .bad
      | _ => .bad
/-- len({.. for ..}) -/
def lenSM (own : List Nat) (mi : M (List T)) (g : T → Env → Option Env) (c : M Bool) (el : M T) : M T := mi.bind fun ts ρ =>
  (compSL own g c el ts [] (wipeR ρ own)).bind fun ks => M.pure (.int (ks.length : Nat))
section
variable {X : Cx} {W : WX} {K : PySem.W.Frag} {β : Bc} {x y z : Sx} {e a b c o : Expr} {Q : VK} {pos p p2 : Pos} {m : M T} {D : Addr}
theorem sk_it {P : Program} {w0 : World} {J : It} {n : Nat} {G : Hp → Prop} {Y : Nat → Hp → V → Hp → Prop} (w : Walk J n G Y) {g : TG} {tt : TT} {te : TE} {vs : List Nat} {σ : L2.St} {H1 : Hp} {D : Addr} {Qd : Hp → Prop} (Pv : Nat → Hp → Prop) (h0 : Pv 0 (upd H1 D (SetK P w0 D (fun _ => false) 0))) (hG : ∀ i H, i ≤ n → Pv i H → G H)
    (hs : ∀ i x H H', i < n → Pv i H → Y i H x H' → g x (wipe σ vs) H' fun σ2 H2 => wipe σ2 vs = wipe σ vs ∧ tt σ2 H2 fun b H3 =>
      if b = true then te σ2 H3 fun y H4 => ∃ (c : Key) (S : Key → Bool) (n : Nat), y = kV c ∧ H4 D = some (SetK P w0 D S n) ∧ n + 1 < scanBound ∧ Pv (i + 1) (upd H4 D (SetK P w0 D (fun j => S j || decide (j = c)) (if S c = true then n else n + 1))) else Pv (i + 1) H3) (hd : ∀ H, Pv n H → Qd H) :
    ∃ W : Nat → Nat → Hp → Prop, (∃ m, W 0 m (upd H1 D (SetK P w0 D (fun _ => false) 0))) ∧ ∀ i m H, W i m H →
      (J.stop i H ∧ Qd H) ∨ (J.go i H ∧ ∃ Nx : Hp → Prop, (∀ H', Nx H' → ∃ m', m' < m ∧ W (i + 1) m' H') ∧ ∀ x H', J.yld i H x H' → g x (wipe σ vs) H' fun σ2 H2 => wipe σ2 vs = wipe σ vs ∧ tt σ2 H2 fun b H3 =>
        if b = true then te σ2 H3 fun y H4 => ∃ (c : Key) (S : Key → Bool) (n : Nat), y = kV c ∧ H4 D = some (SetK P w0 D S n) ∧ n + 1 < scanBound ∧ Nx (upd H4 D (SetK P w0 D (fun j => S j || decide (j = c)) (if S c = true then n else n + 1))) else Nx H3) := by
  refine ⟨fun i m H => m = n - i ∧ i ≤ n ∧ Pv i H, ⟨n, by simp, Nat.zero_le _, h0⟩, ?_⟩
  rintro i m H ⟨rfl, hi, p⟩
  have q := hG i H hi p
  by_cases hlt : i < n
  · refine .inr ⟨w.goes i H hlt q, Pv (i + 1), fun H' p' => ⟨n - (i + 1), by omega, rfl, hlt, p'⟩, fun x H' y => hs i x H H' hlt p (w.yields i H x H' hlt q y)⟩
  · have e : i = n := by omega
    subst e
    exact .inl ⟨w.stops H q, hd H p⟩
/-- a value that a V stands for -/
def anyVal : V → Value
  | .non => .none
  | .bl b => .bool b
  | .int i => .int i default
  | .str x => .str x default
  | .byt b => .bytes b default
  | .flt b => .float b default
  | .ref a => .ref a
  | .ty n => .type n
theorem anyVal_rel : ∀ v, RelV v (anyVal v)
  | .non | .bl _ | .ref _ | .ty _ => rfl
  | .int _ | .str _ | .byt _ | .flt _ => ⟨_, rfl⟩
theorem slO_sat (a C dx : Addr) (vs : List (Option V)) : ∃ h : Heap, (∃ sl : Array (Option Value), h.get? a = some { PySem.W.instObj C dx with slots := sl } ∧ SlX.SlR vs sl) ∧ ∀ b o, h.get? b = some o → o.cls = .ref C := by
  have e : ∀ (b : Addr) (sl : Array (Option Value)), (Heap.mk (Array.replicate (a + 1) { PySem.W.instObj C dx with slots := sl }) {}).get? b = if b < a + 1 then some { PySem.W.instObj C dx with slots := sl } else none := fun b sl => by
    unfold Heap.get?
    by_cases h : b < a + 1
    · rw [if_pos h]
      simp only [Array.getElem?_replicate, if_pos h]
    · rw [if_neg h]
      simp only [Array.getElem?_replicate, if_neg h]
  refine ⟨⟨Array.replicate (a + 1) { PySem.W.instObj C dx with slots := (vs.map (Option.map anyVal)).toArray }, {}⟩, ⟨(vs.map (Option.map anyVal)).toArray, ?_, fun i v h => ⟨anyVal v, ?_, anyVal_rel v⟩⟩, fun b o h => ?_⟩
  · rw [e, if_pos (Nat.lt_succ_self a)]
  · simp [h]
  · rw [e] at h
    split at h
    · cases h; rfl
    · cases h
theorem sK_ni {P : Program} {w : World} {D : Addr} {S : Key → Bool} {n : Nat} : ¬ Imm (SetK P w D S n) := fun im => by
  rcases im with ⟨_, im⟩ | ⟨a, C, dx, vs, im⟩ | ⟨_, im⟩
  · cases im
  · unfold SetK SlX.SlO at im
    have im := HO.ext.inj im
    obtain ⟨h, sat, hc⟩ := slO_sat a C dx vs
    have := (congrFun im h).mpr sat
    obtain ⟨o, _, _, _, ho, hex, _⟩ := this
    have := hc D o ho
    rw [hex.1] at this
    cases this
  · cases im
variable {elt tg iter : Expr} {ifs : List Expr} {scope : Scope} {own : List (Str × Nat)} {mi : M (List T)} {g : T → Env → Option Env} {gg : TG} {sl : List Nat} {mc : M Bool} {el : M T}
theorem lenS_core {wi : TI} {tt : TT} (hw : ∀ β x R, St X.K β x → GoI X.K β W x (mi x.ρ) R → wi x.σ x.H R)
    (hg : ∀ (s : Shared) (H : Hp) (C : Addr) (cl : List (Str × Addr)) (fp : List Addr), DenG (Cx.blk0 X scope s H C cl fp) tg sl g gg) (hsl : ∀ i ∈ sl, i ∈ own.map (·.2))
    (ht : ∀ β x Q, St X.K β x → GoT X.K β W0 x (mc x.ρ) Q → tt x.σ x.H Q)
    (he : ∀ (s : Shared) (H : Hp) (C : Addr) (cl : List (Str × Addr)) (fp : List Addr), Den (Cx.blk0 X scope s H C cl fp) W0 elt el)
    (hs : St X.K β x) (gf : GoE X.K β W x (lenSM (own.map (·.2)) mi g mc el x.ρ) Q) : tSk X.prog X.w wi gg tt (LE X scope elt) (own.map (·.2)) x.σ x.H fun v H => ∃ D S n, v = .ref D ∧ H D = some (SetK X.prog X.w D S n) ∧ Q (.int (n : Nat)) H := by
  have bl : (Cx.blk0 X scope X.s_0 X.H_0 0 [] []).K = X.K := rfl
  generalize hvs : own.map (·.2) = vs at *
  refine hw β x _ hs ?_
  unfold lenSM M.bind at gf
  cases q : mi x.ρ with
  | ex c u ρ1 => rw [q] at gf; exact gf
  | bad => rw [q] at gf; exact gf
  | ok ts ρ1 =>
    rw [q] at gf
    simp only [Dv.R.bind] at gf
    rintro F1 H1 J n1 ⟨G, Y, w, hG, hY⟩ D hD
    have g1 := GoE.on n1 rfl gf
    have s1 : St X.K β (Sx.mk F1 H1 x.σ ρ1) := n1.1
    have hD1 : (Sx.mk F1 H1 x.σ ρ1).H D = none := hD
    refine sk_it w (fun i H => ∃ (F : Addr → Prop) (ρ : Env) (acc : List Key) (S : Key → Bool), Nx X.K β (Sx.mk F1 H1 x.σ ρ1) ⟨F, H, L2.wipe x.σ vs, ρ⟩ ∧ H D = some (SetK X.prog X.w D S acc.length) ∧ (∀ k, S k = decide (k ∈ acc)) ∧ ¬ F D ∧ ¬ (Sx.mk F H (L2.wipe x.σ vs) ρ).ow D ∧ (∀ i ∈ vs, ∀ s, ρ[i]? = some s → s = .un) ∧
      GoE X.K β W (Sx.mk F1 H1 x.σ ρ1) ((compSL vs g mc el (ts.drop i) acc ρ).bind fun ks => M.pure (.int (ks.length : Nat))) Q) ?_ ?_ ?_ ?_
    · have a1 := Nx.laidO (o := SetK X.prog X.w D (fun _ => false) 0) s1 hD1
      have a2 := Nx.wipe vs a1.1
      refine ⟨F1, wipeR ρ1 vs, [], _, a1.trans a2, upd_same, fun k => by simp, s1.fNone hD1, ?_, fun i hi s e => wipeR_in hi e, g1⟩
      intro w
      rcases a2.2.wn D w with t | t
      · exact s1.owNone hD1 t
      · rw [show (Sx.mk F1 (upd H1 D (SetK X.prog X.w D (fun _ => false) 0)) x.σ ρ1).H D = some (SetK X.prog X.w D (fun _ => false) 0) from upd_same] at t
        cases t
    · rintro i H _ ⟨F, ρ, _, _, n, _⟩
      exact hG _ n
    · rintro i v H H2 hi ⟨F, ρ, acc, S, n, eD, hS, nf, nw, un, gl⟩ hy
      obtain ⟨F2, t, et, n2, r⟩ := hY i ⟨F, H, L2.wipe x.σ vs, ρ⟩ v H2 hi n hy
      have ed : ts.drop i = t :: ts.drop (i + 1) := by
        rw [List.drop_eq_getElem_cons hi]
        congr 1
        rw [List.getElem?_eq_getElem hi] at et
        exact Option.some.inj et
      rw [ed] at gl
      unfold compSL at gl
      cases q2 : g t ρ with
      | none => simp only [q2, Dv.R.bind] at gl; exact gl.elim
      | some ρ3 =>
        simp only [q2] at gl
        have off : ∀ {σ3 : L2.St}, OffSl sl (L2.wipe x.σ vs) σ3 → L2.wipe σ3 vs = L2.wipe x.σ vs := fun {σ3} o3 => by
          have o4 : OffSl vs (L2.wipe x.σ vs) σ3 := ⟨o3.1, fun i hi => o3.2 i fun h => hi (hsl i h)⟩
          rw [wipe_eq o4]
          exact wipe_eq (σ := x.σ) ⟨wipe_length _ _, fun i hi => wipe_get hi⟩
        refine (hg X.s_0 X.H_0 0 [] []).2.2 β ⟨F2, H2, L2.wipe x.σ vs, ρ⟩ v t ρ3 _ n2.1 r q2 fun σ3 o3 n3 => ⟨off o3, ?_⟩
        have ew := off o3
        have n23 := n2.trans n3
        refine ht β ⟨F2, H2, σ3, ρ3⟩ _ n3.1 ?_
        show GoT _ _ _ _ (mc ρ3) _
        cases q3 : mc ρ3 with
        | ex c u ρ4 => simp only [q3, Dv.R.bind] at gl; exact gl.elim
        | bad => simp only [q3, Dv.R.bind] at gl; exact gl.elim
        | ok k ρ4 =>
          intro F4 H4 n4
          have n24 := n23.trans n4
          cases k with
          | false =>
            simp only [q3] at gl
            rw [if_neg (by decide)]
            obtain ⟨d1, d2, d3⟩ := n24.offU eD sK_ni nf nw
            have a2 := Nx.wipe vs n4.1
            have a3 := (n24.trans a2)
            refine ⟨F4, wipeR ρ4 vs, acc, S, ?_, d1, hS, d2, ?_, fun i hi s e => wipeR_in hi e, gl⟩
            · have := n.trans a3
              simp only [ew] at this
              exact this
            · have := (a3.offU eD sK_ni nf nw).2.2
              simp only [ew] at this
              exact this
          | true =>
            simp only [q3] at gl
            rw [if_pos rfl]
            intro s H0 C cl fp
            refine he s H0 C cl fp β ⟨F4, H4, σ3, ρ4⟩ _ n4.1 ?_
            show GoE _ _ _ _ (el ρ4) _
            cases q4 : el ρ4 with
            | ex c u ρ5 => simp only [q4, Dv.R.bind] at gl; exact gl.elim
            | bad => simp only [q4, Dv.R.bind] at gl; exact gl.elim
            | ok t5 ρ5 =>
              simp only [q4] at gl
              intro F6 H6 v6 n6 r6
              cases q6 : keyT t5 with
              | none => simp only [q6, Dv.R.bind] at gl; exact gl.elim
              | some k' =>
                simp only [q6] at gl
                by_cases hl : acc.length < 4000
                · rw [if_pos hl] at gl
                  cases keyT_rep q6 (.inl r6)
                  have n26 := n24.trans n6
                  obtain ⟨d1, d2, d3⟩ := n26.offU eD sK_ni nf nw
                  have a2 := Nx.wipe vs n6.1
                  have a3 := n26.trans a2
                  have e3 := a3.offU eD sK_ni nf nw
                  have a4 := (n.trans a3).updD (o := SetK X.prog X.w D (fun j => S j || decide (j = k')) (if S k' = true then acc.length else acc.length + 1)) hD1 e3.2.1 e3.2.2
                  have el2 : (if S k' = true then acc.length else acc.length + 1) = (addS k' acc).length := by
                    rw [hS k']
                    unfold addS
                    by_cases hm : k' ∈ acc
                    · rw [if_pos (by simpa using hm), if_pos hm]
                    · rw [if_neg (by simpa using hm), if_neg hm]; rfl
                  refine ⟨k', S, acc.length, rfl, d1, by unfold scanBound; omega, F6, wipeR ρ5 vs, addS k' acc, fun j => S j || decide (j = k'), ?_, by rw [upd_same, el2], fun k => ?_, d2, ?_, fun i hi s e => wipeR_in hi e, gl⟩
                  · simp only [ew] at a4
                    exact a4
                  · show (S k || decide (k = k')) = _
                    rw [hS k]
                    unfold addS
                    by_cases hm : k' ∈ acc
                    · rw [if_pos hm]
                      by_cases hk : k = k'
                      · subst hk; simp [hm]
                      · simp [hk]
                    · rw [if_neg hm, Bool.eq_iff_iff]
                      simp [or_comm]
                  · have := e3.2.2
                    simp only [ew] at this
                    exact this
                · rw [if_neg hl] at gl
                  exact gl.elim
    · rintro H ⟨F, ρ, acc, S, n, eD, hS, nf, nw, un, gl⟩
      rw [List.drop_length] at gl
      simp only [compSL, Dv.R.bind, M.pure] at gl
      have n' := Nx.unwipe n un
      exact ⟨D, S, acc.length, rfl, eD, gl F H (.int _) n' (.int _)⟩
theorem den_lenSet {q : Pos} (B : Blt X.mg) (hc : X.calm = true) (hN : X.N.Nodup) (hi : DenI X W tg iter mi) (ok : BlkOk X.N X.env.scope scope own)
    (hg : ∀ (s : Shared) (H : Hp) (C : Addr) (cl : List (Str × Addr)) (fp : List Addr), DenG (Cx.blk0 X scope s H C cl fp) tg sl g gg) (hsl : ∀ i ∈ sl, i ∈ own.map (·.2)) (ht : DenIfs X scope ifs mc)
    (he : ∀ (s : Shared) (H : Hp) (C : Addr) (cl : List (Str × Addr)) (fp : List Addr), Den (Cx.blk0 X scope s H C cl fp) W0 elt el) (hs : ∀ x, foldedSetIterable iter X.env x = pure x := by intro _; rfl)
    (hgl : Gl X "len" := by rfl) (hst : starEach [.SetComp elt [⟨tg, iter, ifs, 0⟩] scope pos] X.env = (false, eval (.SetComp elt [⟨tg, iter, ifs, 0⟩] scope pos) X.env) :: starEach [] X.env := by rfl) (hpl : (backTo q (starEach [] X.env)).any (·.1) = false := by rfl) :
    Den X W (.Call (.Name "len" p) [.SetComp elt [⟨tg, iter, ifs, 0⟩] scope pos] [] q) (lenSM (own.map (·.2)) mi g mc el) := by
  obtain ⟨wi, hpi, _, hw⟩ := hi
  obtain ⟨tt, htt, ht⟩ := ht
  intro β x Q st gf
  refine ev_len B (av_cons (ev_mono ⟨_, pe_sk hc hN hpi ok (fun s H C cl fp => (hg s H C cl fp).1) htt (fun s H C cl fp => pe_le s H C cl fp) hs, lenS_core hw hg hsl ht he st gf⟩ ?_) hst) hgl hst hpl
  rintro v H1 ⟨D, S, n, e, hD, q⟩
  exact av_nil ⟨_, call_lenSK, D, S, n, by rw [e], hD, q⟩
end
end Dv
/-! DQ: sorted(set(list of unlike texts)). -/
namespace Dv
open PySem PySem.Spec PyProof.Rows L2 Hv
open PySem.Froz (SD sObj TxOk addTx tailTx)
/-- the set at a holds the texts l; it can be walked -/
structure TxR (P : Program) (w : World) (h : Heap) (a : Addr) (l : List Str) : Prop where
  ex : ∃ D : SD, h.get? a = some (sObj "set" D) ∧ TxOk P w D l ∧ Ris D.2.2.place.toList ∧ (w.params.followText "set-order" = true ∨ D.2.2.led = true) ∧ (D.1.toList.map fun e => PyProof.Rows.strOf e.2).Perm l ∧ ∀ e ∈ D.1.toList, ∃ x t, e.2 = .str x t
section
variable {P : Program} {w : World} {A : Around} {E : Value → Shared → Prop} {s : Shared}
theorem TxR.new {h : Heap} {a : Addr} (ho : h.get? a = some { cls := .type "set", dict := none, data := .set #[] 0 (.fresh 0 0 (!w.params.followText "set-order")) }) : TxR P w h a [] :=
  ⟨(#[], 0, .fresh 0 0 (!w.params.followText "set-order")), ho, .nil rfl, List.Pairwise.nil, by
    show _ ∨ (!w.params.followText "set-order") = true
    cases w.params.followText "set-order"
    · exact .inr rfl
    · exact .inl rfl, .refl _, fun e he => by simp at he⟩
theorem TxR.at {h h' : Heap} {a : Addr} {l : List Str} (R : TxR P w h a l) (k : ∀ o, h.get? a = some o → h'.get? a = some o) : TxR P w h' a l := by
  obtain ⟨D, h1, h2⟩ := R.ex
  exact ⟨D, k _ h1, h2⟩
theorem tailTx_facts {ep : Nat} {es1 : Array (Int × Value)} {t2 : SetTable} {wd : Bool} (r : Ris t2.place.toList) :
    (tailTx ep es1 t2 wd).1.toList.Perm es1.toList ∧ Ris (tailTx ep es1 t2 wd).2.2.place.toList ∧ (tailTx ep es1 t2 wd).2.2.led = t2.led := by
  unfold Froz.tailTx
  split
  · exact ⟨relayAll_perm t2 es1 _, relayAll_ris t2 es1 _, relayAll_led t2 es1 _⟩
  · exact ⟨.refl _, r, rfl⟩
theorem addTx_facts {h : Int} {v : Value} {D : SD} (r : Ris D.2.2.place.toList) : (addTx h v D).1.toList.Perm (D.1.push (h, v)).toList ∧ Ris (addTx h v D).2.2.place.toList ∧ (addTx h v D).2.2.led = D.2.2.led := by
  obtain ⟨es, ep, t⟩ := D
  have h1 := layNew_perm t es h v
  have h2 := layNew_ris t es h v r
  have h3 := layNew_led t es h v
  unfold Froz.addTx
  dsimp only at h1 h2 h3 ⊢
  have h4 : Ris (if (layNew t es h v).2.1.plain = true then { (layNew t es h v).2.1 with plain := false } else (layNew t es h v).2.1).place.toList := by split <;> exact h2
  have h5 : (if (layNew t es h v).2.1.plain = true then { (layNew t es h v).2.1 with plain := false } else (layNew t es h v).2.1).led = t.led := by split <;> exact h3
  obtain ⟨q1, q2, q3⟩ := tailTx_facts (ep := ep) (es1 := (layNew t es h v).1) (wd := (layNew t es h v).2.2.1) h4
  exact ⟨q1.trans h1, q2, q3.trans h5⟩
theorem txR_add {a : Addr} {l : List Str} {k : Str} {u : Tok} {Q : Bool → Shared → Prop} (R : TxR P w s.heap a l) (hk : k ∉ l) (hb : l.length + 1 < scanBound)
    (hQ : ∀ h', Heap.SameBut a s.heap h' → TxR P w h' a (k :: l) → Q true { s with heap := h' }) : wpAny (model P w) A (setAddHashed a (.str k u) ((strKind P w).hash k)) Q E s := by
  obtain ⟨D, h1, F, r, ld, pm, vs⟩ := R.ex
  refine Froz.add_x (u := u) h1 F hk hb (hQ _ (Heap.SameBut.update ..) ?_)
  obtain ⟨q1, q2, q3⟩ := addTx_facts (h := hashStr w k) (v := .str k u) r
  refine ⟨_, Froz.get_upd _ h1 rfl, Froz.add_ok u F, q2, ld.imp id fun z => q3.trans z, ?_, fun e he => ?_⟩
  · refine (q1.map _).trans ?_
    rw [Array.toList_push, List.map_append]
    exact (List.perm_append_comm).trans (List.Perm.cons _ pm)
  · have := q1.mem_iff.mp he
    rw [Array.toList_push] at this
    rcases List.mem_append.mp this with m | m
    · exact vs e m
    · rw [List.mem_singleton] at m
      rw [m]
      exact ⟨_, _, rfl⟩
theorem set_update_strs {I : Addr} {fp wr : List Addr} {G : Array GenState → Array GenState → Prop} {n : Nat} {Pv : Nat → Value → Prop} {St : Nat → Shared → Prop} {R : Result → Shared → Prop}
    (W : WalksS P w A.in1 I fp wr G n Pv St) (S : Addr) (hSf : S ∉ fp) (zs : List Str) (hn : n = zs.length) (nd : zs.Nodup) (hb : zs.length + 1 < scanBound) (hval : ∀ i v, Pv i v → ∃ k t, zs[i]? = some k ∧ v = .str k t) :
    ∀ (k i : Nat) (s : Shared), n - i = k → i ≤ n → St i s → (TxR P w s.heap S (zs.take i).reverse) →
      (∀ s', Moved (S :: wr) G s s' → TxR P w s'.heap S zs.reverse → R (.ok (.ret .none)) s') →
      codeAny (model P w) A (.builtin "set.update.loop" ⟨[.ref S, .ref I], []⟩) R s := by
  have hSw : S ∉ wr := fun h => hSf (W.sub _ h)
  have hsub : ∀ b ∈ wr, b ∈ S :: wr := fun b hb => List.mem_cons_of_mem _ hb
  intro k
  induction k with
  | zero =>
    intro i s hk' hi hst hS hR
    have hin : i = n := by omega
    subst hin
    refine codeAny_builtin F.entry_set_update_loop ?_
    rw [Around.under_plainId F.plain_set_update_loop _]
    show wpAny _ A.in1 (pyNext (.ref I) >>= _) _ _ s
    refine wpAny_bind (W.done s _ _ hst fun s' hm => ?_)
    show wpAny _ A.in1 (ret Value.none) _ _ s'
    have e : zs.take i = zs := List.take_of_length_le (by omega)
    rw [e] at hS
    exact wpAny_pure (hR s' (hm.mono hsub) (hS.at fun o e => hm.heap S o hSw e))
  | succ k ih =>
    intro i s hk' hi hst hS hR
    have hlt : i < n := by omega
    refine codeAny_builtin F.entry_set_update_loop ?_
    rw [Around.under_plainId F.plain_set_update_loop _]
    show wpAny _ A.in1 (pyNext (.ref I) >>= _) _ _ s
    refine wpAny_bind (W.item i s _ _ hlt hst fun v s' hP hst' hm => ?_)
    obtain ⟨z, t, hz, rfl⟩ := hval i v hP
    have hS' : TxR P w s'.heap S (zs.take i).reverse := hS.at fun o e => hm.heap S o hSw e
    show wpAny _ A.in1 (holding [Value.str z t] (setAdd S (.str z t)) >>= _) _ _ s'
    refine wpAny_bind (wpAny_holding ?_)
    unfold setAdd
    refine wpAny_holding ?_
    refine wpAny_bind ((strKind P w).pyHash (k := z) (Froz.is_str _ _) ?_)
    have hnm : z ∉ (zs.take i).reverse := fun hm => by
      rw [List.mem_reverse] at hm
      obtain ⟨j, hj⟩ := List.getElem?_of_mem hm
      have hji : j < i := by
        have := (List.getElem?_eq_some_iff.mp hj).1
        rw [List.length_take] at this
        omega
      rw [List.getElem?_take, if_pos hji] at hj
      have := (List.getElem?_inj (by have := (List.getElem?_eq_some_iff.mp hj).1; exact this) nd).mp (hj.trans hz.symm)
      omega
    have htk : (zs.take (i + 1)).reverse = z :: (zs.take i).reverse := by
      rw [List.take_add_one, hz]
      simp
    refine txR_add (s := { s' with toks := s'.toks + 1 }) hS' hnm (by rw [List.length_reverse, List.length_take]; omega) fun h' hsb hS2 => ?_
    have hS3 : TxR P w h' S (zs.take (i + 1)).reverse := by rw [htk]; exact hS2
    refine wpAny_pure ⟨plainId_quiet F.plain_set_update_loop _, ih (i + 1) _ (by omega) hlt (W.frame _ s' _ _ hst' (Nat.le_succ _) fun b hb o e => ?_) hS3 fun s'' hm'' hS'' => ?_⟩
    · rw [hsb.2 b (fun h : b = S => hSf (by rw [← h]; exact hb))]; exact e
    · refine hR s'' (Moved.trans W.gtrans ((hm.mono hsub).then_heap (Nat.le_succ _) fun b o hb e => ?_) hm'') hS''
      rw [hsb.2 b (fun h : b = S => hb (by rw [h]; exact List.mem_cons_self))]; exact e
theorem call_set_listT {l : Addr} {items : Array Value} (zs : List Str) {Q : Value → Shared → Prop} (hh : A.handled = none) (hl : s.heap.IsList l items) (hit : StrsAre items.toList zs) (nd : zs.Nodup) (hb : zs.length + 1 < scanBound)
    (h : ∀ (h' : Heap) (tk : Nat), TxR P w h' s.heap.objs.size zs.reverse → (∀ b o, s.heap.get? b = some o → h'.get? b = some o) → Q (.ref s.heap.objs.size) { s with heap := h', toks := tk }) :
    wpAny (model P w) A (call (.type "set") [.ref l]) Q E s := by
  have hisz : items.size = zs.length := by
    have q := StrsAre.length hit
    rw [Array.length_toList] at q
    exact q
  obtain ⟨c, tl, hmro⟩ := F.called_set.mro
  have hmade := F.called_set.made
  have hsub := F.called_set.sub
  refine wpAny_call (codeAny_of_tree ?_)
  show wpAny _ _ (callAny (.type "set") _) _ _ _
  refine wpAny_pure ⟨Code.quiet_builtin _ (by decide +kernel), codeAny_builtin F.entry_type_call ?_⟩
  rw [Around.under_plain (weight_type_call_type "set" [.ref l] []) rfl]
  have h1 := F.called_set.notType
  have h2 := F.called_set.canCreate
  have hct := F.typeCall_set_1 (.ref l)
  repeat (any_goals (first | assumption | wp_step))
  refine codeAny_mono (code_set_led1 (.ref l) (E := E) (Q₁ := fun obj s₁ => obj = .ref s.heap.objs.size ∧ s₁ = { s with heap := s.heap.push { cls := .type "set", dict := none, data := .set #[] 0 (.fresh 0 0 (!w.params.followText "set-order")) } }) ⟨rfl, rfl⟩) fun r s₁ hr => ?_
  cases r with
  | error e => exact hr
  | ok fl =>
    cases fl with
    | ret obj =>
      obtain ⟨rfl, rfl⟩ := hr
      have hS : (s.heap.push { cls := .type "set", dict := none, data := .set #[] 0 (.fresh 0 0 (!w.params.followText "set-order")) }).get? s.heap.objs.size = some { cls := .type "set", dict := none, data := .set #[] 0 (.fresh 0 0 (!w.params.followText "set-order")) } := Heap.get?_push_size _ rfl
      have hT : Shared.TypeIs { s with heap := s.heap.push { cls := .type "set", dict := none, data := .set #[] 0 (.fresh 0 0 (!w.params.followText "set-order")) } } (.ref s.heap.objs.size) "set" := ⟨_, hS, rfl⟩
      have hli := F.called_set.init.lookup
      have hbi := F.called_set.init.bind (.ref s.heap.objs.size)
      repeat (any_goals (first | assumption | wp_step))
      refine codeAny_mono (codeAny_call_builtin (R := wants (fun r s₂ => r = .none ∧ ∃ h' tk, s₂ = { s with heap := h', toks := tk } ∧ TxR P w h' s.heap.objs.size zs.reverse ∧
          (∀ b o, s.heap.get? b = some o → h'.get? b = some o)) E) F.called_set.init.plain F.entry_set_init (check_set_init_1 hT ?_)) fun r₂ s₂ hr₂ => ?_
      · obtain ⟨ol, hol, hcl, nl, hdl⟩ := hl
        obtain ⟨ocls, odict, odata, oslots⟩ := ol
        simp only at hcl hdl
        subst hcl; subst hdl
        have hol' : (s.heap.push { cls := .type "set", dict := none, data := .set #[] 0 (.fresh 0 0 (!w.params.followText "set-order")) }).get? l = some { cls := .type "list", dict := odict, data := .seq items nl, slots := oslots } := Heap.get?_push_of_some _ hol
        have hsls := F.sub_list_set
        have hslf := F.sub_list_frozenset
        have hne : (Value.type "list" == Value.type "dict") = false := by decide
        have hl1 : (s.heap.push { cls := .type "set", dict := none, data := .set #[] 0 (.fresh 0 0 (!w.params.followText "set-order")) }).IsList l items := ⟨_, hol', rfl, nl, rfl⟩
        unfold Builtin.«set.__init__» noKeywords Builtin.Frozenset.updateFrom
        generalize hPI : pyIter = PI
        wp_walk
        subst hPI
        refine wpAny_pyIter_list hl1 ?_
        refine wpAny_bind (wpAny_runValue ?_)
        have hlS : l < s.heap.objs.size := Heap.lt_size hol
        have hh3 : A.in1.in1.in1.handled = none := by simp [hh]
        have hz1 : (s.heap.push { cls := .type "set", dict := none, data := .set #[] 0 (.fresh 0 0 (!w.params.followText "set-order")) }).objs.size = s.heap.objs.size + 1 := Heap.size_push ..
        have hneI : l ≠ (s.heap.push { cls := .type "set", dict := none, data := .set #[] 0 (.fresh 0 0 (!w.params.followText "set-order")) }).objs.size := by
          rw [Heap.size_push]; exact Nat.ne_of_lt (Nat.lt_succ_of_lt hlS)
        have hSf : s.heap.objs.size ∉ [(s.heap.push { cls := .type "set", dict := none, data := .set #[] 0 (.fresh 0 0 (!w.params.followText "set-order")) }).objs.size, l] := by
          rw [Heap.size_push]; simp only [List.mem_cons, List.mem_singleton, List.not_mem_nil, or_false, not_or]
          exact ⟨Nat.ne_of_lt (Nat.lt_succ_self _), Nat.ne_of_gt hlS⟩
        have hval : ∀ (i : Nat) (v : Value), items[i]? = some v → ∃ k t, zs[i]? = some k ∧ v = .str k t := fun i v hv => by
          have e1 : items.toList[i]? = some v := by rw [Array.getElem?_toList]; exact hv
          obtain ⟨k, t, rfl⟩ := hit.all v (List.mem_of_getElem? e1)
          refine ⟨k, t, ?_, rfl⟩
          have := hit.strs
          rw [← this, List.getElem?_map, e1]
          rfl
        refine set_update_strs ((Walks.list hh3 _ l hneI items).toS) s.heap.objs.size
          hSf zs hisz nd hb hval (items.size - 0) 0 _ (by omega) (Nat.zero_le _)
          ⟨⟨_, Heap.get?_push_size _ rfl, rfl, rfl⟩, (hl1.push _)⟩ ?hS0 ?hR
        case hS0 =>
          have hget : ((s.heap.push { cls := .type "set", dict := none, data := .set #[] 0 (.fresh 0 0 (!w.params.followText "set-order")) }).push { cls := .type "list_iterator", data := .fields #[.ref l, .int 0 0] }).get? s.heap.objs.size
              = some { cls := .type "set", dict := none, data := .set #[] 0 (.fresh 0 0 (!w.params.followText "set-order")) } := Heap.get?_push_of_some _ hS
          exact TxR.new hget
        case hR =>
          intro s' hm hS'
          obtain ⟨h', g2, d', tk', os'⟩ := s'
          have eg : g2 = s.gens := hm.gens
          have ed : d' = s.drawn := hm.drawn
          have eo : os' = s.os := hm.os
          subst eg; subst ed; subst eo
          show wpAny _ _ _ _ _ _
          refine wpAny_pure ?_
          show wpAny _ _ (ret Value.none) _ _ _
          refine wpAny_pure ⟨rfl, h', tk', rfl, hS', fun b o e => ?_⟩
          have hb0 : b < s.heap.objs.size := Heap.lt_size e
          have hb1 : b ≠ s.heap.objs.size := Nat.ne_of_lt hb0
          have hb2 : b ≠ (s.heap.push { cls := .type "set", dict := none, data := .set #[] 0 (.fresh 0 0 (!w.params.followText "set-order")) }).objs.size := by
            rw [Heap.size_push]; exact Nat.ne_of_lt (Nat.lt_succ_of_lt hb0)
          exact hm.heap b o (by simp only [List.mem_cons, List.mem_singleton, List.not_mem_nil, or_false, not_or]; exact ⟨hb1, hb2⟩) (Heap.get?_push_of_some _ (Heap.get?_push_of_some _ e))
      · cases r₂ with
        | error e => exact hr₂
        | ok fl₂ =>
          cases fl₂ with
          | ret r =>
            obtain ⟨rfl, h', tk, rfl, hS', hk'⟩ := hr₂
            repeat (any_goals (first | assumption | wp_step))
            exact h _ _ hS' hk'
          | next => exact hr₂
          | brk => exact hr₂
          | cont => exact hr₂
    | next => exact hr
    | brk => exact hr
    | cont => exact hr
theorem sorted_setT {a : Addr} {l : List Str} {Q : Value → Shared → Prop} (R : TxR P w s.heap a l) (hh : A.handled = none) (h64 : l.length < 64)
    (hQ : ∀ s' p (out : Array Value) (c : Nat) (zs : List Str), (∀ b o, s.heap.get? b = some o → s'.heap.get? b = some o) → s'.gens = s.gens → s'.os = s.os → s.heap.objs.size ≤ p →
      s'.heap.get? p = some (seqObj "list" out c) → StrsAre out.toList zs → zs.Perm l → sortedS zs = true → Q (.ref p) s') :
    wpAny (model P w) A (call (.builtin "sorted") [.ref a]) Q E s := by
  obtain ⟨⟨es, ep, t⟩, ho, F, hr, hl, pm, hv⟩ := R.ex
  have hsz : es.size = l.length := F.sz
  refine Calls.call_function_entry kind_sorted plain_sorted entry_sorted (args_sorted1 _) ?_
  unfold Builtin.«sorted»
  refine wpAny_bind (m := checkCount "sorted" 1 1 _) (wpAny_pure ?_)
  refine wpAny_bind (collect_set (A := A.in1) hh ⟨_, ho, rfl, rfl⟩ F.fit (show es.size < scanBound by unfold scanBound; omega) hr hl fun s1 vs k1 hz g1 o1 pv => ?_)
  have hvl : vs.length = l.length := by rw [pv.length_eq, List.length_map, Array.length_toList]; exact hsz
  have hS : StrsAre vs (vs.map PyProof.Rows.strOf) := strsAre_map vs fun v hm => by
    obtain ⟨e, he, q⟩ := List.mem_map.mp (pv.mem_iff.mp hm)
    obtain ⟨x, u, h1⟩ := hv e he
    exact ⟨x, u, by rw [← q]; exact h1⟩
  have pk : (vs.map PyProof.Rows.strOf).Perm l := by
    have q := pv.map PyProof.Rows.strOf
    rw [List.map_map] at q
    exact q.trans pm
  refine wpAny_bind (wpAny_newList ?_ (by rw [hvl, sizeLine_eq]; omega))
  have hoL : (s1.heap.push (seqObj "list" vs.toArray 0)).get? s1.heap.objs.size = some (seqObj "list" vs.toArray 0) := Heap.get?_push_size _ rfl
  refine wpAny_bind (wpAny_holding (wpAny_call_entry slot_list_sort ⟨_, hoL, rfl⟩ entry_list_sort (list_sort_treeK strKind_oneLt hoL hS.keysOf (fun v₁ v₂ rest e => keyKind_strs (by rw [← e]; exact hS)) (by rw [hvl]; exact h64) fun st' a1 a2 => ⟨_, rfl, ?_⟩) (args_list_sort _)))
  obtain ⟨zs, b1, b2, b3⟩ := sorted_out_str hS a1 a2
  obtain ⟨c, hc⟩ := sortedHeap_at (vs := vs) (out := (arrOf st').map (·.2)) hoL
  refine wpAny_pure ⟨_, rfl, hQ _ s1.heap.objs.size _ c zs (fun b u e => ?_) g1 o1 hz hc b1 (b2.trans pk) b3⟩
  have q := k1 b u e
  have hlt := Heap.lt_size q
  show (sortedHeap (s1.heap.push (seqObj "list" vs.toArray 0)) s1.heap.objs.size vs _).get? b = some u
  rw [sortedHeap_old (Nat.ne_of_lt hlt) (by rw [size_push']; exact Nat.lt_succ_of_lt hlt)]
  exact Heap.get?_push_of_some _ q
end
/-! ### as an expression -/
section
variable {X : Cx} {W : WX} {K : PySem.W.Frag} {β : Bc} {x y : Sx} {e a b c o : Expr} {Q : VK} {pos p p2 q : Pos} {ma mb : M Rdr} {m mc : M T}
def tSortSet (K : PySem.W.Frag) (ta : TE) : TE := fun σ H Q => ta σ H fun v H1 => ∃ (l : Addr) (zs : List Str), v = .ref l ∧ SqL K H1 l (zs.map V.str) ∧ zs.Nodup ∧ zs.length < 64 ∧ ∀ p, H1 p = none → Q (.ref p) (upd H1 p (.lst ((srtS zs).map V.str)))
theorem pe_sortSet {ta : TE} (hg : Gl X "sorted") (hm : X.mg "sorted" = none) (hg2 : Gl X "set") (hm2 : X.mg "set" = none) (ha : PE X a ta) (hc : X.calm = true)
    (na : starEach [a] X.env = (false, eval a X.env) :: starEach [] X.env := by rfl) : PE X (.Call (.Name "sorted" p) [.Call (.Name "set" p2) [a] [] q] [] pos) (tSortSet X.K ta) := by
  refine ⟨fun pins s σ H Q I h => ?_⟩
  refine Call_ (ld_blt I hg hm boot_sorted ?_)
  refine PyProof.Rows.callWith_builtin1 (PyProof.Rows.args_cons ?_ rfl) rfl rfl
  refine Call_ (ld_blt I hg2 hm2 boot_set ?_)
  refine PyProof.Rows.callWith_type1 (PyProof.Rows.args_cons (thn (ha.run pins s σ H _ I h) fun v s1 ⟨x, H1, I1, r1, q1⟩ => PyProof.Rows.args_nil ?_) na) na rfl
  obtain ⟨l, zs, ex, hq, nd, h64, q1⟩ := q1
  subst ex
  cases r1
  obtain ⟨its, r, pl, hz⟩ := I1.list hq
  refine call_set_listT zs (I1.ok.hd hc) pl.isList (by simpa using r.strs) nd (by unfold scanBound; omega) fun h' tk hS hk => ?_
  refine PyProof.Rows.args_nil ?_
  have I2 : Inv X pins σ H1 { s1 with heap := h', toks := tk } := I1.kept hk
  refine sorted_setT hS (I2.ok.hd hc) (by rw [List.length_reverse]; exact h64) fun s' p out c ys k g o hz2 hp hsa pm so => ?_
  have e := srtS_of (pm.trans (List.reverse_perm zs)) so
  subst e
  have hlen : ((srtS zs).map V.str).length ≤ sizeLine := by rw [List.length_map, (srtS_perm zs).length_eq]; exact small64 h64
  have hn : H1 p = none := I2.hok.fresh hz2
  have J : Inv X pins σ (upd H1 p (.lst ((srtS zs).map V.str))) { { s1 with heap := h', toks := tk } with heap := s'.heap, gens := s'.gens, drawn := s'.drawn, toks := s'.toks } :=
    I2.call (ch := []) (Un.laid k hz2 hn) (I2.hok.laid k hz2 ⟨hlen, out.toList, c, vals_of_strs hsa, hp⟩) (by rw [g]; exact I2.bare) (fun _ z => nomatch z)
  have e : s' = { { s1 with heap := h', toks := tk } with heap := s'.heap, gens := s'.gens, drawn := s'.drawn, toks := s'.toks } := by
    cases s'
    cases s1
    cases o
    rfl
  rw [e]
  exact ⟨.ref p, _, J, rfl, q1 p hn⟩
def srtSetP (t : T) : Option T := (lstT t).bind fun ts => (strsT ts).bind fun zs => if zs.Nodup ∧ zs.length < 64 then some (.lst ((srtS zs).map .str)) else none
theorem denf_sortSet (B : Blt X.mg) (hc : X.calm = true) (ha : DenO X W a ma) (hg : Gl X "sorted" := by rfl) (hg2 : Gl X "set" := by rfl) (na : starEach [a] X.env = (false, eval a X.env) :: starEach [] X.env := by rfl) :
    DenF X W (.Call (.Name "sorted" p) [.Call (.Name "set" p2) [a] [] q] [] pos) (un1F srtSetP ma) := by
  intro β x Q hs g
  refine ⟨_, pe_sortSet hg (B.at_ 15) hg2 (B.at_ 22) pe_ev hc na, ?_⟩
  refine ev_mono (ha.then1F (G := fun v H Q => ∃ (l : Addr) (zs : List Str), v = .ref l ∧ SqL X.K H l (zs.map V.str) ∧ zs.Nodup ∧ zs.length < 64 ∧ ∀ p, H p = none → Q (.ref p) (upd H p (.lst ((srtS zs).map V.str)))) ?_ hs g) fun v H h => h
  intro β x v t Q hs r g
  cases t <;> first | exact g.elim | skip
  rename_i ts
  cases e1 : strsT ts with
  | none => simp only [srtSetP, lstT, Option.bind, e1] at g; exact g.elim
  | some zs =>
    by_cases hl : zs.Nodup ∧ zs.length < 64
    · simp only [srtSetP, lstT, Option.bind, e1, if_pos hl] at g
      obtain ⟨a, us, rfl, ha, rs⟩ := r.lst
      have := strsT_rep e1 rs
      subst this
      exact ⟨a, zs, rfl, .of ha, hl.1, hl.2, fun p hp => GoF.new hs g hp (.lst upd_same (reps_strs _))⟩
    · simp only [srtSetP, lstT, Option.bind, e1, if_neg hl] at g
      exact g.elim
end
end Dv
/-! XG: try: .. except E: .. without a name. -/
namespace Dv
open PySem PySem.Spec PyProof.Rows L2 Hv
/-- what raises nothing more -/
def quietR : RS → RS
  | .ex _ _ _ => .bad
  | r => r
/-- try: mb / except one of cs: ms -/
def onlyS (cs : Str → Option Bool) (mb ms : S) : S := fun ρ => match mb ρ with
  | .ex c u ρ1 => (match cs c with
    | some true => quietR (ms ρ1)
    | some false => .ex c u ρ1
    | none => .bad)
  | r => r
section
variable {X : Cx} {W0 : WX} {x : Str} {c : Value} {np pos pos' : Pos} {body suite : List Stmt} {b₀ : Stmt} {mb ms : S} {cs : Str → Option Bool}
theorem quiet_go {K : PySem.W.Frag} {β : Bc} {z : Sx} {D : Ends} {r : RS} {W W' : WX} (g : GoS K β W z D (quietR r)) : GoS K β W' z D r := by
  cases r <;> first | exact g | exact g.elim
theorem dens_only (hs : X.stack = X.env :: X.outer) (hf : X.env.frame = some X.env.locals) (hc : Names X x c) (tk : Takes X W0)
    (hcs : ∀ c' b, cs c' = some b → PySem.W.exmOne X.K (.ref (He.ga X.K c')) c = some b)
    (hb : ∀ (W : WX) (pn : List (Addr × Obj)) (xe : Value → Shared → Prop), Takes (X.tr pn xe) W → PassesOwn (model X.prog X.w) X.A X.env xe → DenB (X.tr pn xe) W body mb)
    (hm : ∀ (a : Addr) (pn : List (Addr × Obj)), DenB (X.suite a pn) (fun _ _ _ _ => False) (b₀ :: suite) ms) :
    DenS X W0 (.Try body [.ExceptHandler (some (.Name x np)) none (b₀ :: suite) pos'] [] [] pos) (onlyS cs mb ms) := by
  intro β z D st g
  refine ⟨_, ps_try_only (tb := fun W D σ H => ∃ β z, z.σ = σ ∧ z.H = H ∧ St X.K β z ∧ GoS X.K β W z D (mb z.ρ)) (ts := fun _ _ _ D σ H => ∃ β z, z.σ = σ ∧ z.H = H ∧ St X.K β z ∧ GoS X.K β (fun _ _ _ _ => False) z D (ms z.ρ)) (Wout := W0) hs hf hc tk
    (fun W pn xe tk ps => ⟨fun pins s σ H D I q => ?_⟩) (fun a oe cls d pn _ _ => ⟨fun pins s σ H D I q => ?_⟩), β, z, rfl, rfl, st, ?_⟩
  · obtain ⟨β, z, rfl, rfl, st, g⟩ := q
    exact pss_bv.run pins s _ _ D I (hb W pn xe tk ps β z D st g)
  · obtain ⟨β, z, rfl, rfl, st, g⟩ := q
    exact pss_bv.run pins s _ _ D I (hm a _ β z D st g)
  · unfold onlyS at g
    cases q : mb z.ρ with
    | nx ρ1 => rw [q] at g; exact g
    | rt s ρ1 => rw [q] at g; exact g
    | bk ρ1 => rw [q] at g; exact g
    | ct ρ1 => rw [q] at g; exact g
    | bad => rw [q] at g; exact g
    | ex c' u ρ1 =>
      rw [q] at g
      intro F1 H1 σ1 cls d n1 r
      obtain ⟨dx, v, e1, e2, r3⟩ := id r
      cases e : cs c' with
      | none => simp only [e] at g; exact g.elim
      | some b =>
        refine ⟨b, by rw [e1]; exact hcs _ _ e, fun hb a ha => ?_, fun hb => ?_⟩
        · subst hb
          simp only [e] at g
          exact ⟨β, ⟨F1, H1, σ1, ρ1⟩, rfl, rfl, n1.1, quiet_go (GoS.on n1 g)⟩
        · subst hb
          simp only [e] at g
          exact g F1 H1 σ1 cls d n1 r
end
end Dv
/-! XI: calls whose one argument is new and lent. -/
namespace Dv
open PySem PySem.Spec PyProof.Rows L2 Hv
/-- F(m), the argument new, lent, and then forgotten -/
def call1R (F : FT) (t : T) : M Slot := fun ρ => match F [.bor t] with
  | .ok (.val r) [.bor _] => .ok (.val r) ρ
  | .ex c u [.bor _] => .ex c u ρ
  | _ => .bad
def call1M (F : FT) (m : M Slot) : M Slot := m.bind fun s ρ => match s with
  | .own t => call1R F t ρ
  | _ => .bad
section
variable {X : Cx} {W : WX} {K : PySem.W.Frag} {β : Bc} {x : Sx} {e : Expr} {Q : VK} {pos p : Pos} {m : M Slot}
theorem call1_core {F : FT} {t : T} {a : Addr} {F1 : Addr → Prop} {H1 : Hp} {ρ1 : Env} (n1 : Nx K β x ⟨F1, H1, x.σ, ρ1⟩) (nf : ¬ F1 a) (oo : OwnO K F1 H1 a t) (nw : ¬ (Sx.mk F1 H1 x.σ ρ1).ow a) (fr : x.ow a ∨ x.H a = none)
    (g : GoF K β W x (call1R F t ρ1) Q) : spD K F [.ref a] H1 Q (fun cls d H' => W cls d x.σ H') := by
  have ow1 : ∀ {F2 : Addr → Prop} {H2 : Hp} {s : Slot} {b : Addr}, (Sx.mk F2 H2 ([V.ref a].map some) [s]).ow b → b = a := fun {F2 H2 s b} ⟨i, e, _⟩ => by
    cases i with
    | zero => cases e; rfl
    | succ i => simp at e
  let β' : Bc := ⟨fun j => if j = 0 then some a else none, fun _ => False⟩
  have st : St K β' ⟨F1, H1, [V.ref a].map some, [.bor t]⟩ := by
    refine ⟨rfl, fun i o s e1 e2 => ?_, fun i j b p q => ?_, n1.1.trk⟩
    · cases i with
      | zero => cases e1; cases e2; exact ⟨a, rfl, rfl, nf, oo⟩
      | succ i => simp at e1
    · have z1 : i = 0 := by
        obtain ⟨e, _⟩ := p
        cases i with
        | zero => rfl
        | succ i => simp at e
      have z2 : j = 0 := by
        obtain ⟨e, _⟩ := q
        cases j with
        | zero => rfl
        | succ j => simp at e
      rw [z1, z2]
  refine ⟨β', F1, [.bor t], st, rfl, ?_⟩
  have beh : ∀ (F' : Addr → Prop) (H' : Hp) (s : Slot), Nx K β' ⟨F1, H1, [V.ref a].map some, [.bor t]⟩ ⟨F', H', [V.ref a].map some, [s]⟩ → Nx K β x ⟨F', H', x.σ, ρ1⟩ := by
    intro F' H' s n
    have fk : ∀ b u, F1 b → H1 b = some u → H' b = some u := fun b u f e => n.2.fk st b u f e
    have keepO : ∀ b u, b ≠ a → H1 b = some u → H' b = some u := fun b u ne e => n.2.keep b u e fun w => ne (ow1 w)
    have ne : ∀ b o, x.H b = some o → ¬ x.ow b → b ≠ a := fun b o e w z => by
      subst z
      rcases fr with fr | fr
      · exact w fr
      · rw [fr] at e; cases e
    refine ⟨⟨n1.1.len, fun i o s e1 e2 => ?_, n1.1.apart, n.1.trk⟩, ⟨fun b f => n.2.ext b (n1.2.ext b f), fun b o e w => keepO b o (ne b o e w) (n1.2.keep b o e w), fun b f => ?_, fun b w => n1.2.wn b w⟩⟩
    · refine (n1.1.slot i o s e1 e2).mono n.2.ext fk fun b eb qs nb => ?_
      subst eb
      obtain ⟨u, qs⟩ := qs
      have wi : (Sx.mk F1 H1 x.σ ρ1).ow b := ⟨i, e1, u, qs.elim (fun z => .inl (z ▸ e2)) fun z => .inr (z ▸ e2)⟩
      have na : b ≠ a := fun z => nw (z ▸ wi)
      obtain ⟨_, t', ob⟩ := n1.1.noF wi
      obtain ⟨o', ho⟩ := ob.there
      refine ⟨fun f => ?_, fun u e => keepO b u na e⟩
      rcases n.2.new b f with f | f | f | ⟨u, f, im⟩
      · exact nb f
      · exact na (ow1 f)
      · have f : H1 b = none := f
        have ho : H1 b = some o' := ho
        rw [ho] at f; cases f
      · exact ob.notImm f im
    · rcases n.2.new b f with f | f | f | ⟨u, f, im⟩
      · exact n1.2.new b f
      · have z := ow1 f
        subst z
        exact .inr (fr.imp_right .inl)
      · have f : H1 b = none := f
        cases q : x.H b with
        | none => exact .inr (.inr (.inl rfl))
        | some o' =>
          by_cases w : x.ow b
          · exact .inr (.inl w)
          · have z : H1 b = some o' := n1.2.keep b o' q w
            rw [z] at f; cases f
      · have f : H1 b = some u := f
        cases q : x.H b with
        | none => exact .inr (.inr (.inl rfl))
        | some o' =>
          by_cases w : x.ow b
          · exact .inr (.inl w)
          · have z : H1 b = some o' := n1.2.keep b o' q w
            rw [z] at f; cases f
            exact .inr (.inr (.inr ⟨_, rfl, im⟩))
  unfold call1R at g
  cases q : F [.bor t] with
  | bad => rw [q] at g; exact g.elim
  | ok s ps =>
    rw [q] at g
    cases s <;> first | exact g.elim | skip
    rename_i r
    match ps, g with
    | [.bor t'], g => exact fun F' H' v n rv => g F' H' v (beh F' H' _ n) rv
    | [], g => exact g.elim
    | .un :: _, g => exact g.elim
    | .val _ :: _, g => exact g.elim
    | .own _ :: _, g => exact g.elim
    | .old _ :: _, g => exact g.elim
    | .nl _ :: _, g => exact g.elim
    | .bor _ :: _ :: _, g => exact g.elim
  | ex c u ps =>
    rw [q] at g
    match ps, g with
    | [.bor t'], g => exact fun F' H' cls d n rv => g F' H' cls d (beh F' H' _ n) rv
    | [], g => exact g.elim
    | .un :: _, g => exact g.elim
    | .val _ :: _, g => exact g.elim
    | .own _ :: _, g => exact g.elim
    | .old _ :: _, g => exact g.elim
    | .nl _ :: _, g => exact g.elim
    | .bor _ :: _ :: _, g => exact g.elim
variable {j k : Nat} {f : Str}
theorem denf_call1 {F : FT} (c : GFX X k f (spN X.K 1 F)) (hr : RoomG j X.A) (tk : Takes X W) (ha : DenF X W e m) (hj : k ≤ j := by decide) (hg : Gl X f := by rfl)
    (hdb : (f == ("__debug__" : Str)) = false := by decide) (he : starEach [e] X.env = (false, eval e X.env) :: starEach [] X.env := by rfl)
    (hpl : (backTo pos (starEach [] X.env)).any (·.1) = false := by rfl) : DenF X W (.Call (.Name f p) [e] [] pos) (call1M F m) := by
  intro β x Q hs g
  refine ⟨_, pg_callS c hr hj hg tk pa_av hdb he hpl, ?_⟩
  refine av_cons (ha β x _ hs ?_) he
  unfold call1M M.bind at g
  cases q : m x.ρ with
  | bad => rw [q] at g; exact g
  | ex c' u ρ1 => rw [q] at g; exact g
  | ok s ρ1 =>
    rw [q] at g
    cases s <;> first | exact g.elim | skip
    rename_i t
    intro F1 H1 v n1 r
    obtain ⟨a, rfl, h2, h3, h4, h5⟩ := r
    exact av_nil ⟨rfl, call1_core n1 h2 h3 h4 h5 g⟩
end
end Dv
/-! XH: repr of data with dicts within, of plain values, of Ratios. -/
namespace Dv
open PySem PySem.Spec PyProof.Rows L2 Hv
def kPd : Key → PyData
  | .inl i => .int i
  | .inr x => .str x
mutual
/-- a tree as data, dicts too -/
def pdX : T → Option PyData
  | .non => some .none
  | .bl b => some (.bool b)
  | .int i => some (.int i)
  | .str x => some (.str x)
  | .tup ts => (pdXs ts).map .tuple
  | .lst ts => (pdXs ts).map .list
  | .dic kts => (pdXk kts).map .dict
  | _ => none
def pdXs : List T → Option (List PyData)
  | [] => some []
  | t :: ts => (pdX t).bind fun d => (pdXs ts).map (d :: ·)
def pdXk : List (Key × T) → Option (List (PyData × PyData))
  | [] => some []
  | (k, t) :: r => (pdX t).bind fun d => (pdXk r).map ((kPd k, d) :: ·)
end
section
variable {X : Cx} {pins : List (Addr × Obj)} {σ : L2.St} {H : Hp} {s : Shared} {F : Addr → Prop} {K : PySem.W.Frag}
theorem pairs_keys {P : Program} {w : World} {h : Heap} : ∀ {es : List DictEntry} {vs : List (Key × Value)}, Pairs (mixKind P w) es vs → ReadsAll h (es.map (·.key)) (vs.map fun p => kPd p.1) []
  | _, _, .nil => .nil
  | _, _, .cons (e := e) (kv := kv) h1 _ r => by
    have one : Reads h e.key (kPd kv.1) [] := by
      rcases keyIs_shape (k := kv.1) (v := e.key) h1 with ⟨i, t, e1, e2⟩ | ⟨x, t, e1, e2⟩
      · rw [e1, e2]; exact .int i t
      · rw [e1, e2]; exact .str x t
    exact ReadsAll.cons (as := []) (bs := []) one (pairs_keys r)
theorem pairs_vals {P : Program} {w : World} : ∀ {es : List DictEntry} {vs : List (Key × Value)}, Pairs (mixKind P w) es vs → es.map (·.val) = vs.map (·.2)
  | _, _, .nil => rfl
  | _, _, .cons _ h2 r => by rw [List.map_cons, List.map_cons, h2, pairs_vals r]
theorem kv_vals : ∀ {kvs : List (Key × V)} {vs : List (Key × Value)}, KV kvs vs → kvs.map (·.1) = vs.map (·.1) ∧ Vals (kvs.map (·.2)) (vs.map (·.2))
  | _, _, .nil => ⟨rfl, .nil⟩
  | _, _, .cons h r => ⟨by rw [List.map_cons, List.map_cons, h.1, (kv_vals r).1], .cons h.2 (kv_vals r).2⟩
mutual
theorem rx (I : Inv X pins σ H s) (sd : SysD X.K) : ∀ (t : T) (d : PyData) (v : V) (u : Value), pdX t = some d → RepP X.K F H v t → RelV v u → ∃ as, Reads s.heap u d as ∧ sysModules ∉ as
  | .non, d, v, u, e, r, q => by cases e; cases r.non; cases q; exact ⟨_, .none, List.not_mem_nil⟩
  | .bl b, d, v, u, e, r, q => by cases e; cases r.bl; cases q; exact ⟨_, .bool b, List.not_mem_nil⟩
  | .int i, d, v, u, e, r, q => by cases e; cases r.int; obtain ⟨t, rfl⟩ := q; exact ⟨_, .int i t, List.not_mem_nil⟩
  | .str z, d, v, u, e, r, q => by cases e; cases r.str; obtain ⟨t, rfl⟩ := q; exact ⟨_, .str z t, List.not_mem_nil⟩
  | .tup ts, d, v, u, e, r, q => by
    rw [pdX, Option.map_eq_some_iff] at e
    obtain ⟨ds, e1, rfl⟩ := e
    obtain ⟨a, vs, rfl, h, rs⟩ := r.tup
    cases q
    obtain ⟨its, rv, ⟨o, ho, hc, n, hd⟩, _⟩ := I.tuple (.of h)
    obtain ⟨as, hr, na⟩ := rxs I sd ts ds vs its e1 rs rv
    exact ⟨_, .tuple ho hc hd hr, na⟩
  | .lst ts, d, v, u, e, r, q => by
    rw [pdX, Option.map_eq_some_iff] at e
    obtain ⟨ds, e1, rfl⟩ := e
    obtain ⟨a, vs, rfl, h, rs⟩ := r.lst
    cases q
    obtain ⟨its, rv, ⟨o, n, ho, hc, _, hd⟩, _⟩ := I.list (.of h)
    obtain ⟨as, hr, na⟩ := rxs I sd ts ds vs its e1 rs rv
    refine ⟨_, .list ho hc hd hr, fun z => ?_⟩
    rcases List.mem_cons.mp z with z | z
    · obtain ⟨o2, e2, e3⟩ := sd
      have e4 := I.kIn _ _ e2
      rw [z, ho] at e4
      cases e4
      rw [hc] at e3
      exact absurd (Value.type.inj e3) (by decide)
    · exact na z
  | .dic kts, d, v, u, e, r, q => by
    rw [pdX, Option.map_eq_some_iff] at e
    obtain ⟨ds, e1, rfl⟩ := e
    obtain ⟨a, kvs, rfl, rd, lk, rs⟩ := r.dic
    cases q
    obtain ⟨_, hs, vs, kv, o, es, ep, ho, hx, hd, _, hp, _⟩ := dk_rd I.hok rd
    obtain ⟨k1, k2⟩ := kv_vals kv
    obtain ⟨f1, bs, hr, nb⟩ := rxk I sd kts ds (kvs.map (·.2)) (vs.map (·.2)) e1 rs k2
    have ks := pairs_keys (h := s.heap) hp
    have ek : (vs.map fun p => kPd p.1) = ds.map (·.1) := by
      rw [f1, show (vs.map fun p => kPd p.1) = (vs.map (·.1)).map kPd by rw [List.map_map]; rfl, ← k1, lk, List.map_map]; rfl
    rw [ek] at ks
    rw [← pairs_vals hp] at hr
    refine ⟨_, .dict ho hx.1 hd ks hr, fun z => ?_⟩
    rcases List.mem_cons.mp z with z | z
    · rw [z] at hs; simp at hs
    · exact nb (by simpa using z)
  | .ty _, d, v, u, e, r, q => by cases e
  | .cls _, d, v, u, e, r, q => by cases e
  | .scr _, d, v, u, e, r, q => by cases e
  | .wtu _, d, v, u, e, r, q => by cases e
  | .rat _, d, v, u, e, r, q => by cases e
  | .ins _ _, d, v, u, e, r, q => by cases e
  | .exc _ _, d, v, u, e, r, q => by cases e
theorem rxs (I : Inv X pins σ H s) (sd : SysD X.K) : ∀ (ts : List T) (ds : List PyData) (vs : List V) (us : List Value), pdXs ts = some ds → Reps X.K F H vs ts → Vals vs us → ∃ as, ReadsAll s.heap us ds as ∧ sysModules ∉ as
  | [], ds, vs, us, e, r, q => by cases e; cases r; cases q; exact ⟨_, .nil, List.not_mem_nil⟩
  | t :: ts, ds, vs, us, e, r, q => by
    rw [pdXs, Option.bind_eq_some_iff] at e
    obtain ⟨d, e1, e⟩ := e
    rw [Option.map_eq_some_iff] at e
    obtain ⟨ds, e2, rfl⟩ := e
    cases r with
    | cons r rs =>
      cases q with
      | cons q qs =>
        obtain ⟨as, h1, n1⟩ := rx I sd t d _ _ e1 (.inl r) q
        obtain ⟨bs, h2, n2⟩ := rxs I sd ts ds _ _ e2 rs qs
        exact ⟨_, .cons h1 h2, fun z => (List.mem_append.mp z).elim n1 n2⟩
theorem rxk (I : Inv X pins σ H s) (sd : SysD X.K) : ∀ (kts : List (Key × T)) (ds : List (PyData × PyData)) (vs : List V) (us : List Value), pdXk kts = some ds → Reps X.K F H vs (kts.map (·.2)) → Vals vs us →
    ds.map (·.1) = kts.map (fun p => kPd p.1) ∧ ∃ as, ReadsAll s.heap us (ds.map (·.2)) as ∧ sysModules ∉ as
  | [], ds, vs, us, e, r, q => by cases e; cases r; cases q; exact ⟨rfl, _, .nil, List.not_mem_nil⟩
  | (k, t) :: ts, ds, vs, us, e, r, q => by
    rw [pdXk, Option.bind_eq_some_iff] at e
    obtain ⟨d, e1, e⟩ := e
    rw [Option.map_eq_some_iff] at e
    obtain ⟨ds, e2, rfl⟩ := e
    cases r with
    | cons r rs =>
      cases q with
      | cons q qs =>
        obtain ⟨as, h1, n1⟩ := rx I sd t d _ _ e1 (.inl r) q
        obtain ⟨f, bs, h2, n2⟩ := rxk I sd ts ds _ _ e2 rs qs
        exact ⟨by rw [List.map_cons, List.map_cons, f], _, .cons h1 h2, fun z => (List.mem_append.mp z).elim n1 n2⟩
end
/-! ### the calls -/
theorem call_reprX {k : Nat} (hr : RoomG k X.A) (sd : SysD X.K) : CallR X (.builtin "repr") (fun xs H Q => ∃ a t d F, xs = [.ref a] ∧ RepP X.K F H (.ref a) t ∧ pdX t = some d ∧ d.showable = true ∧ d.depth ≤ 60 ∧ d.shown.length ≤ sizeLine ∧ Q (.str d.shown) H) := by
  intro pins s σ H xs us Q I r h
  obtain ⟨a, t, d, F, rfl, hd, hp, h1, h3, h4, q⟩ := h
  obtain ⟨u, rfl, rx'⟩ := vals1 r
  obtain ⟨as, rd, nas⟩ := rx I sd t d _ _ hp hd rx'
  cases (show u = Value.ref a from rx')
  have hu := hr.r.units
  exact repr_of_reads' rd h1 (fun _ => nas) hr.g (by omega) (fun _ _ e => e) (fun h' u tk kp => ⟨.str d.shown, H, I.kept kp, ⟨u, rfl⟩, q⟩) h4
theorem call_reprF : CallR X (.builtin "repr") (fun xs H Q => (xs = [.non] ∧ Q (.str "None") H) ∨ (∃ b, xs = [.bl b] ∧ Q (.str (if b then "True" else "False" : String)) H) ∨ (∃ i : Int, xs = [.int i] ∧ i.natAbs.log2 < 1920 ∧ Q (.str (toString i)) H) ∨ ∃ z, xs = [.str z] ∧ (reprText z).length ≤ sizeLine ∧ Q (.str (reprText z)) H) := by
  intro pins s σ H xs us Q I r h
  rcases h with ⟨rfl, q⟩ | ⟨b, rfl, q⟩ | ⟨i, rfl, hi, q⟩ | ⟨z, rfl, hz, q⟩
  · obtain ⟨u, rfl, rx⟩ := vals1 r
    cases rx
    exact P.repr_of_none ⟨.str "None", H, I.tok _, ⟨_, rfl⟩, q⟩
  · obtain ⟨u, rfl, rx⟩ := vals1 r
    cases rx
    have eb : (if b then ("True" : Str) else "False") = Str.ofString (if b then "True" else "False") := by cases b <;> rfl
    refine P.repr_of_bool ?_
    rw [eb]
    exact ⟨.str (if b then "True" else "False" : String), H, I.tok _, ⟨_, rfl⟩, q⟩
  · obtain ⟨u, rfl, t, rfl⟩ := vals1 r
    exact P.repr_of_int hi ⟨.str (toString i), H, I.tok _, ⟨_, rfl⟩, q⟩
  · obtain ⟨u, rfl, t, rfl⟩ := vals1 r
    exact P.repr_of_str ⟨.str (reprText z), H, I.tok _, ⟨_, rfl⟩, q⟩ hz
/-- repr(x), x an instance whose class has an own __repr__ -/
theorem call_reprn {g C : Addr} {n j : Nat} {sp : Sp} {E : XK} (m : Meth X.K C "__repr__" g) (Ff : FnX X n g sp) (hr : RoomG j X.A) (hj : n + 1 ≤ j) (hx : PassX X E) :
    CallR X (.builtin "repr") (fun xs H Q => ∃ x, xs = [x] ∧ IsIn C H x ∧ sp [x] H (fun v H => (∃ y, v = .str y) ∧ Q v H) E) := by
  intro pins s σ H xs us Q I r h
  obtain ⟨x, rfl, ⟨a, dx, vs, rfl, ha⟩, q⟩ := h
  obtain ⟨u, rfl, rx⟩ := vals1 r
  cases (show u = Value.ref a from rx)
  obtain ⟨sl, od, _, J, _⟩ := SlX.slt_inst I ha
  have hu := hr.r.units
  refine Calls.call_function_entry PySem.F.kind_repr PySem.F.plain_repr PySem.F.entry_repr (PySem.F.args_repr1 _) ?_
  unfold Builtin.«repr»
  refine wpAny_bind (m := oneArg "repr" _) (wpAny_pure ?_)
  refine wpAny_bind (m := cRoomFor _ _) (wpAny_cRoomFor (by show X.A.units + 1 < cLine; omega) ?_)
  refine wpAny_bind (m := specialOf (.ref a) (Str.ofString "__repr__")) (wpAny_bind (J.type.here ((PySem.W.looks_findIn I.kIn m.at_).here ?_)))
  have q1 := wpAny_call (run_at (us := [.ref a]) (vs := [.ref a]) Ff (hr.mono hj).in1 I.env0.in1 hx I (.cons rfl .nil) q)
  refine wpAny_bind (m := callSpecialIfBound? (.ref a) (Str.ofString "__repr__") _) (PySem.W.ifBound_K I.kIn J m.at_ m.fn (wpAny_mono q1 (fun v s' z => ?_) fun _ _ z => z))
  obtain ⟨z', H', I', rz, ⟨y, rfl⟩, qz⟩ := z
  obtain ⟨t, rfl⟩ := (show ∃ t, v = Value.str y t from rz)
  exact wpAny_bind (wpAny_isInstance (T := "str") (b := true) rfl isSubtype_str_str (wpAny_pure ⟨_, rfl, _, H', I', rz, qz⟩))
end
end Dv
/-! the program's Ratio: what each def promises -/
namespace HvP
open PySem PySem.Spec PyProof.Rows L2 Hv HvT SlX
local macro_rules | `(tactic| walk_at "hv name") => `(tactic| first
  | refine ev_var 0 (pv 0) rfl ?_ | refine ev_var 1 (pv 1) rfl ?_ | refine ev_var 2 (pv 2) rfl ?_ | refine ev_var 3 (pv 3) rfl ?_ | refine ev_var 4 (pv 4) rfl ?_
  | refine ev_var 5 (pv 5) rfl ?_ | refine ev_var 6 (pv 6) rfl ?_ | refine ev_var 7 (pv 7) rfl ?_ | refine ev_var 8 (pv 8) rfl ?_ | refine ev_var 9 (pv 9) rfl ?_
  | refine ev_var 10 (pv 10) rfl ?_ | refine ev_var 11 (pv 11) rfl ?_ | refine ev_var 12 (pv 12) rfl ?_ | refine ev_var 13 (pv 13) rfl ?_ | refine ev_var 14 (pv 14) rfl ?_)
local macro_rules | `(tactic| walk_at "hv hp") => `(tactic| first
  | with_reducible assumption
  | with_reducible exact upd_same
  | ((with_reducible refine' upd_keep ?a ?b); (case a => with_reducible assumption); (case b => walk_at "hv hp"))
  | ((with_reducible refine' Same.get ?a ?b); (case a => with_reducible assumption); (case b => walk_at "hv hp"))
  | ((with_reducible refine' ExB.gt ?a ?b ?c); (case a => with_reducible assumption); (case b => walk_at "hv hp"); (case c => walk_at "hv ne")))
local macro_rules | `(tactic| walk_at "hv ne") => `(tactic| first
  | assumption
  | (exact ne_of_none (by assumption) (by assumption))
  | (refine ne_of (by assumption) (by assumption) ?_; (intro hx; cases hx; done)))
local macro_rules | `(tactic| walk_at "hv same") => `(tactic| first
  | with_reducible assumption
  | with_reducible exact Same.refl _
  | ((with_reducible refine' Same.nw ?a ?b); (case a => with_reducible assumption); (case b => walk_at "hv same"))
  | ((with_reducible refine' Same.tr ?a ?b); (case a => with_reducible assumption); (case b => walk_at "hv same")))
local macro_rules | `(tactic| walk_at "hv exb") => `(tactic| first
  | with_reducible assumption
  | with_reducible exact ExB.refl _ _
  | ((with_reducible refine' ExB.nw ?a ?b); (case a => with_reducible assumption); (case b => walk_at "hv exb"))
  | ((with_reducible refine' ExB.trs ?a ?b); (case a => with_reducible assumption); (case b => walk_at "hv exb"))
  | ((with_reducible refine' ExB.tr ?a ?b); (case a => with_reducible assumption); (case b => walk_at "hv exb")))
local macro_rules | `(tactic| walk_at "hv sq") => `(tactic| first
  | assumption
  | exact .inl (by assumption)
  | exact .inr (by assumption)
  | ((with_reducible refine' SqL.of ?a); (case a => walk_at "hv hp"))
  | ((with_reducible refine' SqT.of ?a); (case a => walk_at "hv hp"))
  | ((with_reducible refine' Or.inl (SqL.of ?a)); (case a => walk_at "hv hp"))
  | ((with_reducible refine' Or.inr (SqT.of ?a)); (case a => walk_at "hv hp")))
local macro_rules | `(tactic| walk_at "hv op") => `(tactic| first
  | with_reducible refine ov_add ?_ | with_reducible refine ov_sub ?_ | ((with_reducible refine ov_mul ?h ?_); (case h => first | assumption | (walk_at "hv side"))) | ((with_reducible refine ov_mod ?h ?_); (case h => first | assumption | omega | (walk_at "hv side"))) | ((with_reducible refine ov_div ?h ?_); (case h => first | assumption | (walk_at "hv side"))) | ((with_reducible refine ov_pow ?h ?_); (case h => first | assumption | (walk_at "hv side")))
  | with_reducible refine ov_lt ?_ | with_reducible refine ov_le ?_ | with_reducible refine ov_gt ?_ | with_reducible refine ov_ge ?_ | with_reducible refine ov_eq ?_ | with_reducible refine ov_ne ?_ | with_reducible refine ov_eqs ?_ | with_reducible refine ov_nes ?_
  | with_reducible refine uv_neg ?_ | with_reducible refine cv_abs ?_ | with_reducible refine cv_int ?_ | with_reducible refine cv_intb ?_ | with_reducible refine cv_boolb ?_ | ((with_reducible refine cv_max ?h ?_); (case h => rfl)) | ((with_reducible refine cv_min ?h ?_); (case h => rfl))
  | ((with_reducible refine' cv_len ?h ?_); (case h => walk_at "hv sq")) | ((with_reducible refine' iv_lst ?h ?g ?_); (case h => walk_at "hv sq"); (case g => rfl)) | ((with_reducible refine' iv_tup ?h ?g ?_); (case h => walk_at "hv sq"); (case g => rfl)))
local macro_rules | `(tactic| walk_at "hv blt") => `(tactic| first
  | refine ev_intc (by assumption) ?_ | refine ev_abs (by assumption) ?_ | refine ev_len (by assumption) ?_ | refine ev_isinst (by assumption) ?_ | refine ev_repr (by assumption) ?_ | refine ev_all (by assumption) ?_ | refine ev_any (by assumption) ?_
  | refine ev_max (by assumption) ?_ | refine ev_min (by assumption) ?_ | refine ev_boolc (by assumption) ?_ | refine ev_sorted (by assumption) ?_ | refine ev_listc (by assumption) ?_ | refine ev_strc (by assumption) ?_ | refine ev_tuplec (by assumption) ?_ | refine ev_dictc (by assumption) ?_ | refine ev_sum (by assumption) ?_)
local macro_rules | `(tactic| walk_at "hv nblt") => `(tactic| first
  | refine ev_nint (by assumption) ?_ | refine ev_nbool (by assumption) ?_ | refine ev_nstr (by assumption) ?_ | refine ev_ndict (by assumption) ?_ | refine ev_nlist (by assumption) ?_ | refine ev_ntuple (by assumption) ?_)
local macro_rules | `(tactic| walk_at "hv one") => `(tactic| first
  | with_reducible refine bv_cons ?_ | ((with_reducible refine bv_id ?_); (refine bv_cons ?_)) | with_reducible refine bv_nil ?_ | with_reducible refine sv_ret ?_ | ((with_reducible refine sv_id ?_); (walk_at "hv set")) | with_reducible refine sv_if ?_ | ((with_reducible refine sv_expr ?_ ?h); (case h => rfl)) | ((with_reducible refine sv_slot ?_ ?h); (case h => rfl)) | ((with_reducible refine sv_seti ?_ ?a ?b ?c); (case a => (intro x; rfl)); (case b => rfl); (case c => rfl))
  | ((with_reducible refine ev_nm ?_); (first | walk_at "hv name" | walk_at "hv nblt"))
  | with_reducible refine ev_int ?_ | with_reducible refine ev_op ?_ | ((with_reducible refine ev_cmp ?_ ?h); (case h => first | exact nobehind _ (by decide) (by decide) | rfl))
  | ((with_reducible refine av_cons ?_ ?h); (case h => rfl)) | with_reducible refine av_nil ?_
  | with_reducible refine ev_str ?_ | with_reducible refine ev_bl ?_ | with_reducible refine ev_non ?_ | with_reducible refine ev_un ?_ | with_reducible refine ev_one ?_ | with_reducible refine ev_and ?_ | with_reducible refine ev_or ?_ | with_reducible refine ev_if ?_
  | with_reducible refine ev_tup ?_ | with_reducible refine ev_lst ?_ | ((with_reducible refine ev_ix ?h ?_); (case h => exact fun _ _ => rfl))
  | with_reducible refine tv_and ?_ | with_reducible refine tv_or ?_ | with_reducible refine tv_not ?_ | ((with_reducible refine tv_cmp ?_ ?h); (case h => first | exact nobehind _ (by decide) (by decide) | rfl)) | with_reducible refine wv_and ?_ | with_reducible refine wv_or ?_ | with_reducible refine wv_and1 ?_ | with_reducible refine wv_or1 ?_
  | walk_at "hv op"
  | ((with_reducible refine ev_cl ?_); (walk_at "hv blt"))
  | with_reducible refine ex_bl ?_ | with_reducible refine tru_bl ?_ | walk_at "hv ite"
  | ((with_reducible refine tv_val ?_ ?h); (case h => (intro x; rfl))))
local macro_rules | `(tactic| walk_at "hv loc") => `(tactic| first | exact .inl rfl | exact .inr rfl)
local macro_rules | `(tactic| walk_at "hv set") => `(tactic| first
  | refine sv_setS 0 rfl (by assumption) (by walk_at "hv loc") ?_ | refine sv_setS 1 rfl (by assumption) (by walk_at "hv loc") ?_ | refine sv_setS 2 rfl (by assumption) (by walk_at "hv loc") ?_ | refine sv_setS 3 rfl (by assumption) (by walk_at "hv loc") ?_
  | refine sv_setS 4 rfl (by assumption) (by walk_at "hv loc") ?_ | refine sv_setS 5 rfl (by assumption) (by walk_at "hv loc") ?_ | refine sv_setS 6 rfl (by assumption) (by walk_at "hv loc") ?_ | refine sv_setS 7 rfl (by assumption) (by walk_at "hv loc") ?_
  | refine sv_setS 8 rfl (by assumption) (by walk_at "hv loc") ?_ | refine sv_setS 9 rfl (by assumption) (by walk_at "hv loc") ?_ | refine sv_setS 10 rfl (by assumption) (by walk_at "hv loc") ?_ | refine sv_setS 11 rfl (by assumption) (by walk_at "hv loc") ?_)
local macro_rules | `(tactic| walk_at "hv dec") => `(tactic| first | assumption | rfl | omega | decide | (intro hz; cases hz; done))
local macro_rules | `(tactic| walk_at "hv ite") => `(tactic| first
  | with_reducible refine iteT ?_ | with_reducible refine iteF ?_ | with_reducible refine iteNF ?_ | with_reducible refine iteNT ?_
  | ((with_reducible refine ite_dec1 ?h ?_); (case h => walk_at "hv dec")) | ((with_reducible refine ite_dec0 ?h ?_); (case h => walk_at "hv dec"))
  | ((with_reducible refine ite_decN1 ?h ?_); (case h => walk_at "hv dec")) | ((with_reducible refine ite_decN0 ?h ?_); (case h => walk_at "hv dec")))
local macro_rules | `(tactic| walk_at "hv s") => `(tactic| (repeat (walk_at "hv one")))
abbrev CR (K : PySem.W.Frag) : Addr := He.ga K "Ratio"
abbrev RatO (K : PySem.W.Frag) (a dx : Addr) (n d : Int) : HO := SlO a (CR K) dx [some (.int n), some (.int d)]
def RatV (K : PySem.W.Frag) (H : Hp) (v : V) (q : Rat) : Prop := ∃ a dx, v = .ref a ∧ H a = some (RatO K a dx q.num q.den) ∧ H dx = some (.xd [])
section
variable {K : PySem.W.Frag} {H H' : Hp} {v : V} {q : Rat} {p : Addr} {xs : List V}
theorem RatV.slt (h : RatV K H v q) : ∃ a dx, v = .ref a ∧ Slt H a (CR K) dx [some (.int q.num), some (.int q.den)] :=
  let ⟨a, dx, e, h1, h2⟩ := h
  ⟨a, dx, e, .inr ⟨h1, h2⟩⟩
theorem RatV.same (h : RatV K H v q) (e : Same H H') : RatV K H' v q :=
  let ⟨a, dx, e1, h1, h2⟩ := h
  ⟨a, dx, e1, e _ _ h1, e _ _ h2⟩
theorem RatV.sm (e : Same H H') (h : RatV K H v q) : RatV K H' v q := h.same e
theorem RatV.nw {o : HO} (hp : H p = none) (h : RatV K H v q) : RatV K (upd H p o) v q := h.same (same_upd hp)
theorem RatV.exb (h : RatV K H v q) (hp : H p = some (.lst xs)) (e : ExB p H H') : RatV K H' v q :=
  let ⟨a, dx, e1, h1, h2⟩ := h
  ⟨a, dx, e1, e _ _ (ne_of h1 hp fun z => by cases z) h1, e _ _ (ne_of h2 hp fun z => by cases z) h2⟩
end
/-- what the written part says of Ratio; cs: the own classes that are told apart -/
structure RW (K : PySem.W.Frag) (mg : Str → Option Value) (cs : List Addr) : Prop where
  B : Blt mg
  num : NumC K (CR K)
  gl : mg "Ratio" = some (.ref (CR K))
  s0 : Slot1 K (CR K) "above" (He.ma K (CR K) "above") 0
  s1 : Slot1 K (CR K) "below" (He.ma K (CR K) "below") 1
  mak : Mk K (CR K) (He.ma K (CR K) "__init__")
  csk : Cs K cs
  mem : CR K ∈ cs
section
variable {P : Program} {w : World} {K : PySem.W.Frag} {mg : Str → Option Value} {base : Heap} {cs : List Addr} {f : Addr} {fd : FuncData}
abbrev FD (K : PySem.W.Frag) (d : De) (fd : FuncData) : Prop := FunD K d.name d.qual (defArgs d.st) (defBody d.st) (defScope d.st) (d.dvs K) (d.kws K) (d.at_ K) fd
theorem RW.kr (R : RW K mg cs) {H : Hp} {v : V} {q : Rat} (h : RatV K H v q) : HasK K cs H v (.own (CR K)) := by
  obtain ⟨a, dx, rfl, h2⟩ := h.slt
  exact .slt R.mem R.num.sc R.num.si h2
def sp_common_divisor : Sp := fun vs H Q _ => ∃ a b : Nat, vs = [.int a, .int b] ∧ Q (.int (Nat.gcd a b : Nat)) H
theorem ok_common_divisor (F : FD K d_common_divisor fd) : FnG P w K mg base 1 (d_common_divisor.at_ K) sp_common_divisor := by
  have S : FnScope ["one", "other"] ["one", "other"] (defScope d_common_divisor.st) := sc_ok (by decide +kernel)
  refine okG (dv := []) (ds := []) F S (FunD.bindsN F fun _ _ _ _ _ _ us hl => match us, hl with | [_, _], _ => rfl) .nil (fun vs H Q E h => ?_) (fun cdv A outer s H vs Q E hr h => ?_)
  · obtain ⟨a, b, rfl, _⟩ := h; rfl
  obtain ⟨a, b, rfl, q⟩ := h
  refine ex_bv ?_
  refine bv_cons ?_
  refine sv_while (passes_of rfl) (fun σ H' => H' = H ∧ ∃ x y : Nat, σ = [some (.int x), some (.int y)] ∧ Nat.gcd x y = Nat.gcd a b) (fun σ _ => match σ with | [_, some (.int y)] => y.toNat | _ => 0) ⟨rfl, a, b, rfl, rfl⟩ ?_
  rintro σ H' ⟨rfl, x, y, rfl, e⟩
  walk_at "hv s"
  refine ite_dec (fun hy => ?_) (fun hy => ?_)
  · refine bv_cons ?_
    refine sv_par 0 1 rfl S.nd rfl rfl (by decide) rfl rfl ?_
    walk_at "hv s"
    refine ⟨_, _, rfl, ?_⟩
    refine bv_nil ⟨⟨rfl, y, x % y, ?_, ?_⟩, ?_⟩
    · have : ((x : Int) % (y : Int)) = ((x % y : Nat) : Int) := (Int.natCast_emod x y).symm
      show [some (V.int y), some (V.int ((x : Int) % (y : Int)))] = _
      rw [this]
    · rw [← e, Nat.gcd_comm x y, Nat.gcd_rec y x, Nat.gcd_comm]
    · show ((x : Int) % (y : Int)).toNat < (y : Int).toNat
      have := Int.emod_lt_of_pos (x : Int) hy
      have := Int.emod_nonneg (x : Int) (Int.ne_of_gt hy)
      omega
  · walk_at "hv s"
    have : y = 0 := by omega
    subst this
    rw [Nat.gcd_zero_right] at e
    rw [e]
    exact q
def sp_is_integer (K : PySem.W.Frag) (cs : List Addr) : Sp := fun vs H Q _ => ∃ x k, vs = [x] ∧ HasK K cs H x k ∧ Q (.bl (decide (k = .int))) H
theorem int_k (k : Hv.Kind) : (if k.isT "int" = true then !k.isT "bool" else false) = decide (k = .int) := by cases k <;> rfl
theorem ok_is_integer (B : Blt mg) (c : Cs K cs) (F : FD K d_is_integer fd) : FnG P w K mg base 1 (d_is_integer.at_ K) (sp_is_integer K cs) := by
  have S : FnScope ["value"] ["value"] (defScope d_is_integer.st) := sc_ok (by decide +kernel)
  refine okG (dv := []) (ds := []) F S (FunD.bindsN F fun _ _ _ _ _ _ us hl => match us, hl with | [_], _ => rfl) .nil (fun vs H Q E h => ?_) (fun cdv A outer s H vs Q E hr h => ?_)
  · obtain ⟨a, b, rfl, _⟩ := h; rfl
  obtain ⟨x, k, rfl, hk, q⟩ := h
  refine ex_bv ?_
  walk_at "hv s"
  refine cv_isT c hk (by decide) ?_
  refine tru_bl ?_
  rw [← int_k] at q
  split
  · rename_i h1
    rw [if_pos h1] at q
    refine ev_one (ev_not ?_)
    walk_at "hv s"
    refine cv_isT c hk (by decide) ?_
    refine tru_bl ?_
    exact q
  · rename_i h1
    rw [if_neg h1] at q
    rw [Bool.eq_false_iff.mpr h1]
    exact q
theorem gf {d : De} {k : Nat} {sp : Sp} (F : FD K d fd) (hm : mg d.name = some (.ref (d.at_ K))) (h : FnG P w K mg base k (d.at_ K) sp) : GF P w K mg base k d.name sp := ⟨_, hm, F.kp, h⟩
/-- __init__: number, under, both ints, under not nought -/
def sp_init (K : PySem.W.Frag) : Sp := fun vs H Q _ => ∃ a dx n u, vs = [.ref a, .int n, .int u] ∧ Slt H a (CR K) dx [] ∧ dx ≠ a ∧ u ≠ 0 ∧ n.natAbs < 2 ^ 8000 ∧ u.natAbs < 2 ^ 8000 ∧
  Q .non (slH H a (CR K) dx [some (.int (Rat.divInt n u).num), some (.int (Rat.divInt n u).den)])
theorem divz {z : Int} {n u : Int} (h : u ≠ 0) (hu : u.natAbs < 2 ^ 8000) : CDivZ z (comm n u) :=
  ⟨comm_ne h, Nat.lt_of_lt_of_le (PySem.Flt.log2_lt_of (k := 8000) (by decide) (comm_lt h hu)) (by decide)⟩
theorem init_body (B : Blt mg) (R : RW K mg cs) (gi : GF P w K mg base 1 "is_integer" (sp_is_integer K cs)) (gc : GF P w K mg base 1 "common_divisor" sp_common_divisor)
    (S : FnScope ["self", "number", "under", "common"] ["self", "number", "under"] (defScope d_Ratio___init__.st)) (cdv : Value) (A : Around) (outer : List Env) (s : Shared) (H : Hp) (Q : VK) (E : XK)
    (hr : RoomG 1 (A.deeper (envOfC d_Ratio___init__.qual (defScope d_Ratio___init__.st) s.heap.objs.size (d_Ratio___init__.at_ K) cdv)))
    {a dx : Addr} {n u : Int} (hs : Slt H a (CR K) dx []) (hne : dx ≠ a) (hu : u ≠ 0) (b1 : n.natAbs < 2 ^ 8000) (b2 : u.natAbs < 2 ^ 8000) (q : Q .non (slH H a (CR K) dx [some (.int (Rat.divInt n u).num), some (.int (Rat.divInt n u).den)])) :
    ∃ t, PSs (cxOf (L2.CX P w) P w K mg base ["self", "number", "under", "common"] d_Ratio___init__.qual (defScope d_Ratio___init__.st) (d_Ratio___init__.at_ K) cdv A outer s H E) (defBody d_Ratio___init__.st) t ∧
      t { nx := fun _ H' => Q .non H', rt := Q } (start ["self", "number", "under", "common"] [.ref a, .int n, .int u]) H := by
  refine ex_bv ?_
  walk_at "hv s"
  refine ev_call gi hr (by decide) rfl passL ?_
  walk_at "hv s"
  refine ⟨_, .int, rfl, .int n, ?_⟩
  walk_at "hv s"
  refine ev_call gi hr (by decide) rfl passL ?_
  walk_at "hv s"
  refine ⟨_, .int, rfl, .int u, ?_⟩
  walk_at "hv s"
  refine ev_call gc hr (by decide) rfl passL ?_
  walk_at "hv s"
  refine ⟨_, _, rfl, ?_⟩
  walk_at "hv s"
  have fin : ∀ (D : Ends) (σ : L2.St), D.rt = Q → (D.nx = fun _ H' => Q .non H') → ∀ H' : Hp, H' = slH (slH H a (CR K) dx (putS 0 (.int (n.fdiv (comm n u))) [])) a (CR K) dx (putS 1 (.int (u.fdiv (comm n u))) (putS 0 (.int (n.fdiv (comm n u))) [])) → D.nx σ H' := by
    intro D σ _ e H' e2
    rw [e, e2, slH_twice hne, above_eq hu, below_eq hu]
    exact q
  refine ite_dec (fun h => ?_) (fun h => ?_)
  · have e : -((Nat.gcd n.natAbs u.natAbs : Nat) : Int) = comm n u := by unfold comm; rw [if_pos h]
    walk_at "hv s"
    rw [e]
    refine ov_fdiv (divz hu b2) ?_
    walk_at "hv s"
    refine ⟨a, _, dx, _, _, _, rfl, hs, R.num.sc, R.s0, ?_⟩
    walk_at "hv s"
    refine ov_fdiv (divz hu b2) ?_
    walk_at "hv s"
    refine ⟨a, _, dx, _, _, _, rfl, slH_slt hne, R.num.sc, R.s1, ?_⟩
    walk_at "hv s"
    exact fin { nx := fun _ H' => Q .non H', rt := Q } [] rfl rfl _ rfl
  · have e : ((Nat.gcd n.natAbs u.natAbs : Nat) : Int) = comm n u := by unfold comm; rw [if_neg h]
    walk_at "hv s"
    rw [e]
    refine ov_fdiv (divz hu b2) ?_
    walk_at "hv s"
    refine ⟨a, _, dx, _, _, _, rfl, hs, R.num.sc, R.s0, ?_⟩
    walk_at "hv s"
    refine ov_fdiv (divz hu b2) ?_
    walk_at "hv s"
    refine ⟨a, _, dx, _, _, _, rfl, slH_slt hne, R.num.sc, R.s1, ?_⟩
    walk_at "hv s"
    exact fin { nx := fun _ H' => Q .non H', rt := Q } [] rfl rfl _ rfl
theorem ok_init2 (B : Blt mg) (R : RW K mg cs) (gi : GF P w K mg base 1 "is_integer" (sp_is_integer K cs)) (gc : GF P w K mg base 1 "common_divisor" sp_common_divisor) (F : FD K d_Ratio___init__ fd) :
    FnG P w K mg base 2 (d_Ratio___init__.at_ K) (sp_init K) := by
  have S : FnScope ["self", "number", "under", "common"] ["self", "number", "under"] (defScope d_Ratio___init__.st) := sc_ok (by decide +kernel)
  obtain ⟨ds, hd, hb⟩ := FunD.binds1 (ps := ["self", "number", "under"]) F 3 1 (by intro z; cases z) rfl fun T kV doc pm an cdv ct us its h1 h2 => match us, its, h1, h2 with | [_, _, _], [_], _, _ => ⟨_, rfl, rfl⟩
  refine okG (dv := []) F S hb hd (fun vs H Q E h => ?_) (fun cdv A outer s H vs Q E hr h => ?_)
  · obtain ⟨_, _, _, _, rfl, _⟩ := h; rfl
  obtain ⟨a, dx, n, u, rfl, hs, hne, hu, b1, b2, q⟩ := h
  exact init_body B R gi gc S cdv A outer s H Q E hr hs hne hu b1 b2 q
def sp_init1 (K : PySem.W.Frag) : Sp := fun vs H Q _ => ∃ a dx n, vs = [.ref a, .int n] ∧ Slt H a (CR K) dx [] ∧ dx ≠ a ∧ n.natAbs < 2 ^ 8000 ∧
  Q .non (slH H a (CR K) dx [some (.int (n : Rat).num), some (.int (n : Rat).den)])
theorem ok_init1 (B : Blt mg) (R : RW K mg cs) (gi : GF P w K mg base 1 "is_integer" (sp_is_integer K cs)) (gc : GF P w K mg base 1 "common_divisor" sp_common_divisor) (F : FD K d_Ratio___init__ fd) :
    FnG P w K mg base 2 (d_Ratio___init__.at_ K) (sp_init1 K) := by
  have S : FnScope ["self", "number", "under", "common"] ["self", "number", "under"] (defScope d_Ratio___init__.st) := sc_ok (by decide +kernel)
  obtain ⟨ds, hd, hb⟩ := FunD.binds1 (ps := ["self", "number", "under"]) F 2 0 (by intro z; cases z) rfl fun T kV doc pm an cdv ct us its h1 h2 => match us, its, h1, h2 with | [_, _], [_], _, _ => ⟨_, rfl, rfl⟩
  refine okG (dv := [.int 1]) F S hb hd (fun vs H Q E h => ?_) (fun cdv A outer s H vs Q E hr h => ?_)
  · obtain ⟨_, _, _, rfl, _⟩ := h; rfl
  obtain ⟨a, dx, n, rfl, hs, hne, b1, q⟩ := h
  refine init_body B R gi gc S cdv A outer s H Q E hr hs hne (u := 1) (by decide) b1 (Nat.one_lt_two_pow (by decide)) ?_
  rw [show Rat.divInt n 1 = (n : Rat) from by rw [show (1 : Int) = ((1 : Nat) : Int) from rfl, Rat.divInt_ofNat, Rat.mkRat_one]]
  exact q
/-- Ratio(number, under) as a new thing -/
def sp_mk2 (K : PySem.W.Frag) : Sp := fun vs H Q _ => ∃ n u, vs = [.int n, .int u] ∧ u ≠ 0 ∧ n.natAbs < 2 ^ 8000 ∧ u.natAbs < 2 ^ 8000 ∧ ∀ v H', RatV K H' v (Rat.divInt n u) → Same H H' → Q v H'
def sp_mk1 (K : PySem.W.Frag) : Sp := fun vs H Q _ => ∃ n, vs = [.int n] ∧ n.natAbs < 2 ^ 8000 ∧ ∀ v H', RatV K H' v (n : Rat) → Same H H' → Q v H'
theorem made_same {H : Hp} {a dx C : Addr} {vs : List (Option V)} (ha : H a = none) (hd : H dx = none) (n : dx ≠ a) : Same H (slH (upd (upd H dx (.own a)) a (.ins C dx [])) a C dx vs) := fun b o e => by
  have h1 := ne_of_none e ha
  have h2 := ne_of_none e hd
  rw [slH_ne h1 h2, upd_ne h1, upd_ne h2]
  exact e
theorem made_rat {H : Hp} {a dx : Addr} {n d : Int} {q : Rat} (h : dx ≠ a) (e1 : q.num = n) (e2 : (q.den : Int) = d) : RatV K (slH H a (CR K) dx [some (.int n), some (.int d)]) (.ref a) q := by
  subst e1 e2
  exact ⟨a, dx, rfl, upd_same, by unfold slH; rw [upd_ne h, upd_same]⟩
theorem gm_mk2 (R : RW K mg cs) (h : FnG P w K mg base 2 (d_Ratio___init__.at_ K) (sp_init K)) : GM P w K mg base 2 "Ratio" (sp_mk2 K) := by
  refine ⟨_, _, _, R.gl, R.mak, h, ?_⟩
  rintro vs H Q E ⟨n, u, rfl, hu, b1, b2, q⟩ a dx ha hd hne
  exact ⟨a, dx, n, u, rfl, .inl ⟨upd_same, rfl⟩, hne, hu, b1, b2, rfl, q _ _ (made_rat hne rfl rfl) (made_same ha hd hne)⟩
theorem gm_mk1 (R : RW K mg cs) (h : FnG P w K mg base 2 (d_Ratio___init__.at_ K) (sp_init1 K)) : GM P w K mg base 2 "Ratio" (sp_mk1 K) := by
  refine ⟨_, _, _, R.gl, R.mak, h, ?_⟩
  rintro vs H Q E ⟨n, rfl, b1, q⟩ a dx ha hd hne
  exact ⟨a, dx, n, rfl, .inl ⟨upd_same, rfl⟩, hne, b1, rfl, q _ _ (made_rat hne rfl rfl) (made_same ha hd hne)⟩
section
variable {X : Cx} {e o a : Expr} {σ : L2.St} {H : Hp} {Q : VK} {pos : Pos}
theorem ev_above (R : RW X.K mg cs) (q : EV X o σ H fun x H1 => ∃ q, RatV X.K H1 x q ∧ Q (.int q.num) H1) (hb : attributeBase o "above" X.env (eval o X.env) = eval o X.env := by rfl) : EV X (.Attribute o "above" pos) σ H Q := by
  refine ev_slot (ev_mono q fun x H1 h => ?_) hb
  obtain ⟨q, hq, h⟩ := h
  obtain ⟨a, dx, rfl, hs⟩ := hq.slt
  exact ⟨a, _, dx, _, _, _, _, rfl, hs, R.num.sc, R.s0, rfl, h⟩
theorem ev_below (R : RW X.K mg cs) (q : EV X o σ H fun x H1 => ∃ q, RatV X.K H1 x q ∧ Q (.int q.den) H1) (hb : attributeBase o "below" X.env (eval o X.env) = eval o X.env := by rfl) : EV X (.Attribute o "below" pos) σ H Q := by
  refine ev_slot (ev_mono q fun x H1 h => ?_) hb
  obtain ⟨q, hq, h⟩ := h
  obtain ⟨a, dx, rfl, hs⟩ := hq.slt
  exact ⟨a, _, dx, _, _, _, _, rfl, hs, R.num.sc, R.s1, rfl, h⟩
end
/-- a number: an int or a Ratio -/
def NumV (K : PySem.W.Frag) (H : Hp) (v : V) (q : Rat) : Prop := (∃ i : Int, v = .int i ∧ q = (i : Rat)) ∨ RatV K H v q
theorem NumV.same {H H' : Hp} {v : V} {q : Rat} (h : NumV K H v q) (e : Same H H') : NumV K H' v q := h.imp id fun r => r.same e
def sp_is_number (K : PySem.W.Frag) (cs : List Addr) : Sp := fun vs H Q _ => ∃ x k, vs = [x] ∧ HasK K cs H x k ∧ Q (.bl (decide (k = .int ∨ k = .own (CR K)))) H
theorem ok_is_number (B : Blt mg) (R : RW K mg cs) (gi : GF P w K mg base 1 "is_integer" (sp_is_integer K cs)) (F : FD K d_is_number fd) : FnG P w K mg base 2 (d_is_number.at_ K) (sp_is_number K cs) := by
  have S : FnScope ["value"] ["value"] (defScope d_is_number.st) := sc_ok (by decide +kernel)
  refine okG (dv := []) (ds := []) F S (FunD.bindsN F fun _ _ _ _ _ _ us hl => match us, hl with | [_], _ => rfl) .nil (fun vs H Q E h => ?_) (fun cdv A outer s H vs Q E hr h => ?_)
  · obtain ⟨a, b, rfl, _⟩ := h; rfl
  obtain ⟨x, k, rfl, hk, q⟩ := h
  refine ex_bv ?_
  walk_at "hv s"
  refine ev_call gi hr (by decide) rfl passL ?_
  walk_at "hv s"
  refine ⟨x, k, rfl, hk, ?_⟩
  walk_at "hv s"
  refine ite_dec (fun h => ?_) (fun h => ?_)
  · rw [decide_eq_true (.inl h)] at q
    rw [decide_eq_true h]
    exact q
  · walk_at "hv s"
    refine ev_gl rfl R.gl (v := .ref (CR K)) rfl ?_
    walk_at "hv s"
    refine cv_isO R.csk hk R.mem ?_
    simpa [h] using q
def sp_ratio_of (K : PySem.W.Frag) : Sp := fun vs H Q _ => ∃ x q, vs = [x] ∧ NumV K H x q ∧ Sz 3000 q ∧ ∀ v H', RatV K H' v q → Same H H' → Q v H'
theorem ok_ratio_of (B : Blt mg) (R : RW K mg cs) (g1 : GM P w K mg base 2 "Ratio" (sp_mk1 K)) (F : FD K d_ratio_of fd) : FnG P w K mg base 4 (d_ratio_of.at_ K) (sp_ratio_of K) := by
  have S : FnScope ["number"] ["number"] (defScope d_ratio_of.st) := sc_ok (by decide +kernel)
  refine okG (dv := []) (ds := []) F S (FunD.bindsN F fun _ _ _ _ _ _ us hl => match us, hl with | [_], _ => rfl) .nil (fun vs H Q E h => ?_) (fun cdv A outer s H vs Q E hr h => ?_)
  · obtain ⟨a, b, rfl, _⟩ := h; rfl
  obtain ⟨x, q, rfl, hk, hz, h⟩ := h
  refine ex_bv ?_
  walk_at "hv s"
  rcases hk with ⟨i, rfl, rfl⟩ | hk
  · refine cv_isT R.csk (.int i) (by decide) ?_
    refine ex_bl ?_
    refine iteT ?_
    refine ev_make g1 hr (by decide) rfl passL ?_
    walk_at "hv s"
    exact ⟨_, rfl, Nat.lt_of_lt_of_le hz.1 (Nat.pow_le_pow_right (by decide) (by decide)), h⟩
  · refine cv_isT R.csk (R.kr hk) (by decide) ?_
    refine ex_bl ?_
    try refine iteF ?_
    walk_at "hv s"
    exact h _ _ hk (Same.refl _)
/-- two Ratios in, one out -/
def sp_rat2 (K : PySem.W.Frag) (g : Rat → Rat → Rat) : Sp := fun vs H Q _ => ∃ x y p q, vs = [x, y] ∧ RatV K H x p ∧ RatV K H y q ∧ Sz 3000 p ∧ Sz 3000 q ∧ ∀ v H', RatV K H' v (g p q) → Same H H' → Q v H'
def sp_spacing (K : PySem.W.Frag) : Sp := fun vs H Q _ => ∃ x y p q, vs = [x, y] ∧ RatV K H x p ∧ NumV K H y q ∧ Sz 3000 p ∧ Sz 3000 q ∧ ∀ H', Same H H' → Q (.int (p.num * q.den - q.num * p.den)) H'
/-- a Ratio and a number in, a Ratio out -/
def sp_ratn (K : PySem.W.Frag) (g : Rat → Rat → Rat) : Sp := fun vs H Q _ => ∃ x y p q, vs = [x, y] ∧ RatV K H x p ∧ NumV K H y q ∧ Sz 3000 p ∧ Sz 3000 q ∧ ∀ v H', RatV K H' v (g p q) → Same H H' → Q v H'
def sp_ratc (K : PySem.W.Frag) (g : Rat → Rat → Bool) : Sp := fun vs H Q _ => ∃ x y p q, vs = [x, y] ∧ RatV K H x p ∧ NumV K H y q ∧ Sz 3000 p ∧ Sz 3000 q ∧ ∀ H', Same H H' → Q (.bl (g p q)) H'
def sp_rat1 (K : PySem.W.Frag) (g : Rat → Rat) : Sp := fun vs H Q _ => ∃ x p, vs = [x] ∧ RatV K H x p ∧ Sz 3000 p ∧ ∀ v H', RatV K H' v (g p) → Same H H' → Q v H'
theorem m11 {p q : Rat} (hp : Sz 3000 p) (hq : Sz 3000 q) : CMulW p.num q.den := wide_mul hp.1 (den_abs hq) (by decide) (by decide) (by decide)
theorem m22 {p q : Rat} (hp : Sz 3000 p) (hq : Sz 3000 q) : CMulW p.num q.num := wide_mul hp.1 hq.1 (by decide) (by decide) (by decide)
theorem m33 {p q : Rat} (hp : Sz 3000 p) (hq : Sz 3000 q) : CMulW p.den q.den := wide_mul (den_abs hp) (den_abs hq) (by decide) (by decide) (by decide)
local macro_rules | `(tactic| walk_at "hv side") => `(tactic| first | exact m11 (by assumption) (by assumption) | exact m22 (by assumption) (by assumption) | exact m33 (by assumption) (by assumption))
local macro_rules | `(tactic| walk_at "hv rat") => `(tactic| first
  | assumption
  | ((with_reducible refine' RatV.nw ?a ?b); (case a => with_reducible assumption); (case b => walk_at "hv rat"))
  | ((with_reducible refine' RatV.sm ?a ?b); (case a => with_reducible assumption); (case b => walk_at "hv rat")))
local macro_rules | `(tactic| walk_at "hv fld") => `(tactic| first
  | ((refine ev_above (by assumption) ?_); (walk_at "hv name"); (refine ⟨_, by walk_at "hv rat", ?_⟩))
  | ((refine ev_below (by assumption) ?_); (walk_at "hv name"); (refine ⟨_, by walk_at "hv rat", ?_⟩)))
local macro_rules | `(tactic| walk_at "hv r") => `(tactic| (repeat (first | (walk_at "hv fld") | (walk_at "hv one"))))
theorem ok_plus (R : RW K mg cs) (g2 : GM P w K mg base 2 "Ratio" (sp_mk2 K)) (F : FD K d_plus fd) : FnG P w K mg base 4 (d_plus.at_ K) (sp_rat2 K fun p q => p + q) := by
  have S : FnScope ["one", "other"] ["one", "other"] (defScope d_plus.st) := sc_ok (by decide +kernel)
  refine okG (dv := []) (ds := []) F S (FunD.bindsN F fun _ _ _ _ _ _ us hl => match us, hl with | [_, _], _ => rfl) .nil (fun vs H Q E h => ?_) (fun cdv A outer s H vs Q E hr h => ?_)
  · obtain ⟨_, _, _, _, rfl, _⟩ := h; rfl
  obtain ⟨x, y, p, q, rfl, hx, hy, zp, zq, h⟩ := h
  refine ex_bv ?_
  walk_at "hv r"
  refine ev_make g2 hr (by decide) rfl passL ?_
  walk_at "hv r"
  refine ⟨_, _, rfl, den_mul_ne p q, up (add_num_lt zp zq) (by decide), up (dens_lt zp zq) (by decide), fun v H' hv e => ?_⟩
  rw [add_form] at hv
  exact h v H' hv e
theorem ok_minus (R : RW K mg cs) (g2 : GM P w K mg base 2 "Ratio" (sp_mk2 K)) (F : FD K d_minus fd) : FnG P w K mg base 4 (d_minus.at_ K) (sp_rat2 K fun p q => p - q) := by
  have S : FnScope ["one", "other"] ["one", "other"] (defScope d_minus.st) := sc_ok (by decide +kernel)
  refine okG (dv := []) (ds := []) F S (FunD.bindsN F fun _ _ _ _ _ _ us hl => match us, hl with | [_, _], _ => rfl) .nil (fun vs H Q E h => ?_) (fun cdv A outer s H vs Q E hr h => ?_)
  · obtain ⟨_, _, _, _, rfl, _⟩ := h; rfl
  obtain ⟨x, y, p, q, rfl, hx, hy, zp, zq, h⟩ := h
  refine ex_bv ?_
  walk_at "hv r"
  refine ev_make g2 hr (by decide) rfl passL ?_
  walk_at "hv r"
  refine ⟨_, _, rfl, den_mul_ne p q, up (sub_num_lt zp zq) (by decide), up (dens_lt zp zq) (by decide), fun v H' hv e => ?_⟩
  rw [sub_form] at hv
  exact h v H' hv e
theorem ok_times (R : RW K mg cs) (g2 : GM P w K mg base 2 "Ratio" (sp_mk2 K)) (F : FD K d_times fd) : FnG P w K mg base 4 (d_times.at_ K) (sp_rat2 K fun p q => p * q) := by
  have S : FnScope ["one", "other"] ["one", "other"] (defScope d_times.st) := sc_ok (by decide +kernel)
  refine okG (dv := []) (ds := []) F S (FunD.bindsN F fun _ _ _ _ _ _ us hl => match us, hl with | [_, _], _ => rfl) .nil (fun vs H Q E h => ?_) (fun cdv A outer s H vs Q E hr h => ?_)
  · obtain ⟨_, _, _, _, rfl, _⟩ := h; rfl
  obtain ⟨x, y, p, q, rfl, hx, hy, zp, zq, h⟩ := h
  refine ex_bv ?_
  walk_at "hv r"
  refine ev_make g2 hr (by decide) rfl passL ?_
  walk_at "hv r"
  refine ⟨_, _, rfl, den_mul_ne p q, up (mul_num_lt zp zq) (by decide), up (dens_lt zp zq) (by decide), fun v H' hv e => ?_⟩
  rw [mul_form] at hv
  exact h v H' hv e
theorem ok_spacing (R : RW K mg cs) (gr : GF P w K mg base 4 "ratio_of" (sp_ratio_of K)) (F : FD K d_spacing fd) : FnG P w K mg base 5 (d_spacing.at_ K) (sp_spacing K) := by
  have S : FnScope ["one", "other", "beside"] ["one", "other"] (defScope d_spacing.st) := sc_ok (by decide +kernel)
  refine okG (ps := ["one", "other"]) (dv := []) (ds := []) F S (FunD.bindsN F fun _ _ _ _ _ _ us hl => match us, hl with | [_, _], _ => rfl) .nil (fun vs H Q E h => ?_) (fun cdv A outer s H vs Q E hr h => ?_)
  · obtain ⟨_, _, _, _, rfl, _⟩ := h; rfl
  obtain ⟨x, y, p, q, rfl, hx, hy, zp, zq, h⟩ := h
  refine ex_bv ?_
  walk_at "hv r"
  refine ev_call gr hr (by decide) rfl passL ?_
  walk_at "hv r"
  refine ⟨_, _, rfl, hy, zq, fun v H1 hv e => ?_⟩
  walk_at "hv r"
  exact h _ e
theorem NumV.kind (R : RW K mg cs) {H : Hp} {v : V} {q : Rat} (h : NumV K H v q) : ∃ k, HasK K cs H v k ∧ (k = .int ∨ k = .own (CR K)) := by
  rcases h with ⟨i, rfl, _⟩ | h
  · exact ⟨_, .int i, .inl rfl⟩
  · exact ⟨_, R.kr h, .inr rfl⟩
theorem sp_is_num {H : Hp} {v : V} {q : Rat} {Q : VK} {E : XK} (R : RW K mg cs) (h : NumV K H v q) (hq : Q (.bl true) H) : sp_is_number K cs [v] H Q E := by
  obtain ⟨k, h1, h2⟩ := h.kind R
  refine ⟨v, k, rfl, h1, ?_⟩
  rw [decide_eq_true h2]
  exact hq
theorem ok_Ratio___add__ (R : RW K mg cs) (gn : GF P w K mg base 2 "is_number" (sp_is_number K cs)) (gr : GF P w K mg base 4 "ratio_of" (sp_ratio_of K)) (gp : GF P w K mg base 4 "plus" (sp_rat2 K fun p q => p + q)) (F : FD K d_Ratio___add__ fd) : FnG P w K mg base 6 (d_Ratio___add__.at_ K) (sp_ratn K fun p q => p + q) := by
  have S : FnScope ["self", "other"] ["self", "other"] (defScope d_Ratio___add__.st) := sc_ok (by decide +kernel)
  refine okG (dv := []) (ds := []) F S (FunD.bindsN F fun _ _ _ _ _ _ us hl => match us, hl with | [_, _], _ => rfl) .nil (fun vs H Q E h => ?_) (fun cdv A outer s H vs Q E hr h => ?_)
  · obtain ⟨_, _, _, _, rfl, _⟩ := h; rfl
  obtain ⟨x, y, p, q, rfl, hx, hy, zp, zq, h⟩ := h
  refine ex_bv ?_
  walk_at "hv r"
  refine ev_call gn hr (by decide) rfl passL ?_
  walk_at "hv r"
  refine sp_is_num R hy ?_
  walk_at "hv r"
  try refine iteF ?_
  walk_at "hv r"
  refine ev_call gp hr (by decide) rfl passL ?_
  walk_at "hv r"
  refine ev_call gr hr (by decide) rfl passL ?_
  walk_at "hv r"
  refine ⟨_, _, rfl, hy, zq, fun v H1 hv e => ?_⟩
  walk_at "hv r"
  exact ⟨_, _, _, _, rfl, hx.same e, hv, zp, zq, fun v H2 hv e2 => h v H2 hv (e.trans e2)⟩
theorem ok_Ratio___radd__ (R : RW K mg cs) (gn : GF P w K mg base 2 "is_number" (sp_is_number K cs)) (gr : GF P w K mg base 4 "ratio_of" (sp_ratio_of K)) (gp : GF P w K mg base 4 "plus" (sp_rat2 K fun p q => p + q)) (F : FD K d_Ratio___radd__ fd) : FnG P w K mg base 6 (d_Ratio___radd__.at_ K) (sp_ratn K fun p q => p + q) := by
  have S : FnScope ["self", "other"] ["self", "other"] (defScope d_Ratio___radd__.st) := sc_ok (by decide +kernel)
  refine okG (dv := []) (ds := []) F S (FunD.bindsN F fun _ _ _ _ _ _ us hl => match us, hl with | [_, _], _ => rfl) .nil (fun vs H Q E h => ?_) (fun cdv A outer s H vs Q E hr h => ?_)
  · obtain ⟨_, _, _, _, rfl, _⟩ := h; rfl
  obtain ⟨x, y, p, q, rfl, hx, hy, zp, zq, h⟩ := h
  refine ex_bv ?_
  walk_at "hv r"
  refine ev_call gn hr (by decide) rfl passL ?_
  walk_at "hv r"
  refine sp_is_num R hy ?_
  walk_at "hv r"
  try refine iteF ?_
  walk_at "hv r"
  refine ev_call gp hr (by decide) rfl passL ?_
  walk_at "hv r"
  refine ev_call gr hr (by decide) rfl passL ?_
  walk_at "hv r"
  refine ⟨_, _, rfl, hy, zq, fun v H1 hv e => ?_⟩
  walk_at "hv r"
  exact ⟨_, _, _, _, rfl, hx.same e, hv, zp, zq, fun v H2 hv e2 => h v H2 hv (e.trans e2)⟩
theorem ok_Ratio___sub__ (R : RW K mg cs) (gn : GF P w K mg base 2 "is_number" (sp_is_number K cs)) (gr : GF P w K mg base 4 "ratio_of" (sp_ratio_of K)) (gp : GF P w K mg base 4 "minus" (sp_rat2 K fun p q => p - q)) (F : FD K d_Ratio___sub__ fd) : FnG P w K mg base 6 (d_Ratio___sub__.at_ K) (sp_ratn K fun p q => p - q) := by
  have S : FnScope ["self", "other"] ["self", "other"] (defScope d_Ratio___sub__.st) := sc_ok (by decide +kernel)
  refine okG (dv := []) (ds := []) F S (FunD.bindsN F fun _ _ _ _ _ _ us hl => match us, hl with | [_, _], _ => rfl) .nil (fun vs H Q E h => ?_) (fun cdv A outer s H vs Q E hr h => ?_)
  · obtain ⟨_, _, _, _, rfl, _⟩ := h; rfl
  obtain ⟨x, y, p, q, rfl, hx, hy, zp, zq, h⟩ := h
  refine ex_bv ?_
  walk_at "hv r"
  refine ev_call gn hr (by decide) rfl passL ?_
  walk_at "hv r"
  refine sp_is_num R hy ?_
  walk_at "hv r"
  try refine iteF ?_
  walk_at "hv r"
  refine ev_call gp hr (by decide) rfl passL ?_
  walk_at "hv r"
  refine ev_call gr hr (by decide) rfl passL ?_
  walk_at "hv r"
  refine ⟨_, _, rfl, hy, zq, fun v H1 hv e => ?_⟩
  walk_at "hv r"
  exact ⟨_, _, _, _, rfl, hx.same e, hv, zp, zq, fun v H2 hv e2 => h v H2 hv (e.trans e2)⟩
theorem ok_Ratio___rsub__ (R : RW K mg cs) (gn : GF P w K mg base 2 "is_number" (sp_is_number K cs)) (gr : GF P w K mg base 4 "ratio_of" (sp_ratio_of K)) (gp : GF P w K mg base 4 "minus" (sp_rat2 K fun p q => p - q)) (F : FD K d_Ratio___rsub__ fd) : FnG P w K mg base 6 (d_Ratio___rsub__.at_ K) (sp_ratn K fun p q => q - p) := by
  have S : FnScope ["self", "other"] ["self", "other"] (defScope d_Ratio___rsub__.st) := sc_ok (by decide +kernel)
  refine okG (dv := []) (ds := []) F S (FunD.bindsN F fun _ _ _ _ _ _ us hl => match us, hl with | [_, _], _ => rfl) .nil (fun vs H Q E h => ?_) (fun cdv A outer s H vs Q E hr h => ?_)
  · obtain ⟨_, _, _, _, rfl, _⟩ := h; rfl
  obtain ⟨x, y, p, q, rfl, hx, hy, zp, zq, h⟩ := h
  refine ex_bv ?_
  walk_at "hv r"
  refine ev_call gn hr (by decide) rfl passL ?_
  walk_at "hv r"
  refine sp_is_num R hy ?_
  walk_at "hv r"
  try refine iteF ?_
  walk_at "hv r"
  refine ev_call gp hr (by decide) rfl passL ?_
  walk_at "hv r"
  refine ev_call gr hr (by decide) rfl passL ?_
  walk_at "hv r"
  refine ⟨_, _, rfl, hy, zq, fun v H1 hv e => ?_⟩
  walk_at "hv r"
  exact ⟨_, _, _, _, rfl, hv, hx.same e, zq, zp, fun v H2 hv e2 => h v H2 hv (e.trans e2)⟩
theorem ok_Ratio___mul__ (R : RW K mg cs) (gn : GF P w K mg base 2 "is_number" (sp_is_number K cs)) (gr : GF P w K mg base 4 "ratio_of" (sp_ratio_of K)) (gp : GF P w K mg base 4 "times" (sp_rat2 K fun p q => p * q)) (F : FD K d_Ratio___mul__ fd) : FnG P w K mg base 6 (d_Ratio___mul__.at_ K) (sp_ratn K fun p q => p * q) := by
  have S : FnScope ["self", "other"] ["self", "other"] (defScope d_Ratio___mul__.st) := sc_ok (by decide +kernel)
  refine okG (dv := []) (ds := []) F S (FunD.bindsN F fun _ _ _ _ _ _ us hl => match us, hl with | [_, _], _ => rfl) .nil (fun vs H Q E h => ?_) (fun cdv A outer s H vs Q E hr h => ?_)
  · obtain ⟨_, _, _, _, rfl, _⟩ := h; rfl
  obtain ⟨x, y, p, q, rfl, hx, hy, zp, zq, h⟩ := h
  refine ex_bv ?_
  walk_at "hv r"
  refine ev_call gn hr (by decide) rfl passL ?_
  walk_at "hv r"
  refine sp_is_num R hy ?_
  walk_at "hv r"
  try refine iteF ?_
  walk_at "hv r"
  refine ev_call gp hr (by decide) rfl passL ?_
  walk_at "hv r"
  refine ev_call gr hr (by decide) rfl passL ?_
  walk_at "hv r"
  refine ⟨_, _, rfl, hy, zq, fun v H1 hv e => ?_⟩
  walk_at "hv r"
  exact ⟨_, _, _, _, rfl, hx.same e, hv, zp, zq, fun v H2 hv e2 => h v H2 hv (e.trans e2)⟩
theorem ok_Ratio___rmul__ (R : RW K mg cs) (gn : GF P w K mg base 2 "is_number" (sp_is_number K cs)) (gr : GF P w K mg base 4 "ratio_of" (sp_ratio_of K)) (gp : GF P w K mg base 4 "times" (sp_rat2 K fun p q => p * q)) (F : FD K d_Ratio___rmul__ fd) : FnG P w K mg base 6 (d_Ratio___rmul__.at_ K) (sp_ratn K fun p q => p * q) := by
  have S : FnScope ["self", "other"] ["self", "other"] (defScope d_Ratio___rmul__.st) := sc_ok (by decide +kernel)
  refine okG (dv := []) (ds := []) F S (FunD.bindsN F fun _ _ _ _ _ _ us hl => match us, hl with | [_, _], _ => rfl) .nil (fun vs H Q E h => ?_) (fun cdv A outer s H vs Q E hr h => ?_)
  · obtain ⟨_, _, _, _, rfl, _⟩ := h; rfl
  obtain ⟨x, y, p, q, rfl, hx, hy, zp, zq, h⟩ := h
  refine ex_bv ?_
  walk_at "hv r"
  refine ev_call gn hr (by decide) rfl passL ?_
  walk_at "hv r"
  refine sp_is_num R hy ?_
  walk_at "hv r"
  try refine iteF ?_
  walk_at "hv r"
  refine ev_call gp hr (by decide) rfl passL ?_
  walk_at "hv r"
  refine ev_call gr hr (by decide) rfl passL ?_
  walk_at "hv r"
  refine ⟨_, _, rfl, hy, zq, fun v H1 hv e => ?_⟩
  walk_at "hv r"
  exact ⟨_, _, _, _, rfl, hx.same e, hv, zp, zq, fun v H2 hv e2 => h v H2 hv (e.trans e2)⟩
theorem sp_lt {p q : Rat} : (p.num * q.den - q.num * p.den < 0) = (p < q) := by
  rw [Rat.lt_iff]
  exact propext ⟨fun h => by omega, fun h => by omega⟩
theorem sp_le {p q : Rat} : (p.num * q.den - q.num * p.den ≤ 0) = (p ≤ q) := by
  rw [Rat.le_iff]
  exact propext ⟨fun h => by omega, fun h => by omega⟩
theorem sp_gt {p q : Rat} : (0 < p.num * q.den - q.num * p.den) = (q < p) := by
  rw [Rat.lt_iff]
  exact propext ⟨fun h => by omega, fun h => by omega⟩
theorem sp_ge {p q : Rat} : (0 ≤ p.num * q.den - q.num * p.den) = (q ≤ p) := by
  rw [Rat.le_iff]
  exact propext ⟨fun h => by omega, fun h => by omega⟩
theorem dec_of {a b : Prop} [Decidable a] [Decidable b] (e : a = b) : decide a = decide b := decide_eq_decide.mpr (by rw [e])
theorem ok_Ratio___lt__ (R : RW K mg cs) (gn : GF P w K mg base 2 "is_number" (sp_is_number K cs)) (gs : GF P w K mg base 5 "spacing" (sp_spacing K)) (F : FD K d_Ratio___lt__ fd) : FnG P w K mg base 6 (d_Ratio___lt__.at_ K) (sp_ratc K fun p q => decide (p < q)) := by
  have S : FnScope ["self", "other"] ["self", "other"] (defScope d_Ratio___lt__.st) := sc_ok (by decide +kernel)
  refine okG (dv := []) (ds := []) F S (FunD.bindsN F fun _ _ _ _ _ _ us hl => match us, hl with | [_, _], _ => rfl) .nil (fun vs H Q E h => ?_) (fun cdv A outer s H vs Q E hr h => ?_)
  · obtain ⟨_, _, _, _, rfl, _⟩ := h; rfl
  obtain ⟨x, y, p, q, rfl, hx, hy, zp, zq, h⟩ := h
  refine ex_bv ?_
  walk_at "hv r"
  refine ev_call gn hr (by decide) rfl passL ?_
  walk_at "hv r"
  refine sp_is_num R hy ?_
  walk_at "hv r"
  try refine iteF ?_
  walk_at "hv r"
  refine ev_call gs hr (by decide) rfl passL ?_
  walk_at "hv r"
  refine ⟨_, _, _, _, rfl, hx, hy, zp, zq, fun H1 e => ?_⟩
  walk_at "hv r"
  rw [dec_of sp_lt]
  exact h _ e
theorem ok_Ratio___le__ (R : RW K mg cs) (gn : GF P w K mg base 2 "is_number" (sp_is_number K cs)) (gs : GF P w K mg base 5 "spacing" (sp_spacing K)) (F : FD K d_Ratio___le__ fd) : FnG P w K mg base 6 (d_Ratio___le__.at_ K) (sp_ratc K fun p q => decide (p ≤ q)) := by
  have S : FnScope ["self", "other"] ["self", "other"] (defScope d_Ratio___le__.st) := sc_ok (by decide +kernel)
  refine okG (dv := []) (ds := []) F S (FunD.bindsN F fun _ _ _ _ _ _ us hl => match us, hl with | [_, _], _ => rfl) .nil (fun vs H Q E h => ?_) (fun cdv A outer s H vs Q E hr h => ?_)
  · obtain ⟨_, _, _, _, rfl, _⟩ := h; rfl
  obtain ⟨x, y, p, q, rfl, hx, hy, zp, zq, h⟩ := h
  refine ex_bv ?_
  walk_at "hv r"
  refine ev_call gn hr (by decide) rfl passL ?_
  walk_at "hv r"
  refine sp_is_num R hy ?_
  walk_at "hv r"
  try refine iteF ?_
  walk_at "hv r"
  refine ev_call gs hr (by decide) rfl passL ?_
  walk_at "hv r"
  refine ⟨_, _, _, _, rfl, hx, hy, zp, zq, fun H1 e => ?_⟩
  walk_at "hv r"
  rw [dec_of sp_le]
  exact h _ e
theorem ok_Ratio___gt__ (R : RW K mg cs) (gn : GF P w K mg base 2 "is_number" (sp_is_number K cs)) (gs : GF P w K mg base 5 "spacing" (sp_spacing K)) (F : FD K d_Ratio___gt__ fd) : FnG P w K mg base 6 (d_Ratio___gt__.at_ K) (sp_ratc K fun p q => decide (q < p)) := by
  have S : FnScope ["self", "other"] ["self", "other"] (defScope d_Ratio___gt__.st) := sc_ok (by decide +kernel)
  refine okG (dv := []) (ds := []) F S (FunD.bindsN F fun _ _ _ _ _ _ us hl => match us, hl with | [_, _], _ => rfl) .nil (fun vs H Q E h => ?_) (fun cdv A outer s H vs Q E hr h => ?_)
  · obtain ⟨_, _, _, _, rfl, _⟩ := h; rfl
  obtain ⟨x, y, p, q, rfl, hx, hy, zp, zq, h⟩ := h
  refine ex_bv ?_
  walk_at "hv r"
  refine ev_call gn hr (by decide) rfl passL ?_
  walk_at "hv r"
  refine sp_is_num R hy ?_
  walk_at "hv r"
  try refine iteF ?_
  walk_at "hv r"
  refine ev_call gs hr (by decide) rfl passL ?_
  walk_at "hv r"
  refine ⟨_, _, _, _, rfl, hx, hy, zp, zq, fun H1 e => ?_⟩
  walk_at "hv r"
  rw [dec_of sp_gt]
  exact h _ e
theorem ok_Ratio___ge__ (R : RW K mg cs) (gn : GF P w K mg base 2 "is_number" (sp_is_number K cs)) (gs : GF P w K mg base 5 "spacing" (sp_spacing K)) (F : FD K d_Ratio___ge__ fd) : FnG P w K mg base 6 (d_Ratio___ge__.at_ K) (sp_ratc K fun p q => decide (q ≤ p)) := by
  have S : FnScope ["self", "other"] ["self", "other"] (defScope d_Ratio___ge__.st) := sc_ok (by decide +kernel)
  refine okG (dv := []) (ds := []) F S (FunD.bindsN F fun _ _ _ _ _ _ us hl => match us, hl with | [_, _], _ => rfl) .nil (fun vs H Q E h => ?_) (fun cdv A outer s H vs Q E hr h => ?_)
  · obtain ⟨_, _, _, _, rfl, _⟩ := h; rfl
  obtain ⟨x, y, p, q, rfl, hx, hy, zp, zq, h⟩ := h
  refine ex_bv ?_
  walk_at "hv r"
  refine ev_call gn hr (by decide) rfl passL ?_
  walk_at "hv r"
  refine sp_is_num R hy ?_
  walk_at "hv r"
  try refine iteF ?_
  walk_at "hv r"
  refine ev_call gs hr (by decide) rfl passL ?_
  walk_at "hv r"
  refine ⟨_, _, _, _, rfl, hx, hy, zp, zq, fun H1 e => ?_⟩
  walk_at "hv r"
  rw [dec_of sp_ge]
  exact h _ e
theorem ok_Ratio___neg__ (R : RW K mg cs) (g2 : GM P w K mg base 2 "Ratio" (sp_mk2 K)) (F : FD K d_Ratio___neg__ fd) : FnG P w K mg base 6 (d_Ratio___neg__.at_ K) (sp_rat1 K fun p => -p) := by
  have S : FnScope ["self"] ["self"] (defScope d_Ratio___neg__.st) := sc_ok (by decide +kernel)
  refine okG (dv := []) (ds := []) F S (FunD.bindsN F fun _ _ _ _ _ _ us hl => match us, hl with | [_], _ => rfl) .nil (fun vs H Q E h => ?_) (fun cdv A outer s H vs Q E hr h => ?_)
  · obtain ⟨_, _, rfl, _⟩ := h; rfl
  obtain ⟨x, p, rfl, hx, zp, h⟩ := h
  refine ex_bv ?_
  walk_at "hv r"
  refine ev_make g2 hr (by decide) rfl passL ?_
  walk_at "hv r"
  refine ⟨_, _, rfl, den_ne p, ?_, up (den_abs zp) (by decide), fun v H' hv e => ?_⟩
  · rw [Int.natAbs_neg]
    exact up zp.1 (by decide)
  · rw [← Rat.neg_divInt, Rat.num_divInt_den] at hv
    exact h v H' hv e
theorem ok_Ratio___abs__ (R : RW K mg cs) (g2 : GM P w K mg base 2 "Ratio" (sp_mk2 K)) (F : FD K d_Ratio___abs__ fd) : FnG P w K mg base 6 (d_Ratio___abs__.at_ K) (sp_rat1 K fun p => if p < 0 then -p else p) := by
  have S : FnScope ["self"] ["self"] (defScope d_Ratio___abs__.st) := sc_ok (by decide +kernel)
  refine okG (dv := []) (ds := []) F S (FunD.bindsN F fun _ _ _ _ _ _ us hl => match us, hl with | [_], _ => rfl) .nil (fun vs H Q E h => ?_) (fun cdv A outer s H vs Q E hr h => ?_)
  · obtain ⟨_, _, rfl, _⟩ := h; rfl
  obtain ⟨x, p, rfl, hx, zp, h⟩ := h
  have B := R.B
  refine ex_bv ?_
  walk_at "hv r"
  refine ev_make g2 hr (by decide) rfl passL ?_
  walk_at "hv r"
  refine ⟨_, _, rfl, den_ne p, ?_, up (den_abs zp) (by decide), fun v H' hv e => ?_⟩
  · exact up zp.1 (by decide)
  · refine h v H' ?_ e
    dsimp only
    split
    · rename_i hp
      have : p.num < 0 := Int.not_le.mp fun z => absurd hp (Rat.not_lt.mpr (Rat.num_nonneg.mp z))
      rw [show ((p.num.natAbs : Nat) : Int) = -p.num by omega, ← Rat.neg_divInt, Rat.num_divInt_den] at hv
      exact hv
    · rename_i hp
      have : 0 ≤ p.num := Rat.num_nonneg.mpr (Rat.not_lt.mp hp)
      rw [show ((p.num.natAbs : Nat) : Int) = p.num by omega, Rat.num_divInt_den] at hv
      exact hv
theorem ok_Ratio_number (R : RW K mg cs) (F : FD K d_Ratio_number fd) : FnG P w K mg base 1 (d_Ratio_number.at_ K) (fun vs H Q _ => ∃ x p, vs = [x] ∧ RatV K H x p ∧ Q (.int p.num) H) := by
  have S : FnScope ["self"] ["self"] (defScope d_Ratio_number.st) := sc_ok (by decide +kernel)
  refine okG (dv := []) (ds := []) F S (FunD.bindsN F fun _ _ _ _ _ _ us hl => match us, hl with | [_], _ => rfl) .nil (fun vs H Q E h => ?_) (fun cdv A outer s H vs Q E hr h => ?_)
  · obtain ⟨_, _, rfl, _⟩ := h; rfl
  obtain ⟨x, p, rfl, hx, h⟩ := h
  refine ex_bv ?_
  walk_at "hv r"
  exact h
theorem ok_Ratio_under (R : RW K mg cs) (F : FD K d_Ratio_under fd) : FnG P w K mg base 1 (d_Ratio_under.at_ K) (fun vs H Q _ => ∃ x p, vs = [x] ∧ RatV K H x p ∧ Q (.int (p.den : Int)) H) := by
  have S : FnScope ["self"] ["self"] (defScope d_Ratio_under.st) := sc_ok (by decide +kernel)
  refine okG (dv := []) (ds := []) F S (FunD.bindsN F fun _ _ _ _ _ _ us hl => match us, hl with | [_], _ => rfl) .nil (fun vs H Q E h => ?_) (fun cdv A outer s H vs Q E hr h => ?_)
  · obtain ⟨_, _, rfl, _⟩ := h; rfl
  obtain ⟨x, p, rfl, hx, h⟩ := h
  refine ex_bv ?_
  walk_at "hv r"
  exact h
end
end HvP
/-! using Ratios: operators, comparisons, properties, methods -/
namespace HvP
open PySem PySem.Spec PyProof.Rows L2 Hv HvT SlX
local macro_rules | `(tactic| walk_at "hv name") => `(tactic| first
  | refine ev_var 0 (pv 0) rfl ?_ | refine ev_var 1 (pv 1) rfl ?_ | refine ev_var 2 (pv 2) rfl ?_ | refine ev_var 3 (pv 3) rfl ?_ | refine ev_var 4 (pv 4) rfl ?_
  | refine ev_var 5 (pv 5) rfl ?_ | refine ev_var 6 (pv 6) rfl ?_ | refine ev_var 7 (pv 7) rfl ?_ | refine ev_var 8 (pv 8) rfl ?_ | refine ev_var 9 (pv 9) rfl ?_
  | refine ev_var 10 (pv 10) rfl ?_ | refine ev_var 11 (pv 11) rfl ?_ | refine ev_var 12 (pv 12) rfl ?_ | refine ev_var 13 (pv 13) rfl ?_ | refine ev_var 14 (pv 14) rfl ?_)
local macro_rules | `(tactic| walk_at "hv hp") => `(tactic| first
  | with_reducible assumption
  | with_reducible exact upd_same
  | ((with_reducible refine' upd_keep ?a ?b); (case a => with_reducible assumption); (case b => walk_at "hv hp"))
  | ((with_reducible refine' Same.get ?a ?b); (case a => with_reducible assumption); (case b => walk_at "hv hp"))
  | ((with_reducible refine' ExB.gt ?a ?b ?c); (case a => with_reducible assumption); (case b => walk_at "hv hp"); (case c => walk_at "hv ne")))
local macro_rules | `(tactic| walk_at "hv ne") => `(tactic| first
  | assumption
  | (exact ne_of_none (by assumption) (by assumption))
  | (refine ne_of (by assumption) (by assumption) ?_; (intro hx; cases hx; done)))
local macro_rules | `(tactic| walk_at "hv same") => `(tactic| first
  | with_reducible assumption
  | with_reducible exact Same.refl _
  | ((with_reducible refine' Same.nw ?a ?b); (case a => with_reducible assumption); (case b => walk_at "hv same"))
  | ((with_reducible refine' Same.tr ?a ?b); (case a => with_reducible assumption); (case b => walk_at "hv same")))
local macro_rules | `(tactic| walk_at "hv exb") => `(tactic| first
  | with_reducible assumption
  | with_reducible exact ExB.refl _ _
  | ((with_reducible refine' ExB.nw ?a ?b); (case a => with_reducible assumption); (case b => walk_at "hv exb"))
  | ((with_reducible refine' ExB.trs ?a ?b); (case a => with_reducible assumption); (case b => walk_at "hv exb"))
  | ((with_reducible refine' ExB.tr ?a ?b); (case a => with_reducible assumption); (case b => walk_at "hv exb")))
local macro_rules | `(tactic| walk_at "hv sq") => `(tactic| first
  | assumption
  | exact .inl (by assumption)
  | exact .inr (by assumption)
  | ((with_reducible refine' SqL.of ?a); (case a => walk_at "hv hp"))
  | ((with_reducible refine' SqT.of ?a); (case a => walk_at "hv hp"))
  | ((with_reducible refine' Or.inl (SqL.of ?a)); (case a => walk_at "hv hp"))
  | ((with_reducible refine' Or.inr (SqT.of ?a)); (case a => walk_at "hv hp")))
local macro_rules | `(tactic| walk_at "hv op") => `(tactic| first
  | with_reducible refine ov_add ?_ | with_reducible refine ov_sub ?_ | ((with_reducible refine ov_mul ?h ?_); (case h => first | assumption | (walk_at "hv side"))) | ((with_reducible refine ov_mod ?h ?_); (case h => first | assumption | omega | (walk_at "hv side"))) | ((with_reducible refine ov_div ?h ?_); (case h => first | assumption | (walk_at "hv side"))) | ((with_reducible refine ov_pow ?h ?_); (case h => first | assumption | (walk_at "hv side")))
  | with_reducible refine ov_lt ?_ | with_reducible refine ov_le ?_ | with_reducible refine ov_gt ?_ | with_reducible refine ov_ge ?_ | with_reducible refine ov_eq ?_ | with_reducible refine ov_ne ?_ | with_reducible refine ov_eqs ?_ | with_reducible refine ov_nes ?_
  | with_reducible refine uv_neg ?_ | with_reducible refine cv_abs ?_ | with_reducible refine cv_int ?_ | with_reducible refine cv_intb ?_ | with_reducible refine cv_boolb ?_ | ((with_reducible refine cv_max ?h ?_); (case h => rfl)) | ((with_reducible refine cv_min ?h ?_); (case h => rfl))
  | ((with_reducible refine' cv_len ?h ?_); (case h => walk_at "hv sq")) | ((with_reducible refine' iv_lst ?h ?g ?_); (case h => walk_at "hv sq"); (case g => rfl)) | ((with_reducible refine' iv_tup ?h ?g ?_); (case h => walk_at "hv sq"); (case g => rfl)))
local macro_rules | `(tactic| walk_at "hv blt") => `(tactic| first
  | refine ev_intc (by assumption) ?_ | refine ev_abs (by assumption) ?_ | refine ev_len (by assumption) ?_ | refine ev_isinst (by assumption) ?_ | refine ev_repr (by assumption) ?_ | refine ev_all (by assumption) ?_ | refine ev_any (by assumption) ?_
  | refine ev_max (by assumption) ?_ | refine ev_min (by assumption) ?_ | refine ev_boolc (by assumption) ?_ | refine ev_sorted (by assumption) ?_ | refine ev_listc (by assumption) ?_ | refine ev_strc (by assumption) ?_ | refine ev_tuplec (by assumption) ?_ | refine ev_dictc (by assumption) ?_ | refine ev_sum (by assumption) ?_)
local macro_rules | `(tactic| walk_at "hv nblt") => `(tactic| first
  | refine ev_nint (by assumption) ?_ | refine ev_nbool (by assumption) ?_ | refine ev_nstr (by assumption) ?_ | refine ev_ndict (by assumption) ?_ | refine ev_nlist (by assumption) ?_ | refine ev_ntuple (by assumption) ?_)
local macro_rules | `(tactic| walk_at "hv one") => `(tactic| first
  | with_reducible refine bv_cons ?_ | ((with_reducible refine bv_id ?_); (refine bv_cons ?_)) | with_reducible refine bv_nil ?_ | with_reducible refine sv_ret ?_ | ((with_reducible refine sv_id ?_); (walk_at "hv set")) | with_reducible refine sv_if ?_ | ((with_reducible refine sv_expr ?_ ?h); (case h => rfl)) | ((with_reducible refine sv_slot ?_ ?h); (case h => rfl)) | ((with_reducible refine sv_seti ?_ ?a ?b ?c); (case a => (intro x; rfl)); (case b => rfl); (case c => rfl))
  | ((with_reducible refine ev_nm ?_); (first | walk_at "hv name" | walk_at "hv nblt"))
  | with_reducible refine ev_int ?_ | with_reducible refine ev_op ?_ | ((with_reducible refine ev_cmp ?_ ?h); (case h => first | exact nobehind _ (by decide) (by decide) | rfl))
  | ((with_reducible refine av_cons ?_ ?h); (case h => rfl)) | with_reducible refine av_nil ?_
  | with_reducible refine ev_str ?_ | with_reducible refine ev_bl ?_ | with_reducible refine ev_non ?_ | with_reducible refine ev_un ?_ | with_reducible refine ev_one ?_ | with_reducible refine ev_and ?_ | with_reducible refine ev_or ?_ | with_reducible refine ev_if ?_
  | with_reducible refine ev_tup ?_ | with_reducible refine ev_lst ?_ | ((with_reducible refine ev_ix ?h ?_); (case h => exact fun _ _ => rfl))
  | with_reducible refine tv_and ?_ | with_reducible refine tv_or ?_ | with_reducible refine tv_not ?_ | ((with_reducible refine tv_cmp ?_ ?h); (case h => first | exact nobehind _ (by decide) (by decide) | rfl)) | with_reducible refine wv_and ?_ | with_reducible refine wv_or ?_ | with_reducible refine wv_and1 ?_ | with_reducible refine wv_or1 ?_
  | walk_at "hv op"
  | ((with_reducible refine ev_cl ?_); (walk_at "hv blt"))
  | with_reducible refine ex_bl ?_ | with_reducible refine tru_bl ?_ | walk_at "hv ite"
  | ((with_reducible refine tv_val ?_ ?h); (case h => (intro x; rfl))))
local macro_rules | `(tactic| walk_at "hv loc") => `(tactic| first | exact .inl rfl | exact .inr rfl)
local macro_rules | `(tactic| walk_at "hv set") => `(tactic| first
  | refine sv_setS 0 rfl (by assumption) (by walk_at "hv loc") ?_ | refine sv_setS 1 rfl (by assumption) (by walk_at "hv loc") ?_ | refine sv_setS 2 rfl (by assumption) (by walk_at "hv loc") ?_ | refine sv_setS 3 rfl (by assumption) (by walk_at "hv loc") ?_
  | refine sv_setS 4 rfl (by assumption) (by walk_at "hv loc") ?_ | refine sv_setS 5 rfl (by assumption) (by walk_at "hv loc") ?_ | refine sv_setS 6 rfl (by assumption) (by walk_at "hv loc") ?_ | refine sv_setS 7 rfl (by assumption) (by walk_at "hv loc") ?_
  | refine sv_setS 8 rfl (by assumption) (by walk_at "hv loc") ?_ | refine sv_setS 9 rfl (by assumption) (by walk_at "hv loc") ?_ | refine sv_setS 10 rfl (by assumption) (by walk_at "hv loc") ?_ | refine sv_setS 11 rfl (by assumption) (by walk_at "hv loc") ?_)
local macro_rules | `(tactic| walk_at "hv dec") => `(tactic| first | assumption | rfl | omega | decide | (intro hz; cases hz; done))
local macro_rules | `(tactic| walk_at "hv ite") => `(tactic| first
  | with_reducible refine iteT ?_ | with_reducible refine iteF ?_ | with_reducible refine iteNF ?_ | with_reducible refine iteNT ?_
  | ((with_reducible refine ite_dec1 ?h ?_); (case h => walk_at "hv dec")) | ((with_reducible refine ite_dec0 ?h ?_); (case h => walk_at "hv dec"))
  | ((with_reducible refine ite_decN1 ?h ?_); (case h => walk_at "hv dec")) | ((with_reducible refine ite_decN0 ?h ?_); (case h => walk_at "hv dec")))
local macro_rules | `(tactic| walk_at "hv s") => `(tactic| (repeat (walk_at "hv one")))
section
variable (P : Program) (w : World) (K : PySem.W.Frag) (mg : Str → Option Value) (base : Heap)
structure ROp (op : Operator) (g : Rat → Rat → Rat) : Prop where
  ex : ∃ a b, Meth K (CR K) (PySem.dunder op.info.2) a ∧ Meth K (CR K) (dunderR op.info.2) b ∧ FnG P w K mg base 6 a (sp_ratn K g) ∧ FnG P w K mg base 6 b (sp_ratn K fun p q => g q p)
structure RCmp (op : CmpOp) (g : Rat → Rat → Bool) : Prop where
  ex : ∃ a b, Meth K (CR K) (cmpInfo op).2.1 a ∧ Meth K (CR K) (cmpInfo op).2.2 b ∧ FnG P w K mg base 6 a (sp_ratc K g) ∧ FnG P w K mg base 6 b (sp_ratc K fun p q => g q p)
structure RMt (m : Str) (g : Rat → Rat) : Prop where
  ex : ∃ a, Meth K (CR K) m a ∧ FnG P w K mg base 6 a (sp_rat1 K g)
structure RPr (m : Str) (g : Rat → Int) : Prop where
  ex : ∃ pr a, PropG K (CR K) m pr a ∧ FnG P w K mg base 1 a (fun vs H Q _ => ∃ x p, vs = [x] ∧ RatV K H x p ∧ Q (.int (g p)) H)
end
section
variable {X : Cx} {cs : List Addr} {σ : L2.St} {H : Hp} {Q : VK} {j : Nat} {x y : V} {p q : Rat} {o : Expr} {pos apos : Pos} {g : Rat → Rat → Rat} {gc : Rat → Rat → Bool} {g1 : Rat → Rat} {id : String} {B : Builtin}
theorem RatV.isIn {K : PySem.W.Frag} (h : RatV K H x p) : IsIn (CR K) H x := let ⟨a, dx, e, s⟩ := h.slt; ⟨a, dx, _, e, s⟩
theorem ov_rat {op : Operator} (O : ROp X.prog X.w X.K X.mg X.base op g) (R : RW X.K X.mg cs) (hr : RoomG j X.A) (hj : 6 ≤ j) (tb : IntTab op.info.2) (io : IntOp (PySem.dunder op.info.2) id B)
    (hx : NumV X.K H x p) (hy : NumV X.K H y q) (ho : RatV X.K H x p ∨ RatV X.K H y q) (zp : Sz 3000 p) (zq : Sz 3000 q) (h : ∀ v H', RatV X.K H' v (g p q) → Same H H' → Q v H') : OV X (binaryOp op) x y H Q := by
  obtain ⟨a, b, ma, mb, Fa, Fb⟩ := O.ex
  refine ⟨_, op_num (E := E0) R.num ma mb Fa Fb hr hj passL tb io, ?_⟩
  by_cases hx' : RatV X.K H x p
  · refine .inl ⟨hx'.isIn, ?_, x, y, p, q, rfl, hx', hy, zp, zq, h⟩
    rcases hy with ⟨i, rfl, _⟩ | hy
    · exact .inr ⟨i, rfl⟩
    · exact .inl hy.isIn
  · have hy' : RatV X.K H y q := ho.resolve_left hx'
    refine .inr ⟨?_, hy'.isIn, y, x, q, p, rfl, hy', hx, zq, zp, h⟩
    rcases hx with ⟨i, rfl, _⟩ | hx
    · exact ⟨i, rfl⟩
    · exact absurd hx hx'
theorem ov_ratc {op : CmpOp} (hop : ∀ a b, compareOp op a b = richCompare op a b) (O : RCmp X.prog X.w X.K X.mg X.base op gc) (R : RW X.K X.mg cs) (hr : RoomG j X.A) (hj : 6 ≤ j) (io : IntOp (cmpInfo op).2.1 id B)
    (hx : NumV X.K H x p) (hy : NumV X.K H y q) (ho : RatV X.K H x p ∨ RatV X.K H y q) (zp : Sz 3000 p) (zq : Sz 3000 q) (h : ∀ H', Same H H' → Q (.bl (gc p q)) H') : OV X (compareOp op) x y H Q := by
  obtain ⟨a, b, ma, mb, Fa, Fb⟩ := O.ex
  refine ⟨_, op_cmpn (E := E0) hop R.num ma mb Fa Fb hr hj passL io, ?_⟩
  by_cases hx' : RatV X.K H x p
  · refine .inl ⟨hx'.isIn, ?_, x, y, p, q, rfl, hx', hy, zp, zq, h⟩
    rcases hy with ⟨i, rfl, _⟩ | hy
    · exact .inr ⟨i, rfl⟩
    · exact .inl hy.isIn
  · have hy' : RatV X.K H y q := ho.resolve_left hx'
    refine .inr ⟨?_, hy'.isIn, y, x, q, p, rfl, hy', hx, zq, zp, h⟩
    rcases hx with ⟨i, rfl, _⟩ | hx
    · exact ⟨i, rfl⟩
    · exact absurd hx hx'
theorem uv_ratneg (O : RMt X.prog X.w X.K X.mg X.base "__neg__" g1) (hr : RoomG j X.A) (hj : 6 ≤ j) (hx : RatV X.K H x p) (zp : Sz 3000 p) (h : ∀ v H', RatV X.K H' v (g1 p) → Same H H' → Q v H') : UV X (unaryOp .USub) x H Q := by
  obtain ⟨a, ma, Fa⟩ := O.ex
  exact ⟨_, un_negn (C := CR X.K) (E := E0) ma Fa hr hj passL, hx.isIn, x, p, rfl, hx, zp, h⟩
theorem cv_ratabs (O : RMt X.prog X.w X.K X.mg X.base "__abs__" g1) (hr : RoomG j X.A) (hj : 7 ≤ j) (hx : RatV X.K H x p) (zp : Sz 3000 p) (h : ∀ v H', RatV X.K H' v (g1 p) → Same H H' → Q v H') : CV X (.builtin "abs") [x] H Q := by
  obtain ⟨a, ma, Fa⟩ := O.ex
  exact ⟨_, call_absn (C := CR X.K) (E := E0) ma Fa hr hj passL, x, rfl, hx.isIn, x, p, rfl, hx, zp, h⟩
theorem ev_ratm {m : Str} {pl : Sem Bool} (O : RMt X.prog X.w X.K X.mg X.base m g1) (R : RW X.K X.mg cs) (hr : RoomG j X.A) (hj : 6 ≤ j)
    (q : EV X o σ H fun x H1 => ∃ p, RatV X.K H1 x p ∧ Sz 3000 p ∧ ∀ v H', RatV X.K H' v (g1 p) → Same H1 H' → Q v H')
    (ht : eval (.Call (.Attribute o m apos) [] [] pos) X.env = (do
      let ov ← eval o X.env
      standAt apos.atName
      let (f, first) ← holding [ov] (getMethod ov m pl)
      callWith pos f first (backTo pos (starEach [] X.env)) (backToKw pos (keywordEach [] X.env))) := by rfl) : EV X (.Call (.Attribute o m apos) [] [] pos) σ H Q := by
  obtain ⟨a, ma, Fa⟩ := O.ex
  refine ev_meth0 (E := E0) R.num.sc ma Fa hr hj passL (ev_mono q fun x H1 ⟨p, hp, zp, h⟩ => ?_) ht
  obtain ⟨a, dx, e, hs⟩ := hp.slt
  exact ⟨a, dx, _, e, hs, x, p, rfl, hp, zp, h⟩
theorem ev_ratp {m : Str} {gi : Rat → Int} (O : RPr X.prog X.w X.K X.mg X.base m gi) (R : RW X.K X.mg cs) (hr : RoomG j X.A) (hj : 2 ≤ j)
    (q : EV X o σ H fun x H1 => ∃ p, RatV X.K H1 x p ∧ Q (.int (gi p)) H1) (hb : attributeBase o m X.env (eval o X.env) = eval o X.env := by rfl) : EV X (.Attribute o m pos) σ H Q := by
  obtain ⟨pr, a, hp, Fa⟩ := O.ex
  refine ev_prop R.num.sc hp Fa hr hj (ev_mono q fun x H1 ⟨p, hp, h⟩ => ?_) hb
  obtain ⟨a, dx, e, hs⟩ := hp.slt
  subst e
  exact ⟨a, dx, _, rfl, hs, .ref a, p, rfl, hp, h⟩
end
/-! ### texts of data -/
theorem log_of {i : Int} (h : i.natAbs < 2 ^ 1900) : i.natAbs.log2 < 1920 := Nat.lt_trans (PySem.Flt.log2_lt_of (k := 1900) (by decide) h) (by decide)
/-- data whose text is told: depth and weight small, ints short -/
structure Tx (d : PyData) : Prop where
  sh : d.showable = true
  nd : d.hasDict = false
  dp : d.depth ≤ 60
  lf : d.leavesShort 1921 = true
  wt : d.weight ≤ 5000
theorem Tx.fits {d : PyData} (t : Tx d) : d.shown.length ≤ sizeLine := by
  have := PyData.shown_le 1921 (by decide) d t.lf
  have e : (1921 + 2) * d.weight ≤ 1923 * 5000 := Nat.mul_le_mul (by decide) t.wt
  rw [sizeLine_eq]
  omega
theorem short_int {i : Int} (h : i.natAbs.log2 < 1920) : PyData.leavesShort 1921 (.int i) = true := by
  simp only [PyData.leavesShort, decide_eq_true_eq]
  exact int_text_len_1921 h
section
variable {X : Cx} {H : Hp} {Q : VK} {k : Nat} {a : Addr} {d : PyData}
theorem cv_tx (hr : RoomG k X.A) (h : Dp X.K H (.ref a) d) (t : Tx d) (q : Q (.str d.shown) H) : CV X (.builtin "repr") [.ref a] H Q := cv_repr hr h t.sh t.nd t.dp t.fits q
end
theorem tx_pair {a b : Int} (ha : a.natAbs.log2 < 1920) (hb : b.natAbs.log2 < 1920) : Tx (.tuple [.int a, .int b]) := by
  refine ⟨?_, rfl, ?_, ?_, ?_⟩
  · simp [PyData.showable, PyData.showableAll, ha, hb]
  · simp [PyData.depth, PyData.depthAll]
  · have h1 := short_int ha
    have h2 := short_int hb
    simp only [PyData.leavesShort, PyData.leavesShortAll, Bool.and_eq_true] at h1 h2 ⊢
    exact ⟨h1, h2, trivial⟩
  · have t : ∀ i : Int, i.natAbs.log2 < 1920 → (if i = 0 then 0 else i.natAbs.log2 + 1) ≤ 1920 := fun i h => by split <;> omega
    have h1 := t a ha
    have h2 := t b hb
    simp [PyData.weight, PyData.weightAll]
    omega
theorem dp_pair {K : PySem.W.Frag} {H : Hp} {T : Addr} {a b : Int} (h : H T = some (.tup [.int a, .int b])) : Dp K H (.ref T) (.tuple [.int a, .int b]) := .tup (.of h) (.cons (.int _) (.cons (.int _) .nil))
theorem dp_bls {K : PySem.W.Frag} {H : Hp} : ∀ bs : List Bool, DpAll K H (bs.map V.bl) (bs.map PyData.bool)
  | [] => .nil
  | b :: bs => .cons (.bl b) (dp_bls bs)
end HvP
/-! a Ratio's repr -/
namespace HvP
open PySem PySem.Spec PyProof.Rows L2 Hv HvT SlX SX
local macro_rules | `(tactic| walk_at "hv name") => `(tactic| first
  | refine ev_var 0 (pv 0) rfl ?_ | refine ev_var 1 (pv 1) rfl ?_ | refine ev_var 2 (pv 2) rfl ?_ | refine ev_var 3 (pv 3) rfl ?_ | refine ev_var 4 (pv 4) rfl ?_
  | refine ev_var 5 (pv 5) rfl ?_ | refine ev_var 6 (pv 6) rfl ?_ | refine ev_var 7 (pv 7) rfl ?_ | refine ev_var 8 (pv 8) rfl ?_ | refine ev_var 9 (pv 9) rfl ?_
  | refine ev_var 10 (pv 10) rfl ?_ | refine ev_var 11 (pv 11) rfl ?_ | refine ev_var 12 (pv 12) rfl ?_ | refine ev_var 13 (pv 13) rfl ?_ | refine ev_var 14 (pv 14) rfl ?_)
local macro_rules | `(tactic| walk_at "hv hp") => `(tactic| first
  | with_reducible assumption
  | with_reducible exact upd_same
  | ((with_reducible refine' upd_keep ?a ?b); (case a => with_reducible assumption); (case b => walk_at "hv hp"))
  | ((with_reducible refine' Same.get ?a ?b); (case a => with_reducible assumption); (case b => walk_at "hv hp"))
  | ((with_reducible refine' ExB.gt ?a ?b ?c); (case a => with_reducible assumption); (case b => walk_at "hv hp"); (case c => walk_at "hv ne")))
local macro_rules | `(tactic| walk_at "hv ne") => `(tactic| first
  | assumption
  | (exact ne_of_none (by assumption) (by assumption))
  | (refine ne_of (by assumption) (by assumption) ?_; (intro hx; cases hx; done)))
local macro_rules | `(tactic| walk_at "hv same") => `(tactic| first
  | with_reducible assumption
  | with_reducible exact Same.refl _
  | ((with_reducible refine' Same.nw ?a ?b); (case a => with_reducible assumption); (case b => walk_at "hv same"))
  | ((with_reducible refine' Same.tr ?a ?b); (case a => with_reducible assumption); (case b => walk_at "hv same")))
local macro_rules | `(tactic| walk_at "hv exb") => `(tactic| first
  | with_reducible assumption
  | with_reducible exact ExB.refl _ _
  | ((with_reducible refine' ExB.nw ?a ?b); (case a => with_reducible assumption); (case b => walk_at "hv exb"))
  | ((with_reducible refine' ExB.trs ?a ?b); (case a => with_reducible assumption); (case b => walk_at "hv exb"))
  | ((with_reducible refine' ExB.tr ?a ?b); (case a => with_reducible assumption); (case b => walk_at "hv exb")))
local macro_rules | `(tactic| walk_at "hv sq") => `(tactic| first
  | assumption
  | exact .inl (by assumption)
  | exact .inr (by assumption)
  | ((with_reducible refine' SqL.of ?a); (case a => walk_at "hv hp"))
  | ((with_reducible refine' SqT.of ?a); (case a => walk_at "hv hp"))
  | ((with_reducible refine' Or.inl (SqL.of ?a)); (case a => walk_at "hv hp"))
  | ((with_reducible refine' Or.inr (SqT.of ?a)); (case a => walk_at "hv hp")))
local macro_rules | `(tactic| walk_at "hv op") => `(tactic| first
  | with_reducible refine ov_add ?_ | with_reducible refine ov_sub ?_ | ((with_reducible refine ov_mul ?h ?_); (case h => first | assumption | (walk_at "hv side"))) | ((with_reducible refine ov_mod ?h ?_); (case h => first | assumption | omega | (walk_at "hv side"))) | ((with_reducible refine ov_div ?h ?_); (case h => first | assumption | (walk_at "hv side"))) | ((with_reducible refine ov_pow ?h ?_); (case h => first | assumption | (walk_at "hv side")))
  | with_reducible refine ov_lt ?_ | with_reducible refine ov_le ?_ | with_reducible refine ov_gt ?_ | with_reducible refine ov_ge ?_ | with_reducible refine ov_eq ?_ | with_reducible refine ov_ne ?_ | with_reducible refine ov_eqs ?_ | with_reducible refine ov_nes ?_
  | with_reducible refine uv_neg ?_ | with_reducible refine cv_abs ?_ | with_reducible refine cv_int ?_ | with_reducible refine cv_intb ?_ | with_reducible refine cv_boolb ?_ | ((with_reducible refine cv_max ?h ?_); (case h => rfl)) | ((with_reducible refine cv_min ?h ?_); (case h => rfl))
  | ((with_reducible refine' cv_len ?h ?_); (case h => walk_at "hv sq")) | ((with_reducible refine' iv_lst ?h ?g ?_); (case h => walk_at "hv sq"); (case g => rfl)) | ((with_reducible refine' iv_tup ?h ?g ?_); (case h => walk_at "hv sq"); (case g => rfl)))
local macro_rules | `(tactic| walk_at "hv blt") => `(tactic| first
  | refine ev_intc (by assumption) ?_ | refine ev_abs (by assumption) ?_ | refine ev_len (by assumption) ?_ | refine ev_isinst (by assumption) ?_ | refine ev_repr (by assumption) ?_ | refine ev_all (by assumption) ?_ | refine ev_any (by assumption) ?_
  | refine ev_max (by assumption) ?_ | refine ev_min (by assumption) ?_ | refine ev_boolc (by assumption) ?_ | refine ev_sorted (by assumption) ?_ | refine ev_listc (by assumption) ?_ | refine ev_strc (by assumption) ?_ | refine ev_tuplec (by assumption) ?_ | refine ev_dictc (by assumption) ?_ | refine ev_sum (by assumption) ?_)
local macro_rules | `(tactic| walk_at "hv nblt") => `(tactic| first
  | refine ev_nint (by assumption) ?_ | refine ev_nbool (by assumption) ?_ | refine ev_nstr (by assumption) ?_ | refine ev_ndict (by assumption) ?_ | refine ev_nlist (by assumption) ?_ | refine ev_ntuple (by assumption) ?_)
local macro_rules | `(tactic| walk_at "hv one") => `(tactic| first
  | with_reducible refine bv_cons ?_ | ((with_reducible refine bv_id ?_); (refine bv_cons ?_)) | with_reducible refine bv_nil ?_ | with_reducible refine sv_ret ?_ | ((with_reducible refine sv_id ?_); (walk_at "hv set")) | with_reducible refine sv_if ?_ | ((with_reducible refine sv_expr ?_ ?h); (case h => rfl)) | ((with_reducible refine sv_slot ?_ ?h); (case h => rfl)) | ((with_reducible refine sv_seti ?_ ?a ?b ?c); (case a => (intro x; rfl)); (case b => rfl); (case c => rfl))
  | ((with_reducible refine ev_nm ?_); (first | walk_at "hv name" | walk_at "hv nblt"))
  | with_reducible refine ev_int ?_ | with_reducible refine ev_op ?_ | ((with_reducible refine ev_cmp ?_ ?h); (case h => first | exact nobehind _ (by decide) (by decide) | rfl))
  | ((with_reducible refine av_cons ?_ ?h); (case h => rfl)) | with_reducible refine av_nil ?_
  | with_reducible refine ev_str ?_ | with_reducible refine ev_bl ?_ | with_reducible refine ev_non ?_ | with_reducible refine ev_un ?_ | with_reducible refine ev_one ?_ | with_reducible refine ev_and ?_ | with_reducible refine ev_or ?_ | with_reducible refine ev_if ?_
  | with_reducible refine ev_tup ?_ | with_reducible refine ev_lst ?_ | ((with_reducible refine ev_ix ?h ?_); (case h => exact fun _ _ => rfl))
  | with_reducible refine tv_and ?_ | with_reducible refine tv_or ?_ | with_reducible refine tv_not ?_ | ((with_reducible refine tv_cmp ?_ ?h); (case h => first | exact nobehind _ (by decide) (by decide) | rfl)) | with_reducible refine wv_and ?_ | with_reducible refine wv_or ?_ | with_reducible refine wv_and1 ?_ | with_reducible refine wv_or1 ?_
  | walk_at "hv op"
  | ((with_reducible refine ev_cl ?_); (walk_at "hv blt"))
  | with_reducible refine ex_bl ?_ | with_reducible refine tru_bl ?_ | walk_at "hv ite"
  | ((with_reducible refine tv_val ?_ ?h); (case h => (intro x; rfl))))
local macro_rules | `(tactic| walk_at "hv loc") => `(tactic| first | exact .inl rfl | exact .inr rfl)
local macro_rules | `(tactic| walk_at "hv set") => `(tactic| first
  | refine sv_setS 0 rfl (by assumption) (by walk_at "hv loc") ?_ | refine sv_setS 1 rfl (by assumption) (by walk_at "hv loc") ?_ | refine sv_setS 2 rfl (by assumption) (by walk_at "hv loc") ?_ | refine sv_setS 3 rfl (by assumption) (by walk_at "hv loc") ?_
  | refine sv_setS 4 rfl (by assumption) (by walk_at "hv loc") ?_ | refine sv_setS 5 rfl (by assumption) (by walk_at "hv loc") ?_ | refine sv_setS 6 rfl (by assumption) (by walk_at "hv loc") ?_ | refine sv_setS 7 rfl (by assumption) (by walk_at "hv loc") ?_
  | refine sv_setS 8 rfl (by assumption) (by walk_at "hv loc") ?_ | refine sv_setS 9 rfl (by assumption) (by walk_at "hv loc") ?_ | refine sv_setS 10 rfl (by assumption) (by walk_at "hv loc") ?_ | refine sv_setS 11 rfl (by assumption) (by walk_at "hv loc") ?_)
local macro_rules | `(tactic| walk_at "hv dec") => `(tactic| first | assumption | rfl | omega | decide | (intro hz; cases hz; done))
local macro_rules | `(tactic| walk_at "hv ite") => `(tactic| first
  | with_reducible refine iteT ?_ | with_reducible refine iteF ?_ | with_reducible refine iteNF ?_ | with_reducible refine iteNT ?_
  | ((with_reducible refine ite_dec1 ?h ?_); (case h => walk_at "hv dec")) | ((with_reducible refine ite_dec0 ?h ?_); (case h => walk_at "hv dec"))
  | ((with_reducible refine ite_decN1 ?h ?_); (case h => walk_at "hv dec")) | ((with_reducible refine ite_decN0 ?h ?_); (case h => walk_at "hv dec")))
local macro_rules | `(tactic| walk_at "hv s") => `(tactic| (repeat (walk_at "hv one")))
local macro_rules | `(tactic| walk_at "hv rat") => `(tactic| first
  | assumption
  | ((with_reducible refine' RatV.nw ?a ?b); (case a => with_reducible assumption); (case b => walk_at "hv rat"))
  | ((with_reducible refine' RatV.sm ?a ?b); (case a => with_reducible assumption); (case b => walk_at "hv rat")))
local macro_rules | `(tactic| walk_at "hv fld") => `(tactic| first
  | ((refine ev_above (by assumption) ?_); (walk_at "hv name"); (refine ⟨_, by walk_at "hv rat", ?_⟩))
  | ((refine ev_below (by assumption) ?_); (walk_at "hv name"); (refine ⟨_, by walk_at "hv rat", ?_⟩)))
local macro_rules | `(tactic| walk_at "hv r") => `(tactic| (repeat (first | (walk_at "hv fld") | (walk_at "hv one"))))
section
variable {P : Program} {w : World} {K : PySem.W.Frag} {mg : Str → Option Value} {base : Heap} {cs : List Addr} {f : Addr} {fd : FuncData}
theorem lo19v {i : Int} (h : i.natAbs < 2 ^ 1900) : i.natAbs.log2 < 1920 := Nat.lt_trans (PySem.Flt.log2_lt_of (k := 1900) (by decide) h) (by decide)
theorem lo19vn {n : Nat} (h : n < 2 ^ 1900) : ((n : Int)).natAbs.log2 < 1920 := lo19v (by rw [Int.natAbs_natCast]; exact h)
theorem short_lineV {a : Nat} (h : a ≤ 5000) : a ≤ sizeLine := Nat.le_trans h (by rw [sizeLine_eq]; decide)
theorem catV (l : List Nat) : Str.empty ++ S l = S l := TL.ext_tl (by rw [TL.tl_append]; rfl)
theorem e_ratio : ("Ratio(" : Str) = S [82, 97, 116, 105, 111, 40] := by decide +kernel
theorem e_close : (")" : Str) = S [41] := by decide +kernel
theorem e_comma : (", " : Str) = S [44, 32] := by decide +kernel
/-- repr of a Ratio, sign by sign -/
def reprL (p : Rat) : List Nat := [82, 97, 116, 105, 111, 40] ++ intL p.num ++ (if p.den = 1 then [41] else [44, 32] ++ TL.numL p.den ++ [41])
def sp_reprR (K : PySem.W.Frag) : Sp := fun vs H Q _ => ∃ x p, vs = [x] ∧ RatV K H x p ∧ p.num.natAbs < 2 ^ 1900 ∧ p.den < 2 ^ 1900 ∧ Q (.str (S (reprL p))) H
structure RRe (P : Program) (w : World) (K : PySem.W.Frag) (mg : Str → Option Value) (base : Heap) : Prop where
  ex : ∃ a, Meth K (CR K) "__repr__" a ∧ FnG P w K mg base 1 a (sp_reprR K)
theorem ok_Ratio___repr__ (R : RW K mg cs) (F : FD K d_Ratio___repr__ fd) : FnG P w K mg base 1 (d_Ratio___repr__.at_ K) (sp_reprR K) := by
  have S' := s_Ratio___repr__
  refine okG (dv := []) (ds := []) F S' (FunD.bindsN F fun _ _ _ _ _ _ us hl => match us, hl with | [_], _ => rfl) .nil (fun vs H Q E h => ?_) (fun cdv A outer s H vs Q E hr h => ?_)
  · obtain ⟨_, _, rfl, _⟩ := h; rfl
  obtain ⟨x, p, rfl, hx, b1, b2, h⟩ := h
  have B := R.B
  have l1 := num_short b1
  have l2 := num_short b2
  have l3 : (intL p.num).length ≤ 601 := by
    unfold intL
    split
    · rw [List.length_cons]; omega
    · omega
  have dn : ((p.den : Int) = 1) = (p.den = 1) := propext ⟨fun h => by omega, fun h => by omega⟩
  refine ex_bv ?_
  walk_at "hv r"
  refine ite_dec (fun h1 => ?_) (fun h1 => ?_)
  · rw [dn] at h1
    unfold reprL at h
    rw [if_pos h1] at h
    walk_at "hv r"
    refine ev_fs ?_
    refine jv_cons ?_
    walk_at "hv r"
    refine ⟨_, rfl, ?_, ?_⟩
    · show (Str.empty ++ "Ratio(").length ≤ _
      rw [e_ratio, catV, S_len]
      exact short_lineV (by decide)
    refine jv_cons (ev_fmtI ?_)
    walk_at "hv r"
    refine ⟨_, rfl, lo19v b1, _, rfl, ?_, ?_⟩
    · show (Str.empty ++ "Ratio(" ++ Str.ofString (toString p.num)).length ≤ _
      rw [str_int, e_ratio, catV, S_cat, S_len]
      exact short_lineV (by simp; omega)
    refine jv_cons ?_
    walk_at "hv r"
    refine ⟨_, rfl, ?_, ?_⟩
    · show (Str.empty ++ "Ratio(" ++ Str.ofString (toString p.num) ++ ")").length ≤ _
      rw [str_int, e_ratio, e_close, catV, S_cat, S_cat, S_len]
      exact short_lineV (by simp; omega)
    refine jv_nil ?_
    show Q (.str (Str.empty ++ "Ratio(" ++ Str.ofString (toString p.num) ++ ")")) H
    rw [str_int, e_ratio, e_close, catV, S_cat, S_cat]
    exact h
  · rw [dn] at h1
    unfold reprL at h
    rw [if_neg h1] at h
    walk_at "hv r"
    refine ev_fs ?_
    refine jv_cons ?_
    walk_at "hv r"
    refine ⟨_, rfl, ?_, ?_⟩
    · show (Str.empty ++ "Ratio(").length ≤ _
      rw [e_ratio, catV, S_len]
      exact short_lineV (by decide)
    refine jv_cons (ev_fmtI ?_)
    walk_at "hv r"
    refine ⟨_, rfl, lo19v b1, _, rfl, ?_, ?_⟩
    · show (Str.empty ++ "Ratio(" ++ Str.ofString (toString p.num)).length ≤ _
      rw [str_int, e_ratio, catV, S_cat, S_len]
      exact short_lineV (by simp; omega)
    refine jv_cons ?_
    walk_at "hv r"
    refine ⟨_, rfl, ?_, ?_⟩
    · show (Str.empty ++ "Ratio(" ++ Str.ofString (toString p.num) ++ ", ").length ≤ _
      rw [str_int, e_ratio, e_comma, catV, S_cat, S_cat, S_len]
      exact short_lineV (by simp; omega)
    refine jv_cons (ev_fmtI ?_)
    walk_at "hv r"
    refine ⟨_, rfl, lo19vn b2, _, rfl, ?_, ?_⟩
    · show (Str.empty ++ "Ratio(" ++ Str.ofString (toString p.num) ++ ", " ++ Str.ofString (toString (p.den : Int))).length ≤ _
      rw [str_int, e_ratio, e_comma, catV, S_cat, S_cat, num_S, S_cat, S_len]
      exact short_lineV (by simp; omega)
    refine jv_cons ?_
    walk_at "hv r"
    refine ⟨_, rfl, ?_, ?_⟩
    · show (Str.empty ++ "Ratio(" ++ Str.ofString (toString p.num) ++ ", " ++ Str.ofString (toString (p.den : Int)) ++ ")").length ≤ _
      rw [str_int, e_ratio, e_comma, e_close, catV, S_cat, S_cat, num_S, S_cat, S_cat, S_len]
      exact short_lineV (by simp; omega)
    refine jv_nil ?_
    show Q (.str (Str.empty ++ "Ratio(" ++ Str.ofString (toString p.num) ++ ", " ++ Str.ofString (toString (p.den : Int)) ++ ")")) H
    rw [str_int, e_ratio, e_comma, e_close, catV, S_cat, S_cat, num_S, S_cat, S_cat]
    have e : [82, 97, 116, 105, 111, 40] ++ intL p.num ++ [44, 32] ++ TL.numL p.den ++ [41] = [82, 97, 116, 105, 111, 40] ++ intL p.num ++ ([44, 32] ++ TL.numL p.den ++ [41]) := by simp only [List.append_assoc]
    rw [e]
    exact h
end
end HvP
/-! DR: Ratios as trees: operators, comparisons, properties, methods; isinstance. -/
namespace Dv
open PySem PySem.Spec PyProof.Rows L2 Hv HvP
structure ROps (P : Program) (w : World) (K : PySem.W.Frag) (mg : Str → Option Value) (base : Heap) : Prop where
  add : ROp P w K mg base .Add fun p q => p + q
  sub : ROp P w K mg base .Sub fun p q => p - q
  mul : ROp P w K mg base .Mult fun p q => p * q
  lt : RCmp P w K mg base .Lt fun p q => decide (p < q)
  le : RCmp P w K mg base .LtE fun p q => decide (p ≤ q)
  gt : RCmp P w K mg base .Gt fun p q => decide (q < p)
  ge : RCmp P w K mg base .GtE fun p q => decide (q ≤ p)
instance (b : Nat) (q : Rat) : Decidable (Sz b q) := inferInstanceAs (Decidable (_ ∧ _))
def ratOf : T → Option Rat
  | .int i => some (i : Rat)
  | .rat q => some q
  | _ => none
def isRat : T → Bool
  | .rat _ => true
  | _ => false
def rat2 (g : Rat → Rat → T) (s t : T) : Option T := if (isRat s || isRat t) = true then (ratOf s).bind fun p => (ratOf t).bind fun q => if Sz 3000 p ∧ Sz 3000 q then some (g p q) else none else none
def addR (s t : T) : Option T := if (isRat s || isRat t) = true then rat2 (fun p q => .rat (p + q)) s t else addP s t
def subR (s t : T) : Option T := if (isRat s || isRat t) = true then rat2 (fun p q => .rat (p - q)) s t else subP s t
def mulR (s t : T) : Option T := if (isRat s || isRat t) = true then rat2 (fun p q => .rat (p * q)) s t else mulP s t
def ltR (s t : T) : Option T := if (isRat s || isRat t) = true then rat2 (fun p q => .bl (decide (p < q))) s t else ltP s t
def leR (s t : T) : Option T := if (isRat s || isRat t) = true then rat2 (fun p q => .bl (decide (p ≤ q))) s t else leP s t
def gtR (s t : T) : Option T := if (isRat s || isRat t) = true then rat2 (fun p q => .bl (decide (q < p))) s t else gtP s t
def geR (s t : T) : Option T := if (isRat s || isRat t) = true then rat2 (fun p q => .bl (decide (q ≤ p))) s t else geP s t
def eqR : T → T → Option T
  | .rat p, .rat q => some (.bl (decide (p = q)))
  | s, t => eqP s t
def neR : T → T → Option T
  | .rat p, .rat q => some (.bl (!decide (p = q)))
  | s, t => neP s t
def negR : T → Option T
  | .rat q => if Sz 3000 q then some (.rat (-q)) else none
  | t => negP t
def absR : T → Option T
  | .rat q => if Sz 3000 q then some (.rat (if q < 0 then -q else q)) else none
  | t => absP t
section
variable {X : Cx} {W : WX} {K : PySem.W.Frag} {β : Bc} {x y : Sx} {e a b c o : Expr} {es rest : List Expr} {Q : VK} {pos p p2 apos : Pos} {ma mb : M Rdr} {m mc mv mi : M T} {F : Addr → Prop} {H : Hp} {mas : M (List T)} {cs : List Addr} {j : Nat}
theorem RepP.rat {v : V} {q : Rat} (h : RepP K F H v (.rat q)) : RatV K H v q := by
  rcases h with h | ⟨a, rfl, h⟩
  · cases h with
    | obj f h => cases h with | rat h f2 h2 => exact ⟨_, _, rfl, h, h2⟩
  · cases h
theorem Nx.rat {H' : Hp} {v : V} {q : Rat} (hs : St K β x) (e : Same x.H H') (r : RatV K H' v q) : ∃ F', Nx K β x ⟨F', H', x.σ, x.ρ⟩ ∧ Rep K F' H' v (.rat q) := by
  obtain ⟨a, dx, rfl, h1, h2⟩ := r
  refine ⟨addF (addF x.F a) dx, Nx.same hs e (fun b f => ?_) (fun b f => .inl (.inl f)), .obj (.inl (.inr rfl)) (.rat h1 (.inr rfl) h2)⟩
  rcases f with (f | f) | f
  · exact .inl f
  · subst f
    exact .inr ⟨_, h1, .inr (.inl ⟨_, _, _, _, rfl⟩)⟩
  · subst f
    exact .inr ⟨_, h2, .inr (.inr ⟨_, rfl⟩)⟩
theorem GoE.rat {q : Rat} {v : V} {H' : Hp} (hs : St K β x) (g : GoE K β W x (.ok (.rat q) x.ρ) Q) (r : RatV K H' v q) (e : Same x.H H') : Q v H' := by
  obtain ⟨F', n, r⟩ := Nx.rat hs e r
  exact g _ _ _ n r
theorem GoE.sc {t : T} {v : V} {H' : Hp} (hs : St K β x) (g : GoE K β W x (.ok t x.ρ) Q) (r : Rep K x.F H' v t) (e : Same x.H H') : Q v H' :=
  g _ _ _ (Nx.same hs e (fun _ f => .inl f) fun _ f => f) r
theorem num_of {s : T} {p : Rat} {v : V} (e : ratOf s = some p) (r : RepP K F H v s) : NumV K H v p ∧ (isRat s = true → RatV K H v p) := by
  cases s <;> cases e
  · exact ⟨.inl ⟨_, r.int, rfl⟩, fun h => by cases h⟩
  · exact ⟨.inr r.rat, fun _ => r.rat⟩
theorem rat2_go {g : Rat → Rat → T} {s t : T} {v w : V} {G : V → V → Hp → VK → Prop} (hs : St K β x) (r1 : RepP K x.F x.H v s) (r2 : RepP K x.F x.H w t) (hr : (isRat s || isRat t) = true) (gg : GoE K β W x (lift (rat2 g s t) x.ρ) Q)
    (k : ∀ p q, NumV K x.H v p → NumV K x.H w q → (RatV K x.H v p ∨ RatV K x.H w q) → Sz 3000 p → Sz 3000 q → GoE K β W x (.ok (g p q) x.ρ) Q → G v w x.H Q) : G v w x.H Q := by
  unfold rat2 at gg
  rw [if_pos hr] at gg
  cases e1 : ratOf s with
  | none => rw [e1] at gg; exact gg.elim
  | some p =>
    rw [e1] at gg
    cases e2 : ratOf t with
    | none => rw [e2] at gg; exact gg.elim
    | some q =>
      rw [e2] at gg
      simp only [Option.bind] at gg
      obtain ⟨hz, gg⟩ := lift_if gg
      obtain ⟨n1, m1⟩ := num_of e1 r1
      obtain ⟨n2, m2⟩ := num_of e2 r2
      refine k p q n1 n2 ?_ hz.1 hz.2 gg
      rcases Bool.or_eq_true_iff.mp hr with h | h
      · exact .inl (m1 h)
      · exact .inr (m2 h)
theorem opd_addR (O : ROp X.prog X.w X.K X.mg X.base .Add fun p q => p + q) (R : RW X.K X.mg cs) (hr : RoomG j X.A) (hj : 6 ≤ j) : OpD X W addR (OV X (binaryOp .Add)) := by
  intro β x v w s t Q hs r1 r2 g
  unfold addR at g
  split at g
  · rename_i h
    exact rat2_go hs r1 r2 h g fun p q n1 n2 o z1 z2 gg => ov_rat O R hr hj tab_add io_add n1 n2 o z1 z2 fun v H' rv e => GoE.rat hs gg rv e
  · exact opd_add β x v w s t Q hs r1 r2 g
theorem opd_subR (O : ROp X.prog X.w X.K X.mg X.base .Sub fun p q => p - q) (R : RW X.K X.mg cs) (hr : RoomG j X.A) (hj : 6 ≤ j) : OpD X W subR (OV X (binaryOp .Sub)) := by
  intro β x v w s t Q hs r1 r2 g
  unfold subR at g
  split at g
  · rename_i h
    exact rat2_go hs r1 r2 h g fun p q n1 n2 o z1 z2 gg => ov_rat O R hr hj tab_sub io_sub n1 n2 o z1 z2 fun v H' rv e => GoE.rat hs gg rv e
  · exact opd_sub β x v w s t Q hs r1 r2 g
theorem opd_mulR (O : ROp X.prog X.w X.K X.mg X.base .Mult fun p q => p * q) (R : RW X.K X.mg cs) (hr : RoomG j X.A) (hj : 6 ≤ j) : OpD X W mulR (OV X (binaryOp .Mult)) := by
  intro β x v w s t Q hs r1 r2 g
  unfold mulR at g
  split at g
  · rename_i h
    exact rat2_go hs r1 r2 h g fun p q n1 n2 o z1 z2 gg => ov_rat O R hr hj tab_mul io_mul n1 n2 o z1 z2 fun v H' rv e => GoE.rat hs gg rv e
  · exact opd_mul β x v w s t Q hs r1 r2 g
theorem opd_ltR (O : RCmp X.prog X.w X.K X.mg X.base .Lt fun p q => decide (p < q)) (R : RW X.K X.mg cs) (hr : RoomG j X.A) (hj : 6 ≤ j) : OpD X W ltR (OV X (compareOp .Lt)) := by
  intro β x v w s t Q hs r1 r2 g
  unfold ltR at g
  split at g
  · rename_i h
    exact rat2_go hs r1 r2 h g fun p q n1 n2 o z1 z2 gg => ov_ratc (fun _ _ => rfl) O R hr hj io_lt n1 n2 o z1 z2 fun H' e => GoE.sc hs gg (.bl _) e
  · exact opd_lt β x v w s t Q hs r1 r2 g
theorem opd_leR (O : RCmp X.prog X.w X.K X.mg X.base .LtE fun p q => decide (p ≤ q)) (R : RW X.K X.mg cs) (hr : RoomG j X.A) (hj : 6 ≤ j) : OpD X W leR (OV X (compareOp .LtE)) := by
  intro β x v w s t Q hs r1 r2 g
  unfold leR at g
  split at g
  · rename_i h
    exact rat2_go hs r1 r2 h g fun p q n1 n2 o z1 z2 gg => ov_ratc (fun _ _ => rfl) O R hr hj io_le n1 n2 o z1 z2 fun H' e => GoE.sc hs gg (.bl _) e
  · exact opd_le β x v w s t Q hs r1 r2 g
theorem opd_gtR (O : RCmp X.prog X.w X.K X.mg X.base .Gt fun p q => decide (q < p)) (R : RW X.K X.mg cs) (hr : RoomG j X.A) (hj : 6 ≤ j) : OpD X W gtR (OV X (compareOp .Gt)) := by
  intro β x v w s t Q hs r1 r2 g
  unfold gtR at g
  split at g
  · rename_i h
    exact rat2_go hs r1 r2 h g fun p q n1 n2 o z1 z2 gg => ov_ratc (fun _ _ => rfl) O R hr hj io_gt n1 n2 o z1 z2 fun H' e => GoE.sc hs gg (.bl _) e
  · exact opd_gt β x v w s t Q hs r1 r2 g
theorem opd_geR (O : RCmp X.prog X.w X.K X.mg X.base .GtE fun p q => decide (q ≤ p)) (R : RW X.K X.mg cs) (hr : RoomG j X.A) (hj : 6 ≤ j) : OpD X W geR (OV X (compareOp .GtE)) := by
  intro β x v w s t Q hs r1 r2 g
  unfold geR at g
  split at g
  · rename_i h
    exact rat2_go hs r1 r2 h g fun p q n1 n2 o z1 z2 gg => ov_ratc (fun _ _ => rfl) O R hr hj io_ge n1 n2 o z1 z2 fun H' e => GoE.sc hs gg (.bl _) e
  · exact opd_ge β x v w s t Q hs r1 r2 g
theorem und_negR (O : RMt X.prog X.w X.K X.mg X.base "__neg__" fun p => -p) (hr : RoomG j X.A) (hj : 6 ≤ j) : UnD X W negR (UV X (unaryOp .USub)) := by
  intro β x v t Q hs r1 g
  unfold negR at g
  split at g
  · obtain ⟨hz, g⟩ := lift_if g
    exact uv_ratneg O hr hj r1.rat hz fun v H' rv e => GoE.rat hs g rv e
  · exact und_neg β x v _ Q hs r1 g
theorem und_absR (O : RMt X.prog X.w X.K X.mg X.base "__abs__" fun p => if p < 0 then -p else p) (hr : RoomG j X.A) (hj : 7 ≤ j) : UnD X W absR fun v H Q => CV X (.builtin "abs") [v] H Q := by
  intro β x v t Q hs r1 g
  unfold absR at g
  split at g
  · obtain ⟨hz, g⟩ := lift_if g
    exact cv_ratabs O hr hj r1.rat hz fun v H' rv e => GoE.rat hs g rv e
  · exact und_abs β x v _ Q hs r1 g
theorem den_absR (B : Blt X.mg) (O : RMt X.prog X.w X.K X.mg X.base "__abs__" fun p => if p < 0 then -p else p) (hr : RoomG j X.A) (hj : 7 ≤ j) (ha : DenO X W a ma) (hg : Gl X "abs" := by rfl) (he : starEach [a] X.env = (false, eval a X.env) :: starEach [] X.env := by rfl) (hpl : (backTo pos (starEach [] X.env)).any (·.1) = false := by rfl) :
    Den X W (.Call (.Name "abs" p) [a] [] pos) (un1 absR ma) := fun β x Q hs g => ev_abs B (av_cons (ev_mono (ha.then1 (und_absR O hr hj) hs g) fun v H1 h => av_nil h) he) hg he hpl
/-- a property that gives an int -/
def ratP (gi : Rat → Int) : T → Option T
  | .rat q => some (.int (gi q))
  | _ => none
theorem den_ratp {n : Str} {gi : Rat → Int} (O : RPr X.prog X.w X.K X.mg X.base n gi) (R : RW X.K X.mg cs) (hr : RoomG j X.A) (hj : 2 ≤ j) (ha : DenO X W a ma) (hb : attributeBase a n X.env (eval a X.env) = eval a X.env := by rfl) : Den X W (.Attribute a n pos) (un1 (ratP gi) ma) := by
  intro β x Q hs g
  refine ev_ratp O R hr hj (ev_mono (ha.then1 (G := fun v H Q => ∃ p, RatV X.K H v p ∧ Q (.int (gi p)) H) ?_ hs g) fun v H h => h) hb
  intro β x v t Q hs r g
  cases t <;> first | exact g.elim | skip
  exact ⟨_, r.rat, GoE.out hs g (.int _)⟩
/-- a method without arguments that gives a Ratio -/
def ratM (g1 : Rat → Rat) : T → Option T
  | .rat q => if Sz 3000 q then some (.rat (g1 q)) else none
  | _ => none
theorem den_ratm {n : Str} {g1 : Rat → Rat} {pl : Sem Bool} (O : RMt X.prog X.w X.K X.mg X.base n g1) (R : RW X.K X.mg cs) (hr : RoomG j X.A) (hj : 6 ≤ j) (ha : DenO X W a ma)
    (ht : eval (.Call (.Attribute a n apos) [] [] pos) X.env = (do
      let ov ← eval a X.env
      standAt apos.atName
      let (f, first) ← holding [ov] (getMethod ov n pl)
      callWith pos f first (backTo pos (starEach [] X.env)) (backToKw pos (keywordEach [] X.env))) := by rfl) : Den X W (.Call (.Attribute a n apos) [] [] pos) (un1 (ratM g1) ma) := by
  intro β x Q hs g
  refine ev_ratm O R hr hj (ev_mono (ha.then1 (G := fun v H Q => ∃ p, RatV X.K H v p ∧ Sz 3000 p ∧ ∀ v' H', RatV X.K H' v' (g1 p) → Same H H' → Q v' H') ?_ hs g) fun v H h => h) ht
  intro β x v t Q hs r g
  cases t <;> first | exact g.elim | skip
  obtain ⟨hz, g⟩ := lift_if g
  exact ⟨_, r.rat, hz, fun v' H' rv e => GoE.rat hs g rv e⟩
/-- Ratio(a, b), Ratio(a), of ints -/
def mk2P : T → T → Option T
  | .int n, .int u => if u ≠ 0 ∧ n.natAbs < 2 ^ 8000 ∧ u.natAbs < 2 ^ 8000 then some (.rat (Rat.divInt n u)) else none
  | _, _ => none
def mk1P : T → Option T
  | .int n => if n.natAbs < 2 ^ 8000 then some (.rat (n : Rat)) else none
  | _ => none
theorem den_mk2 (w : GMX X 2 "Ratio" (sp_mk2 X.K)) (hr : RoomG j X.A) (hj : 3 ≤ j) (ha : DenO X W a ma) (hb : DenO X W b mb) (hg : Gl X "Ratio" := by rfl) (he : starEach [a, b] X.env = (false, eval a X.env) :: starEach [b] X.env := by rfl) (he2 : starEach [b] X.env = (false, eval b X.env) :: starEach [] X.env := by rfl)
    (hpl : (backTo pos (starEach [b] X.env)).any (·.1) = false := by rfl) : Den X W (.Call (.Name "Ratio" p) [a, b] [] pos) (op2 mk2P ma mb) := by
  intro β x Q hs g
  refine ev_make w hr hj hg passL (av_cons (ev_mono (ha.then2 hb (G := fun v w H Q => sp_mk2 X.K [v, w] H Q E0) ?_ hs g) fun v H1 h => av_cons (ev_mono h fun w H2 h => av_nil h) he2) he) (by decide) he hpl
  intro β x v w s t Q hs r1 r2 g
  cases s <;> cases t <;> first | exact g.elim | skip
  cases r1.int; cases r2.int
  obtain ⟨h, g⟩ := lift_if g
  exact ⟨_, _, rfl, h.1, h.2.1, h.2.2, fun v' H' rv e => GoE.rat hs g rv e⟩
theorem den_mk1 (w : GMX X 2 "Ratio" (sp_mk1 X.K)) (hr : RoomG j X.A) (hj : 3 ≤ j) (ha : DenO X W a ma) (hg : Gl X "Ratio" := by rfl) (he : starEach [a] X.env = (false, eval a X.env) :: starEach [] X.env := by rfl)
    (hpl : (backTo pos (starEach [] X.env)).any (·.1) = false := by rfl) : Den X W (.Call (.Name "Ratio" p) [a] [] pos) (un1 mk1P ma) := by
  intro β x Q hs g
  refine ev_make w hr hj hg passL (av_cons (ev_mono (ha.then1 (G := fun v H Q => sp_mk1 X.K [v] H Q E0) ?_ hs g) fun v H1 h => av_nil h) he) (by decide) he hpl
  intro β x v s Q hs r1 g
  cases s <;> first | exact g.elim | skip
  cases r1.int
  obtain ⟨h, g⟩ := lift_if g
  exact ⟨_, rfl, h, fun v' H' rv e => GoE.rat hs g rv e⟩
/-! ### isinstance -/
/-- the own class of a value; none of one -/
def ownC : T → Option (Option Str)
  | .non | .bl _ | .int _ | .str _ | .lst _ | .tup _ | .dic _ | .wtu _ => some none
  | .rat _ => some (some ("Ratio" : Str))
  | .ins C _ => some (some C)
  | _ => none
def kB : T → String → Option Bool
  | .non, n => some (n == "NoneType")
  | .bl _, n => some (n == "bool" || n == "int")
  | .int _, n => some (n == "int")
  | .str _, n => some (n == "str")
  | .lst _, n => some (n == "list")
  | .tup _, n => some (n == "tuple")
  | .wtu _, n => some (n == "tuple")
  | .dic _, n => some (n == "dict")
  | .rat _, _ => some false
  | .ins _ _, _ => some false
  | _, _ => none
/-- isinstance, of Ratios and plain values alone -/
def isiR : T → T → Option T
  | .ins _ _, _ => none
  | s, .ty n => if n ∈ tys then (kB s n).map .bl else none
  | s, .cls c => if c = "Ratio" then (ownC s).map fun o => .bl (decide (o = some c)) else none
  | _, _ => none
theorem hask (R : RW K mg cs) {v : V} {s : T} {o : Option Str} (e : ownC s = some o) (ni : ∀ C fs, s ≠ .ins C fs) (r : RepP K F H v s) : ∃ k, HasK K cs H v k ∧ (∀ n, kB s n = some (k.isT n)) ∧ (∀ c, o = some c → k = .own (He.ga K c)) ∧ (o = none → ∀ D, k ≠ .own D) := by
  cases s <;> cases e
  · cases r.non; exact ⟨.non, .non, fun _ => rfl, fun _ q => (nomatch q), fun _ _ q => (nomatch q)⟩
  · cases r.bl; exact ⟨.bl, .bl _, fun _ => rfl, fun _ q => (nomatch q), fun _ _ q => (nomatch q)⟩
  · cases r.int; exact ⟨.int, .int _, fun _ => rfl, fun _ q => (nomatch q), fun _ _ q => (nomatch q)⟩
  · cases r.str; exact ⟨.str, .str _, fun _ => rfl, fun _ q => (nomatch q), fun _ _ q => (nomatch q)⟩
  · obtain ⟨a, vs, rfl, h, _⟩ := r.tup; exact ⟨.tup, .tup h, fun _ => rfl, fun _ q => (nomatch q), fun _ _ q => (nomatch q)⟩
  · obtain ⟨a, vs, rfl, h, _⟩ := r.lst; exact ⟨.lst, .lst h, fun _ => rfl, fun _ q => (nomatch q), fun _ _ q => (nomatch q)⟩
  · rcases r with r | ⟨a, _, r⟩
    · cases r with
      | obj f h => cases h
      | wt h _ =>
        rcases h (fun _ => none) with (z | ⟨_, z⟩) | ⟨o, its, n, e, c, _⟩
        · cases z
        · cases z
        · exact ⟨.tup, .wt e c, fun _ => rfl, fun _ q => (nomatch q), fun _ _ q => (nomatch q)⟩
    · cases r
  · obtain ⟨a, vs, rfl, h, _⟩ := r.dic; exact ⟨.dic, (h.elim .dK fun ⟨_, h⟩ => .fD h), fun _ => rfl, fun _ q => (nomatch q), fun _ _ q => (nomatch q)⟩
  · exact ⟨_, R.kr r.rat, fun _ => rfl, fun _ q => by cases q; exact rfl, fun q => (nomatch q)⟩
  · exact absurd rfl (ni _ _)
theorem opd_isi (R : RW X.K X.mg cs) : OpD X W isiR fun v w H Q => CV X (.builtin "isinstance") [v, w] H Q := by
  intro β x v w s t Q hs r1 r2 g
  by_cases hi : ∃ C fs, s = .ins C fs
  · obtain ⟨C, fs, rfl⟩ := hi
    exact g.elim
  · have ni : ∀ C fs, s ≠ .ins C fs := fun C fs e => hi ⟨C, fs, e⟩
    have ow : ∀ {g2 : Option T}, (∃ n, kB s n ≠ none) → ∃ o, ownC s = some o := fun h => by
      cases s <;> first | exact ⟨_, rfl⟩ | exact absurd rfl h.choose_spec
    cases t with
    | ty n =>
      have e0 : isiR s (.ty n) = if n ∈ tys then (kB s n).map .bl else none := by cases s <;> first | rfl | exact absurd rfl (ni _ _)
      rw [e0] at g
      by_cases hn : n ∈ tys
      · rw [if_pos hn] at g
        cases e : kB s n with
        | none => rw [e] at g; exact g.elim
        | some k0 =>
          rw [e] at g
          obtain ⟨o, eo⟩ := ow (g2 := none) ⟨n, by rw [e]; simp⟩
          obtain ⟨k, hk, hb, _⟩ := hask R eo ni r1
          rw [hb n] at e
          cases e
          cases r2.ty
          exact cv_isT R.csk hk hn (GoE.out hs g (.bl _))
      · rw [if_neg hn] at g
        exact g.elim
    | cls c =>
      have e0 : isiR s (.cls c) = if c = "Ratio" then (ownC s).map fun o => .bl (decide (o = some c)) else none := by cases s <;> first | rfl | exact absurd rfl (ni _ _)
      rw [e0] at g
      by_cases hc : c = "Ratio"
      · rw [if_pos hc] at g
        subst hc
        cases e : ownC s with
        | none => rw [e] at g; exact g.elim
        | some o =>
          rw [e] at g
          obtain ⟨k, hk, _, h1, h2⟩ := hask R e ni r1
          have hv : w = .ref (He.ga X.K "Ratio") := by
            rcases r2 with r2 | ⟨a, e, r2⟩
            · cases r2 with
              | cls => rfl
              | obj f h => cases h
            · cases r2
          subst hv
          refine cv_isO R.csk hk R.mem ?_
          have : decide (k = .own (CR X.K)) = decide (o = some ("Ratio" : Str)) := by
            cases o with
            | none => rw [decide_eq_false (h2 rfl _), decide_eq_false (by simp)]
            | some c =>
              have hk2 := h1 c rfl
              subst hk2
              cases s <;> cases e
              · rw [decide_eq_true rfl, decide_eq_true rfl]
              · exact absurd rfl (ni _ _)
          rw [this]
          exact GoE.out hs g (.bl _)
      · rw [if_neg hc] at g
        exact g.elim
    | _ => cases s <;> exact g.elim
theorem den_isi (B : Blt X.mg) (R : RW X.K X.mg cs) (ha : DenO X W a ma) (hb : DenO X W b mb) (hg : Gl X "isinstance" := by rfl) (he : starEach [a, b] X.env = (false, eval a X.env) :: starEach [b] X.env := by rfl) (he2 : starEach [b] X.env = (false, eval b X.env) :: starEach [] X.env := by rfl)
    (hpl : (backTo pos (starEach [b] X.env)).any (·.1) = false := by rfl) : Den X W (.Call (.Name "isinstance" p) [a, b] [] pos) (op2 isiR ma mb) :=
  fun β x Q hs g => ev_isinst B (av_cons (ev_mono (ha.then2 hb (opd_isi R) hs g) fun v H1 h => av_cons (ev_mono h fun w H2 h => av_nil h) he2) he) hg he hpl
end
end Dv
/-! DW: what a function on slots comes to, step by step (W WS WF). Plain Lean. -/
namespace Dv
open PySem PySem.Spec PyProof.Rows L2 Hv
/-- the answer satisfies Q; E: of an error -/
def W {α : Type} (r : R α) (Q : α → Env → Prop) (E : Str → T → Env → Prop) : Prop := match r with
  | .ok a ρ => Q a ρ
  | .ex c v ρ => E c v ρ
  | .bad => False
/-- what is wanted behind a statement -/
structure Po where
  nx : Env → Prop
  rt : Slot → Env → Prop
  bk : Env → Prop := fun _ => False
  ct : Env → Prop := fun _ => False
  ex : Str → T → Env → Prop := fun _ _ _ => False
def WS (r : RS) (P : Po) : Prop := match r with
  | .nx ρ => P.nx ρ
  | .rt s ρ => P.rt s ρ
  | .bk ρ => P.bk ρ
  | .ct ρ => P.ct ρ
  | .ex c v ρ => P.ex c v ρ
  | .bad => False
def WF (r : RF) (Q : Slot → Env → Prop) (E : Str → T → Env → Prop) : Prop := match r with
  | .ok s ps => Q s ps
  | .ex c v ps => E c v ps
  | .bad => False
section
variable {α γ : Type} {ρ ρ' : Env} {E : Str → T → Env → Prop} {a b : M Rdr} {m n : M T} {P : Po}
theorem W.mono {r : R α} {Q Q' : α → Env → Prop} (h : W r Q E) (k : ∀ a ρ, Q a ρ → Q' a ρ) : W r Q' E := by
  cases r with
  | ok a ρ => exact k _ _ h
  | ex c v ρ => exact h
  | bad => exact h
theorem WF.mono {r : RF} {Q Q' : Slot → Env → Prop} {E' : Str → T → Env → Prop} (h : WF r Q E) (k : ∀ a ρ, Q a ρ → Q' a ρ) (k2 : ∀ c v ρ, E c v ρ → E' c v ρ) : WF r Q' E' := by
  cases r with
  | ok a ρ => exact k _ _ h
  | ex c v ρ => exact k2 _ _ _ h
  | bad => exact h
theorem w_bind {m : M α} {f : α → M γ} {Q : γ → Env → Prop} (h : W (m ρ) (fun a ρ1 => W (f a ρ1) Q E) E) : W (M.bind m f ρ) Q E := by
  unfold M.bind
  cases q : m ρ with
  | ok a ρ1 => rw [q] at h; exact h
  | ex c v ρ1 => rw [q] at h; exact h
  | bad => rw [q] at h; exact h
theorem w_pure {a : α} {Q : α → Env → Prop} (h : Q a ρ) : W (M.pure a ρ) Q E := h
theorem w_lift {a : α} {o : Option α} {Q : α → Env → Prop} (e : o = some a) (h : Q a ρ) : W (lift o ρ) Q E := by subst e; exact h
variable {Q : T → Env → Prop}
/-! operands -/
theorem w_oN {i : Nat} {t : T} {Q : Rdr → Env → Prop} (e : cont ρ i = some t) (h : Q (fun ρ => cont ρ i) ρ) : W (oN i ρ) Q E := by
  unfold oN; rw [if_pos (by rw [e]; rfl)]; exact h
theorem w_oE {Q : Rdr → Env → Prop} (h : W (m ρ) (fun t ρ1 => Q (fun _ => some t) ρ1) E) : W (oE m ρ) Q E := w_bind h
theorem w_cst {t : T} (h : Q t ρ) : W (cst t ρ) Q E := h
theorem w_rdv {i : Nat} {t : T} (e : ρ[i]? = some (.val t)) (h : Q t ρ) : W (rd i ρ) Q E := by unfold rd; rw [e]; exact h
theorem w_rdo {i : Nat} {t : T} (e : ρ[i]? = some (.own t)) (h : Q t (ρ.set i (.val t))) : W (rd i ρ) Q E := by unfold rd; rw [e]; exact h
theorem w_un1 {f : T → Option T} (h : W (a ρ) (fun r ρ1 => ∃ s u, r ρ1 = some s ∧ f s = some u ∧ Q u ρ1) E) : W (un1 f a ρ) Q E := by
  unfold un1
  refine w_bind (h.mono fun r ρ1 ⟨s, u, e1, e2, q⟩ => ?_)
  exact w_lift (a := u) (by rw [e1]; exact e2) q
theorem w_un1F {f : T → Option T} {Q : Slot → Env → Prop} (h : W (a ρ) (fun r ρ1 => ∃ s u, r ρ1 = some s ∧ f s = some u ∧ Q (.own u) ρ1) E) : W (un1F f a ρ) Q E := by
  unfold un1F
  refine w_bind (h.mono fun r ρ1 ⟨s, u, e1, e2, q⟩ => ?_)
  refine w_lift (a := .own u) ?_ q
  show ((r ρ1).bind f).map Slot.own = _
  rw [e1, Option.bind_some, e2]; rfl
theorem w_op2 {f : T → T → Option T} (h : W (a ρ) (fun r ρ1 => W (b ρ1) (fun q ρ2 => ∃ s t u, r ρ2 = some s ∧ q ρ2 = some t ∧ f s t = some u ∧ Q u ρ2) E) E) : W (op2 f a b ρ) Q E := by
  unfold op2
  refine w_bind (h.mono fun r ρ1 h => w_bind (h.mono fun q ρ2 ⟨s, t, u, e1, e2, e3, h⟩ => ?_))
  exact w_lift (a := u) (by rw [e1, e2]; exact e3) h
theorem w_slM {lo hi : M (Option Int)} (h : W (a ρ) (fun r ρ1 => W (lo ρ1) (fun l ρ2 => W (hi ρ2) (fun u ρ3 => ∃ s t, r ρ3 = some s ∧ slP s l u = some t ∧ Q t ρ3) E) E) E) : W (slM a lo hi ρ) Q E := by
  unfold slM
  refine w_bind (h.mono fun r ρ1 h => w_bind (h.mono fun l ρ2 h => w_bind (h.mono fun u ρ3 ⟨s, t, e1, e2, q⟩ => ?_)))
  exact w_lift (a := t) (by rw [e1]; exact e2) q
theorem w_noO {Q : Option Int → Env → Prop} (h : Q none ρ) : W (noO ρ) Q E := h
theorem w_soO {Q : Option Int → Env → Prop} (h : W (m ρ) (fun t ρ1 => ∃ i, t = .int i ∧ Q (some i) ρ1) E) : W (soO m ρ) Q E := by
  refine w_bind (h.mono fun t ρ1 ⟨i, e, q⟩ => ?_)
  subst e
  exact q
theorem w_andE (h : W (m ρ) (fun t ρ1 => ∃ k, truT t = some k ∧ if k = true then W (n ρ1) Q E else Q t ρ1) E) : W (andE m n ρ) Q E := by
  refine w_bind (h.mono fun t ρ1 ⟨k, e, q⟩ => ?_)
  cases k <;> simp only [e] <;> exact q
theorem w_orE (h : W (m ρ) (fun t ρ1 => ∃ k, truT t = some k ∧ if k = true then Q t ρ1 else W (n ρ1) Q E) E) : W (orE m n ρ) Q E := by
  refine w_bind (h.mono fun t ρ1 ⟨k, e, q⟩ => ?_)
  cases k <;> simp only [e] <;> exact q
theorem w_notE (h : W (m ρ) (fun t ρ1 => ∃ k, truT t = some k ∧ Q (.bl (!k)) ρ1) E) : W (notE m ρ) Q E := by
  refine w_bind (h.mono fun t ρ1 ⟨k, e, q⟩ => ?_)
  exact w_lift (a := .bl (!k)) (by rw [e]; rfl) q
theorem w_ifM {t : M Bool} (h : W (t ρ) (fun k ρ1 => if k = true then W (m ρ1) Q E else W (n ρ1) Q E) E) : W (ifM t m n ρ) Q E := by
  refine w_bind (h.mono fun k ρ1 q => ?_)
  cases k <;> exact q
theorem w_tst {Q : Bool → Env → Prop} (h : W (m ρ) (fun t ρ1 => ∃ k, t = .bl k ∧ Q k ρ1) E) : W (tst m ρ) Q E := by
  refine w_bind (h.mono fun t ρ1 ⟨k, e, q⟩ => ?_)
  subst e
  exact q
theorem w_notM {t : M Bool} {Q : Bool → Env → Prop} (h : W (t ρ) (fun k ρ1 => Q (!k) ρ1) E) : W (notM t ρ) Q E := w_bind h
theorem w_andM {s t : M Bool} {Q : Bool → Env → Prop} (h : W (s ρ) (fun k ρ1 => if k = true then W (t ρ1) Q E else Q false ρ1) E) : W (andM s t ρ) Q E := by
  refine w_bind (h.mono fun k ρ1 q => ?_)
  cases k <;> exact q
theorem w_orM {s t : M Bool} {Q : Bool → Env → Prop} (h : W (s ρ) (fun k ρ1 => if k = true then Q true ρ1 else W (t ρ1) Q E) E) : W (orM s t ρ) Q E := by
  refine w_bind (h.mono fun k ρ1 q => ?_)
  cases k <;> exact q
theorem w_yes {Q : Bool → Env → Prop} (h : Q true ρ) : W (yesM ρ) Q E := h
/-! displays, arguments -/
theorem w_nilA {Q : List T → Env → Prop} (h : Q [] ρ) : W (nilA ρ) Q E := h
theorem w_consA {k : M (List T)} {Q : List T → Env → Prop} (h : W (m ρ) (fun t ρ1 => W (k ρ1) (fun ts ρ2 => Q (t :: ts) ρ2) E) E) : W (consA m k ρ) Q E := w_bind (h.mono fun _ _ h => w_bind h)
theorem w_starA {k : M (List T)} {Q : List T → Env → Prop} (h : W (a ρ) (fun r ρ1 => ∃ s ss, r ρ1 = some s ∧ seqT s = some ss ∧ W (k ρ1) (fun ts ρ2 => Q (ss ++ ts) ρ2) E) E) : W (starA a k ρ) Q E := by
  refine w_bind (h.mono fun r ρ1 ⟨s, ss, e1, e2, q⟩ => ?_)
  have e : (r ρ1).bind seqT = some ss := by rw [e1]; exact e2
  simp only [e]
  exact w_bind q
theorem w_tupM {k : M (List T)} (h : W (k ρ) (fun ts ρ1 => ts.length ≤ 100000 ∧ Q (.tup ts) ρ1) E) : W (tupM k ρ) Q E := w_bind (h.mono fun ts ρ1 ⟨l, q⟩ => w_lift (if_pos l) q)
theorem w_lstF {k : M (List T)} {Q : Slot → Env → Prop} (h : W (k ρ) (fun ts ρ1 => ts.length ≤ 100000 ∧ Q (.own (.lst ts)) ρ1) E) : W (lstF k ρ) Q E := w_bind (h.mono fun ts ρ1 ⟨l, q⟩ => w_lift (if_pos l) q)
def slT : Slot → Option T
  | .val t => some t
  | .own t => some t
  | _ => none
theorem w_frz {m : M Slot} (h : W (m ρ) (fun s ρ1 => ∃ t, slT s = some t ∧ Q t ρ1) E) : W (frz m ρ) Q E := by
  refine w_bind (h.mono fun s ρ1 ⟨t, e, q⟩ => ?_)
  cases s <;> cases e <;> exact q
theorem w_hnd {Q : Slot → Env → Prop} (h : W (m ρ) (fun t ρ1 => Q (.val t) ρ1) E) : W (hnd m ρ) Q E := w_bind h
theorem w_nilR {Q : List Ar → Env → Prop} (h : Q [] ρ) : W (nilR ρ) Q E := h
theorem w_consR {k : M (List Ar)} {Q : List Ar → Env → Prop} (h : W (m ρ) (fun t ρ1 => W (k ρ1) (fun as ρ2 => Q (.v t :: as) ρ2) E) E) : W (consR m k ρ) Q E := w_bind (h.mono fun _ _ h => w_bind h)
theorem w_lenR {i : Nat} {t : T} {k : M (List Ar)} {Q : List Ar → Env → Prop} (e : lentT ρ i = some t) (h : W (k ρ) (fun as ρ2 => Q (.m i :: as) ρ2) E) : W (lenR i k ρ) Q E := by
  unfold lenR; rw [if_pos (by rw [e]; rfl)]; exact w_bind h
/-- a call: the callee's answer, the slots that were lent -/
theorem w_callN {k : Nat} {F : FT} {ma : M (List Ar)} {Q : Slot → Env → Prop}
    (h : W (ma ρ) (fun as ρ1 => as.length = k ∧ decide (mss as).Nodup = true ∧ ∃ ins, inp ρ1 as = some ins ∧ WF (F ins) (fun s ps => ∃ ρ2, outp ρ1 as ps = some ρ2 ∧ Q s ρ2) (fun c v ps => ∃ ρ2, outp ρ1 as ps = some ρ2 ∧ E c v ρ2)) E) : W (callN k F ma ρ) Q E := by
  refine w_bind (h.mono fun as ρ1 ⟨e1, e2, ins, e3, q⟩ => ?_)
  rw [if_pos ⟨e1, of_decide_eq_true e2⟩]
  simp only [e3]
  unfold fit
  cases e : F ins with
  | ok s ps =>
    rw [e] at q
    obtain ⟨ρ2, e4, q⟩ := q
    simp only [e4]
    exact q
  | ex c v ps =>
    rw [e] at q
    obtain ⟨ρ2, e4, q⟩ := q
    simp only [e4]
    exact q
  | bad => rw [e] at q; exact q.elim
theorem w_lmM {i : Nat} {f : List T → List T → Option (T × List T)} {ma : M (List T)} {ts0 : List T} (e0 : lentT ρ i = some (.lst ts0))
    (h : W (ma ρ) (fun as ρ1 => ∃ ts t ts', lentT ρ1 i = some (.lst ts) ∧ f ts as = some (t, ts') ∧ Q t (setW ρ1 i (.lst ts'))) E) : W (lmM i f ma ρ) Q E := by
  unfold lmM
  rw [if_pos (by rw [e0]; rfl)]
  refine w_bind (h.mono fun as ρ1 ⟨ts, t, ts', e1, e2, q⟩ => ?_)
  simp only [e1, e2]
  exact q
/-! statements -/
theorem WS.mono {r : RS} {P' : Po} (h : WS r P) (h1 : ∀ ρ, P.nx ρ → P'.nx ρ) (h2 : ∀ s ρ, P.rt s ρ → P'.rt s ρ) (h3 : ∀ ρ, P.bk ρ → P'.bk ρ) (h4 : ∀ ρ, P.ct ρ → P'.ct ρ) (h5 : ∀ c v ρ, P.ex c v ρ → P'.ex c v ρ) : WS r P' := by
  cases r with
  | nx ρ => exact h1 _ h
  | rt s ρ => exact h2 _ _ h
  | bk ρ => exact h3 _ h
  | ct ρ => exact h4 _ h
  | ex c v ρ => exact h5 _ _ _ h
  | bad => exact h
theorem ws_seq {a b : S} (h : WS (a ρ) { P with nx := fun ρ1 => WS (b ρ1) P }) : WS (seqS a b ρ) P := by
  unfold seqS
  cases q : a ρ with
  | nx ρ1 => rw [q] at h; exact h
  | rt s ρ1 => rw [q] at h; exact h
  | bk ρ1 => rw [q] at h; exact h
  | ct ρ1 => rw [q] at h; exact h
  | ex c v ρ1 => rw [q] at h; exact h
  | bad => rw [q] at h; exact h
theorem ws_thenS {m : M α} {f : α → S} (h : W (m ρ) (fun a ρ1 => WS (f a ρ1) P) P.ex) : WS (m.thenS f ρ) P := by
  unfold M.thenS
  cases q : m ρ with
  | ok a ρ1 => rw [q] at h; exact h
  | ex c v ρ1 => rw [q] at h; exact h
  | bad => rw [q] at h; exact h
theorem ws_nx (h : P.nx ρ) : WS (RS.nx ρ) P := h
theorem ws_ret {m : M Slot} (h : W (m ρ) (fun s ρ1 => P.rt s ρ1) P.ex) : WS (retS m ρ) P := ws_thenS h
theorem ws_if {t : M Bool} {a b : S} (h : W (t ρ) (fun k ρ1 => if k = true then WS (a ρ1) P else WS (b ρ1) P) P.ex) : WS (ifS t a b ρ) P := by
  refine ws_thenS (h.mono fun k ρ1 q => ?_)
  cases k <;> exact q
theorem ws_ex (h : W (m ρ) (fun _ ρ1 => P.nx ρ1) P.ex) : WS (exS m ρ) P := ws_thenS h
theorem ws_set {i : Nat} (h : W (m ρ) (fun t ρ1 => P.nx (ρ1.set i (.val t))) P.ex) : WS (setS i m ρ) P := ws_thenS h
theorem ws_setF {i : Nat} {m : M Slot} (h : W (m ρ) (fun s ρ1 => (∃ t, s = .val t ∧ P.nx (ρ1.set i (.val t))) ∨ ∃ t, s = .own t ∧ P.nx (ρ1.set i (.own t))) P.ex) : WS (setF i m ρ) P := by
  refine ws_thenS (h.mono fun s ρ1 q => ?_)
  rcases q with ⟨t, rfl, q⟩ | ⟨t, rfl, q⟩ <;> exact q
theorem ws_par {i j : Nat} (h : W (m ρ) (fun s ρ1 => W (n ρ1) (fun t ρ2 => P.nx ((ρ2.set i (.val s)).set j (.val t))) P.ex) P.ex) : WS (parS i j m n ρ) P := ws_thenS (h.mono fun _ _ h => ws_thenS h)
theorem ws_asg {g : T → Env → Option Env} (h : W (m ρ) (fun t ρ1 => ∃ ρ2, g t ρ1 = some ρ2 ∧ P.nx ρ2) P.ex) : WS (asgS m g ρ) P := by
  refine ws_thenS (h.mono fun t ρ1 ⟨ρ2, e, q⟩ => ?_)
  simp only [e]
  exact q
theorem ws_store {i : Nat} {mi : M T} (h : W (m ρ) (fun t ρ1 => ∃ c0, lentT ρ1 i = some c0 ∧ W (mi ρ1) (fun k ρ2 => ∃ c c', lentT ρ2 i = some c ∧ putT c k t = some c' ∧ P.nx (setW ρ2 i c')) P.ex) P.ex) : WS (storeS i m mi ρ) P := by
  refine ws_thenS (h.mono fun t ρ1 ⟨c0, e0, q⟩ => ?_)
  rw [if_pos (by rw [e0]; rfl)]
  refine ws_thenS (q.mono fun k ρ2 ⟨c, c', e1, e2, q⟩ => ?_)
  unfold mutS
  rw [e1, Option.bind_some, e2]
  exact q
/-- a loop over items: In by the turns done -/
theorem ws_loop {g : T → Env → Option Env} {b : S} {ts : List T} (In : Nat → Env → Prop) (h0 : In 0 ρ)
    (hs : ∀ i t ρ, ts[i]? = some t → In i ρ → ∃ ρ1, g t ρ = some ρ1 ∧ WS (b ρ1) { P with nx := In (i + 1), ct := In (i + 1), bk := P.nx }) (hd : ∀ ρ, In ts.length ρ → P.nx ρ) : WS (loopS g b ts ρ) P := by
  have key : ∀ (r : List T) (i : Nat) (ρ : Env), r = ts.drop i → i ≤ ts.length → In i ρ → WS (loopS g b r ρ) P := by
    intro r
    induction r with
    | nil =>
      intro i ρ e hi h
      have := congrArg List.length e
      rw [List.length_drop, List.length_nil] at this
      have e2 : i = ts.length := by omega
      subst e2
      exact hd ρ h
    | cons t r ih =>
      intro i ρ e hi h
      have hlt : i < ts.length := by
        by_cases q : i < ts.length
        · exact q
        · rw [List.drop_eq_nil_of_le (by omega)] at e; cases e
      rw [List.drop_eq_getElem_cons hlt] at e
      obtain ⟨e1, e2⟩ := List.cons.inj e
      obtain ⟨ρ1, eg, q⟩ := hs i t ρ (by rw [List.getElem?_eq_getElem hlt, e1]) h
      unfold loopS
      simp only [eg]
      cases qb : b ρ1 with
      | nx ρ2 => rw [qb] at q; exact ih (i + 1) ρ2 e2 hlt q
      | ct ρ2 => rw [qb] at q; exact ih (i + 1) ρ2 e2 hlt q
      | bk ρ2 => rw [qb] at q; exact q
      | rt s ρ2 => rw [qb] at q; exact q
      | ex c v ρ2 => rw [qb] at q; exact q
      | bad => rw [qb] at q; exact q
  exact key ts 0 ρ rfl (Nat.zero_le _) h0
theorem ws_for {g : T → Env → Option Env} {b : S} {mi : M (List T)}
    (h : W (mi ρ) (fun ts ρ1 => ∃ In : Nat → Env → Prop, In 0 ρ1 ∧ (∀ i t ρ, ts[i]? = some t → In i ρ → ∃ ρ1, g t ρ = some ρ1 ∧ WS (b ρ1) { P with nx := In (i + 1), ct := In (i + 1), bk := P.nx }) ∧ ∀ ρ, In ts.length ρ → P.nx ρ) P.ex) : WS (forS mi g b ρ) P :=
  ws_thenS (h.mono fun _ _ ⟨In, h0, hs, hd⟩ => ws_loop In h0 hs hd)
/-- a while: In by the turns that are left at most -/
theorem ws_whileN {c : M Bool} {b : S} (In : Nat → Env → Prop) (hs : ∀ k ρ, In k ρ → W (c ρ) (fun t ρ1 => if t = true then WS (b ρ1) { P with nx := fun ρ2 => ∃ k', k' < k ∧ In k' ρ2, ct := fun ρ2 => ∃ k', k' < k ∧ In k' ρ2, bk := P.nx } else P.nx ρ1) P.ex) :
    ∀ (n k : Nat) (ρ : Env), k < n → In k ρ → WS (whileN c b n ρ) P := by
  intro n
  induction n with
  | zero => intro k ρ h; omega
  | succ n ih =>
    intro k ρ hk h
    unfold whileN
    have q := hs k ρ h
    cases qc : c ρ with
    | ok t ρ1 =>
      rw [qc] at q
      cases t with
      | false => exact q
      | true =>
        have q : WS (b ρ1) _ := q
        simp only
        cases qb : b ρ1 with
        | nx ρ2 => rw [qb] at q; obtain ⟨k', h1, h2⟩ := q; exact ih k' ρ2 (by omega) h2
        | ct ρ2 => rw [qb] at q; obtain ⟨k', h1, h2⟩ := q; exact ih k' ρ2 (by omega) h2
        | bk ρ2 => rw [qb] at q; exact q
        | rt s ρ2 => rw [qb] at q; exact q
        | ex c v ρ2 => rw [qb] at q; exact q
        | bad => rw [qb] at q; exact q
    | ex c v ρ1 => rw [qc] at q; exact q
    | bad => rw [qc] at q; exact q
theorem ws_while {c : M Bool} {b : S} (k : Nat) (In : Nat → Env → Prop) (hk : k < FUEL) (h0 : In k ρ) (hs : ∀ k ρ, In k ρ → W (c ρ) (fun t ρ1 => if t = true then WS (b ρ1) { P with nx := fun ρ2 => ∃ k', k' < k ∧ In k' ρ2, ct := fun ρ2 => ∃ k', k' < k ∧ In k' ρ2, bk := P.nx } else P.nx ρ1) P.ex) :
    WS (whileN c b FUEL ρ) P := ws_whileN In hs FUEL k ρ hk h0
/-! comprehensions -/
theorem w_compL {own : List Nat} {g : T → Env → Option Env} {c : M Bool} {el : M T} {ts : List T} {Q : List T → Env → Prop} (In : Nat → List T → Env → Prop) (h0 : In 0 [] ρ)
    (hs : ∀ i ys t ρ, ts[i]? = some t → In i ys ρ → ∃ ρ1, g t ρ = some ρ1 ∧ W (c ρ1) (fun k ρ2 => if k = true then W (el ρ2) (fun y ρ3 => In (i + 1) (ys ++ [y]) (wipeR ρ3 own)) (fun _ _ _ => False) else In (i + 1) ys (wipeR ρ2 own)) (fun _ _ _ => False))
    (hd : ∀ ys ρ, In ts.length ys ρ → Q ys ρ) : W (compL own g c el ts ρ) Q E := by
  have key : ∀ (r : List T) (i : Nat) (ys : List T) (ρ : Env), r = ts.drop i → i ≤ ts.length → In i ys ρ → W (compL own g c el r ρ) (fun zs ρ => Q (ys ++ zs) ρ) E := by
    intro r
    induction r with
    | nil =>
      intro i ys ρ e hi h
      have := congrArg List.length e
      rw [List.length_drop, List.length_nil] at this
      have e2 : i = ts.length := by omega
      subst e2
      show Q (ys ++ []) ρ
      rw [List.append_nil]
      exact hd ys ρ h
    | cons t r ih =>
      intro i ys ρ e hi h
      have hlt : i < ts.length := by
        by_cases q : i < ts.length
        · exact q
        · rw [List.drop_eq_nil_of_le (by omega)] at e; cases e
      rw [List.drop_eq_getElem_cons hlt] at e
      obtain ⟨e1, e2⟩ := List.cons.inj e
      obtain ⟨ρ1, eg, q⟩ := hs i ys t ρ (by rw [List.getElem?_eq_getElem hlt, e1]) h
      unfold compL
      simp only [eg]
      cases qc : c ρ1 with
      | ex _ _ _ => rw [qc] at q; exact q.elim
      | bad => rw [qc] at q; exact q.elim
      | ok k ρ2 =>
        rw [qc] at q
        cases k with
        | false => exact ih (i + 1) ys _ e2 hlt q
        | true =>
          have q : W (el ρ2) _ _ := q
          simp only
          cases qe : el ρ2 with
          | ex _ _ _ => rw [qe] at q; exact q.elim
          | bad => rw [qe] at q; exact q.elim
          | ok y ρ3 =>
            rw [qe] at q
            have z := ih (i + 1) (ys ++ [y]) _ e2 hlt q
            simp only
            cases qr : compL own g c el r (wipeR ρ3 own) with
            | ok zs ρ4 =>
              rw [qr] at z
              have z : Q (ys ++ [y] ++ zs) ρ4 := z
              rw [List.append_assoc] at z
              exact z
            | ex _ _ _ => rw [qr] at z; exact z
            | bad => rw [qr] at z; exact z
  exact (key ts 0 [] ρ rfl (Nat.zero_le _) h0).mono fun zs ρ h => by rw [List.nil_append] at h; exact h
theorem w_comp {own : List Nat} {mi : M (List T)} {g : T → Env → Option Env} {c : M Bool} {el : M T} {Q : Slot → Env → Prop}
    (h : W (mi ρ) (fun ts ρ1 => ts.length ≤ 100000 ∧ ∃ In : Nat → List T → Env → Prop, In 0 [] (wipeR ρ1 own) ∧
      (∀ i ys t ρ, ts[i]? = some t → In i ys ρ → ∃ ρ1, g t ρ = some ρ1 ∧ W (c ρ1) (fun k ρ2 => if k = true then W (el ρ2) (fun y ρ3 => In (i + 1) (ys ++ [y]) (wipeR ρ3 own)) (fun _ _ _ => False) else In (i + 1) ys (wipeR ρ2 own)) (fun _ _ _ => False)) ∧
      ∀ ys ρ, In ts.length ys ρ → Q (.own (.lst ys)) ρ) E) : W (compF own mi g c el ρ) Q E := by
  refine w_bind (h.mono fun ts ρ1 ⟨hl, In, h0, hs, hd⟩ => ?_)
  show W (if ts.length ≤ 100000 then _ else _) Q E
  rw [if_pos hl]
  have z := w_compL (E := E) (Q := fun ys ρ => Q (.own (.lst ys)) ρ) In h0 hs hd
  cases q : compL own g c el ts (wipeR ρ1 own) with
  | ok ys ρ2 => rw [q] at z; exact z
  | ex _ _ _ => rw [q] at z; exact z
  | bad => rw [q] at z; exact z
theorem w_itA {Q : List T → Env → Prop} (h : W (m ρ) (fun t ρ1 => ∃ ts, itemsT t = some ts ∧ Q ts ρ1) E) : W (itA m ρ) Q E := w_bind (h.mono fun _ _ ⟨_, e, q⟩ => w_lift e q)
theorem w_rng1 {Q : List T → Env → Prop} (h : W (m ρ) (fun t ρ1 => ∃ k : Nat, t = .int k ∧ k < 2 ^ 62 ∧ Q (rngT 0 k) ρ1) E) : W (rng1 m ρ) Q E := by
  refine w_bind (h.mono fun t ρ1 ⟨k, e, hk, q⟩ => ?_)
  subst e
  have hc : -(2 ^ 62) ≤ (k : Int) ∧ (k : Int) < 2 ^ 62 := ⟨by omega, by omega⟩
  have he : (if -(2 ^ 62) ≤ (k : Int) ∧ (k : Int) < 2 ^ 62 then some (rngT 0 (k : Int).toNat) else none) = some (rngT 0 k) := by rw [if_pos hc, Int.toNat_natCast]
  show W (lift (if -(2 ^ 62) ≤ (k : Int) ∧ (k : Int) < 2 ^ 62 then some (rngT 0 (k : Int).toNat) else none) ρ1) Q E
  rw [he]
  exact q
/-! a def -/
theorem wf_def {n : Nat} {body : S} {as : Env} {Q : Slot → Env → Prop}
    (h : WS (body (as ++ List.replicate (n - as.length) .un)) { nx := fun ρ => ∃ ps, backs as ρ = some ps ∧ Q (.val .non) ps, rt := fun s ρ => ∃ ps, backs as ρ = some ps ∧ Q s ps, ex := fun c v ρ => ∃ ps, backs as ρ = some ps ∧ E c v ps }) : WF (denDef n body as) Q E := by
  unfold denDef
  cases q : body (as ++ List.replicate (n - as.length) .un) with
  | nx ρ => rw [q] at h; obtain ⟨ps, e, z⟩ := h; simp only [e]; exact z
  | rt s ρ => rw [q] at h; obtain ⟨ps, e, z⟩ := h; simp only [e]; exact z
  | ex c v ρ => rw [q] at h; obtain ⟨ps, e, z⟩ := h; simp only [e]; exact z
  | bk ρ => rw [q] at h; exact h.elim
  | ct ρ => rw [q] at h; exact h.elim
  | bad => rw [q] at h; exact h.elim
end
/-! answers of operations -/
theorem mulR_ii {a b : Int} (h : CMulW a b) : mulR (.int a) (.int b) = some (.int (a * b)) := if_pos h
theorem modP_ii {a b : Int} (h : 0 < b) : modP (.int a) (.int b) = some (.int (a % b)) := if_pos h
theorem powP_ii {a b : Int} (h : 0 ≤ b) (h2 : (Builtin.Int.intBits a : Int) * b ≤ 2 ^ 27) : powP (.int a) (.int b) = some (.int (a ^ b.toNat)) := if_pos ⟨h, h2⟩
theorem fdvP_ii {a b : Int} (h : b ≠ 0) (h2 : b.natAbs.log2 < 9000) : fdvP (.int a) (.int b) = some (.int (a.fdiv b)) := if_pos ⟨h, h2⟩
theorem mk2P_ii {n u : Int} (h : u ≠ 0 ∧ n.natAbs < 2 ^ 8000 ∧ u.natAbs < 2 ^ 8000) : mk2P (.int n) (.int u) = some (.rat (Rat.divInt n u)) := if_pos h
theorem mk1P_ii {n : Int} (h : n.natAbs < 2 ^ 8000) : mk1P (.int n) = some (.rat (n : Rat)) := if_pos h
theorem ixP_lst {ts : List T} {i : Nat} {t : T} (h : ts[i]? = some t) : ixP (.lst ts) (.int i) = some t := atI_nat h
theorem ixP_tup {ts : List T} {i : Nat} {t : T} (h : ts[i]? = some t) : ixP (.tup ts) (.int i) = some t := atI_nat h
end Dv
/-! DT: two comparisons in a row; raise where it is not reached. -/
namespace Dv
open PySem PySem.Spec PyProof.Rows L2 Hv
section
variable {X : Cx} {W : WX} {K : PySem.W.Frag} {β : Bc} {x y : Sx} {e a b c o : Expr} {Q : VK} {pos p p2 : Pos} {ma mb : M Rdr} {m : M T}
def chM (f f' : T → T → Option T) (m1 m2 m3 : M T) : M T := m1.bind fun s => m2.bind fun t ρ => match f s t with
  | some (.bl true) => (m3.bind fun u => lift (f' t u)) ρ
  | some (.bl false) => .ok (.bl false) ρ
  | _ => .bad
theorem chain_core {β : Bc} {x : Sx} {Q : VK} {op op' : CmpOp} {f f' : T → T → Option T} {m1 m2 m3 : M T} (ha : Den X W a m1) (hb : Den X W b m2) (hc : Den X W c m3) (d : OpD X W f (OV X (compareOp op))) (d' : OpD X W f' (OV X (compareOp op')))
    (hs : St X.K β x) (g : GoE X.K β W x (chM f f' m1 m2 m3 x.ρ) Q) : tChain (OV X (compareOp op)) (OV X (compareOp op')) (EV X a) (EV X b) (EV X c) x.σ x.H Q := by
  refine ev_mono (ha.then hs g) ?_
  rintro v H1 ⟨F1, ρ1, s, at1, _, g1⟩
  refine ev_mono (hb.then (x := ⟨F1, H1, x.σ, ρ1⟩) at1.st g1) ?_
  rintro w H2 ⟨F2, ρ2, t, at2, _, g2⟩
  have r1 := at2.nx.2.rep at1.st at1.rep
  cases q : f s t with
  | none => simp only [q] at g2; exact g2.elim
  | some z =>
    cases z <;> (try (simp only [q] at g2; exact g2.elim))
    rename_i k
    refine d β ⟨F2, H2, x.σ, ρ2⟩ v w s t _ at2.st (.inl r1) (.inl at2.rep) ?_
    rw [q]
    intro F3 H3 z n3 r3
    cases r3.bl'
    refine ⟨k, rfl, ?_⟩
    cases k
    · simp only [q] at g2
      exact g2 _ _ _ n3 (.bl _)
    · simp only [q] at g2
      have g3 := GoE.on n3 rfl g2
      refine ev_mono (hc.then (x := ⟨F3, H3, x.σ, ρ2⟩) n3.1 g3) ?_
      rintro u H4 ⟨F4, ρ4, t4, at4, _, g4⟩
      exact d' β ⟨F4, H4, x.σ, ρ4⟩ w u t t4 Q at4.st (.inl (at4.nx.2.rep n3.1 (n3.2.rep at2.st at2.rep))) (.inl at4.rep) g4
theorem den_chain {op op' : CmpOp} {f f' : T → T → Option T} {m1 m2 m3 : M T} (ha : Den X W a m1) (hb : Den X W b m2) (hc : Den X W c m3) (d : OpD X W f (OV X (compareOp op))) (d' : OpD X W f' (OV X (compareOp op')))
    (hm : lastMarks [op, op'] [b, c] = false := by with_unfolding_all rfl) : Den X W (.Compare a [op, op'] [b, c] pos) (chM f f' m1 m2 m3) := by
  intro β x Q hs g
  exact ⟨_, pe_chain op_ov op_ov pe_ev pe_ev pe_ev hm, chain_core ha hb hc d d' hs g⟩
theorem dent_chain0 {β : Bc} {x : Sx} {Q : Bool → Hp → Prop} {op op' : CmpOp} {f f' : T → T → Option T} {m1 m2 m3 : M T} (hb : Den X W b m2) (hc : Den X W c m3) (ha : Den X W a m1) (d : OpD X W f (OV X (compareOp op))) (d' : OpD X W f' (OV X (compareOp op')))
    (hm : lastMarks [op, op'] [b, c] = false) (hs : St X.K β x) (g : GoT X.K β W x (tst (chM f f' m1 m2 m3) x.ρ) Q) : TV X (.Compare a [op, op'] [b, c] pos) x.σ x.H Q := by
  refine ⟨_, pt_chain op_ov op_ov pe_ev pe_ev pe_ev hm, ?_⟩
  have g' : GoE X.K β W x (chM f f' m1 m2 m3 x.ρ) fun v H' => ∃ k, v = .bl k ∧ Q k H' := by
    unfold tst M.bind at g
    cases q : chM f f' m1 m2 m3 x.ρ with
    | ok t ρ1 =>
      rw [q] at g
      intro F' H' v n r
      simp only [Dv.R.bind] at g
      cases t <;> simp only [lift] at g <;> first | exact g.elim | skip
      rename_i b
      cases r.bl'
      exact ⟨b, rfl, g _ _ n⟩
    | ex c u ρ1 => rw [q] at g; exact g
    | bad => rw [q] at g; exact g
  exact chain_core ha hb hc d d' hs g'
theorem dent_chain {op op' : CmpOp} {f f' : T → T → Option T} {m1 m2 m3 : M T} (ha : Den X W a m1) (hb : Den X W b m2) (hc : Den X W c m3) (d : OpD X W f (OV X (compareOp op))) (d' : OpD X W f' (OV X (compareOp op')))
    (hm : lastMarks [op, op'] [b, c] = false := by with_unfolding_all rfl) : DenT X W (.Compare a [op, op'] [b, c] pos) (tst (chM f f' m1 m2 m3)) := by
  exact fun β x Q hs g => dent_chain0 hb hc ha d d' hm hs g
def badS : S := fun _ => .bad
theorem dens_bad {st : Stmt} : DenS X W st badS := fun β x D hs g => g.elim
def badM {α : Type} : M α := fun _ => .bad
theorem den_bad : Den X W e badM := fun β x Q hs g => g.elim
theorem denf_bad : DenF X W e badM := fun β x Q hs g => g.elim
end
end Dv
/-! DU: {**d}: a mapping merged into a dict. -/
namespace PySem
open PyProof.Rows
section
variable {K : Type} [DecidableEq K] {prog : Program} {w : World} {A : Around} {E : Value → Shared → Prop} {s : Shared} {knd : KeyKind prog w K}
theorem dvPut {d : Addr} {kvs : List (K × Value)} {k : K} {key v : Value} {Q : Unit → Shared → Prop} (hkey : knd.is k key = true) (hm : s.heap.DictOf knd d kvs)
    (hQ : ∀ h', h'.DictOf knd d (stored kvs k v) → Heap.SameBut d s.heap h' → Q () { s with heap := h' })
    (hsz : kvs.length ≤ sizeLine) :
    wpAny (model prog w) A (dictPut d (knd.hash k) key v) Q E s := by
  obtain ⟨o, es, ep, ho, hc, hd, hk, hp, hn⟩ := hm
  have hes : es.size ≤ sizeLine := by have e1 := hp.length; have e2 : es.toList.length = es.size := by simp
                                      omega
  unfold dictPut
  refine wpAny_bind (wpAny_dictFind_of hkey ho hd hk ?_)
  have hidx : (es.findIdx? fun e => knd.is k e.key) = kvs.findIdx? fun kv => decide (kv.1 = k) := by
    rw [← hp.findIdx k]; obtain ⟨l⟩ := es; simp
  cases hi : es.findIdx? fun e => knd.is k e.key with
  | some i =>
    refine wpAny_updateDict ho hd (hQ _ ⟨_, _, ep, Heap.get?_update_self _ ho (Obj.isFreed_of_dict (Obj.data_mapDict hd _)),
      hc.mapDict _, Obj.data_mapDict hd _, hk.modify _ _, ?_, ?_⟩ (Heap.SameBut.update ..))
    · rw [stored, if_pos (any_of_findIdx_some (hidx ▸ hi))]
      have hl : (es.toList.findIdx? fun e => knd.is k e.key) = some i := by rw [← hi]; obtain ⟨l⟩ := es; simp
      have := hp.modify hn hl v
      obtain ⟨l⟩ := es
      simpa using this
    · rw [stored, if_pos (any_of_findIdx_some (hidx ▸ hi)), keys_map_store]; exact hn
  | none =>
    have hnot : k ∉ kvs.map (·.1) := not_mem_of_findIdx_none (hidx ▸ hi)
    have hany : ¬ (kvs.any fun kv => decide (kv.1 = k)) = true := by
      rw [List.any_eq_true]; rintro ⟨kv, hkv, he⟩
      exact hnot (List.mem_map.mpr ⟨kv, hkv, of_decide_eq_true he⟩)
    refine wpAny_updateDictKeys (hz := hes) ho hd (hQ _ ⟨_, _, ep + 1, Heap.get?_update_self _ ho (Obj.isFreed_of_dict (Obj.data_mapDictKeys hd _)),
      hc.mapDictKeys _, Obj.data_mapDictKeys hd _, hk.push hkey _, ?_, ?_⟩ (Heap.SameBut.update ..))
    · rw [stored, if_neg hany]
      have := hp.append hkey (knd.hash k) v
      obtain ⟨l⟩ := es
      simpa using this
    · rw [stored, if_neg hany, List.map_append, List.nodup_append]
      refine ⟨hn, by simp, ?_⟩
      intro a ha b hb
      simp only [List.map_cons, List.map_nil, List.mem_singleton] at hb
      subst hb
      exact fun e => hnot (e ▸ ha)
theorem dvMerge {d o : Addr} {kvs more : List (K × Value)} {Q : Unit → Shared → Prop} (hdo : d ≠ o) (hoS : (o == sysModules) = false)
    (hd : s.heap.DictOf knd d kvs) (ho : s.heap.DictOf knd o more) (hnr : ∀ k v, knd.is k v = true → ∀ a, v ≠ .ref a)
    (hQ : ∀ h', h'.DictOf knd d (merged kvs more) → h'.DictOf knd o more → Heap.SameBut d s.heap h' → Q () { s with heap := h' })
    (hsz : kvs.length + more.length ≤ sizeLine) :
    wpAny (model prog w) A (mergeMapping d (.ref o) false) Q E s := by
  have hT := ho.typeIs
  obtain ⟨od, esd, epd, hod, hcd, hdd, hkd, hpd, hnd⟩ := id hd
  obtain ⟨oo, eso, epo, hoo, hco, hdo', hko, hpo, hno⟩ := id ho
  have hlen : more.length = eso.size := by rw [← hpo.length]; simp
  unfold mergeMapping
  refine wpAny_bind (wpAny_isInstance (b := true) hT isSubtype_dict_dict ?_)
  simp only [if_true]
  refine wpAny_bind (wpAny_specialOf hT F.slot_dict_iter.lookup (wpAny_bind (wpAny_pure ?_)))
  rw [show ((some (Value.builtin "dict.__iter__") : Option Value) == some (.builtin "dict.__iter__")) = true by decide]
  dsimp only
  rw [if_neg (by rw [hoS]; exact Bool.false_ne_true)]
  have loop : wpAny (model prog w) A (do
      let l ← dictEntries o
      let epoch ← dictEpoch o
      forIn (List.range l.size) PUnit.unit fun i (_ : PUnit) => (do
          let l' ← dictEntries o
          match l'[i]? with
            | some e => do
              holding [e.key, e.val] (dictPut d e.hash e.key e.val)
              let ep' ← dictEpoch o
              if (ep' != epoch) = true then do
                  (unsupported "dict.changed-during-merge" : Sem PUnit)
                  pure (ForInStep.yield PUnit.unit)
                else pure (ForInStep.yield PUnit.unit)
            | _ => do
              (unsupported "dict.changed-during-merge" : Sem PUnit)
              pure (ForInStep.yield PUnit.unit) : Sem (ForInStep PUnit))
      pure ()) Q E s := by
    refine wpAny_bind (wpAny_dictEntries hoo hdo' ?_)
    refine wpAny_bind (wpAny_dictEpoch hoo hdo' ?_)
    refine wpAny_bind ?_
    refine wpAny_forIn_list _
      (fun rest _ s' => ∃ h' i, s' = { s with heap := h' } ∧ rest = (List.range eso.size).drop i ∧ i ≤ eso.size ∧ h'.DictOf knd d (merged kvs (more.take i)) ∧ h'.get? o = some oo ∧ Heap.SameBut d s.heap h')
      _ ?_ ?_ _ _ ⟨s.heap, 0, rfl, by simp, Nat.zero_le _, by simpa [merged] using hd, hoo, Heap.SameBut.refl _ _⟩
    · rintro x rest b s' ⟨h', i, rfl, hr, hi, hd', hoo', hs'⟩
      have hlt : i < eso.size := by
        rcases Nat.lt_or_ge i eso.size with h | h
        · exact h
        · rw [List.drop_eq_nil_of_le (by simpa using h)] at hr; exact nomatch hr
      obtain ⟨rfl, hrest⟩ : x = i ∧ rest = (List.range eso.size).drop (i + 1) := by
        rw [List.drop_eq_getElem_cons (by simpa using hlt)] at hr
        injection hr with h1 h2
        exact ⟨by simpa using h1, h2⟩
      refine wpAny_bind (wpAny_dictEntries hoo' hdo' ?_)
      rw [Array.getElem?_eq_getElem hlt]
      obtain ⟨kv, hkv⟩ : ∃ kv, more[x]? = some kv := ⟨more[x]'(by rw [hlen]; exact hlt), List.getElem?_eq_getElem _⟩
      obtain ⟨k, v⟩ := kv
      obtain ⟨hkey, hval⟩ := hpo.get? (e := eso[x]) (by simp [hlt]) hkv
      obtain ⟨k', hkey', hhash⟩ := hko eso[x] (Array.getElem_mem hlt)
      obtain rfl : k' = k := knd.inj _ _ _ hkey' hkey
      show wpAny _ _ (holding [eso[x].key, eso[x].val] (dictPut d eso[x].hash eso[x].key eso[x].val) >>= _) _ _ _
      rw [hhash, hval]
      have hmx : (merged kvs (more.take x)).length ≤ sizeLine := by
        have e1 := merged_length_le kvs (more.take x)
        have e2 : (more.take x).length ≤ more.length := by rw [List.length_take]; omega
        omega
      refine wpAny_bind (wpAny_holding (dvPut (hsz := hmx) hkey hd' fun h'' hd'' hs'' => ?_))
      have hoo'' : h''.get? o = some oo := (hs''.2 o (Ne.symm hdo)).trans hoo'
      refine wpAny_bind (wpAny_dictEpoch hoo'' hdo' ?_)
      rw [if_neg (by simp)]
      exact wpAny_pure ⟨h'', x + 1, rfl, hrest, hlt, by rw [merged_take_succ kvs more x (k', v) hkv]; exact hd'', hoo'', hs'.trans hs''⟩
    · rintro b s' ⟨h', i, rfl, hr, hi, hd', hoo', hs'⟩
      have hin : i = eso.size := by
        rcases Nat.lt_or_ge i eso.size with h | h
        · rw [List.drop_eq_getElem_cons (by simpa using h)] at hr; exact nomatch hr
        · exact Nat.le_antisymm hi h
      refine wpAny_pure (hQ h' ?_ ⟨oo, eso, epo, hoo', hco, hdo', hko, hpo, hno⟩ hs')
      rw [hin, ← hlen, List.take_length] at hd'; exact hd'
  refine wpAny_bind (wpAny_dictEntries hod hdd ?_)
  split
  · refine wpAny_bind (wpAny_dictEntries hoo hdo' ?_)
    simp only [Bool.false_eq_true, if_false]
    refine wpAny_bind ?_
    rw [← Array.forIn_toList]
    refine wpAny_forIn_list _ (fun rest _ s' => s' = s ∧ ∀ e ∈ rest, e ∈ eso.toList) _ ?_ ?_ _ _ ⟨rfl, fun e he => he⟩
    · rintro e rest b s' ⟨rfl, hr⟩
      have he := hr e List.mem_cons_self
      obtain ⟨k', hkey', hhash⟩ := hko e (Array.mem_toList_iff.mp he)
      have nr := hnr _ _ hkey'
      split
      · rename_i a ha
        exact absurd ha (nr a)
      · exact wpAny_pure ⟨rfl, fun e he => hr e (List.mem_cons_of_mem _ he)⟩
    · rintro b s' ⟨rfl, _⟩
      exact loop
  · simp only [Bool.false_eq_true, if_false]
    exact loop
end
end PySem
namespace Dv
open PySem PySem.Spec PyProof.Rows L2 Hv
section
variable {X : Cx} {W : WX} {K : PySem.W.Frag} {β : Bc} {x y : Sx} {e a b c o : Expr} {Q : VK} {pos p p2 : Pos} {ma mb : M Rdr} {m : M T}
def tDStar (te : TE) : TE := fun σ H Q => ∀ D, H D = none → te σ (upd H D (.dK [])) fun x H2 => H2 D = some (.dK []) ∧ ∃ a kvs, x = .ref a ∧ Rd H2 a (.dK kvs) ∧ a ≠ D ∧ kvs.length ≤ 100000 ∧ Q (.ref D) (upd H2 D (.dK (mergeK [] kvs)))
theorem mix_nr {P : Program} {w : World} (k : Key) (v : Value) (h : (mixKind P w).is k v = true) (a : Addr) : v ≠ .ref a := by
  intro e
  subst e
  cases k <;> cases h
theorem pe_dstar {te : TE} (he : PE X e te) : PE X (.Dict [none] [e] pos) (tDStar te) := by
  refine ⟨fun pins s σ H Q I q => ?_⟩
  have hn := I.hok.fresh (Nat.le_refl s.heap.objs.size)
  have I1 := I.laid (a := s.heap.objs.size) (o := .dK []) (h' := s.heap.push { cls := .type "dict", data := .dict #[] }) (t' := s.toks) (fun _ _ q => Heap.get?_push_of_some _ q) (Nat.le_refl _) (dk_empty s.heap I.big)
  rw [arm_eval_Dict]
  refine wpAny_bind (wpAny_standAt ?_)
  show wpAny _ _ (dictDisplay [(none, do let x ← eval e X.env; standAt pos; pure x)]) _ _ _
  unfold dictDisplay
  simp only [List.forIn_cons, List.forIn_nil, List.isEmpty_nil, if_true, pure_bind, bind_assoc]
  refine wpAny_bind (wpAny_alloc ?_)
  refine wpAny_bind (wpAny_holding (wpAny_bind (thn (he.run pins _ σ _ _ I1 (q _ hn)) fun u s2 ⟨x, H2, I2, rx, hD, a, kvs, ex, rd, ne, hl, q2⟩ => wpAny_bind (wpAny_standAt (wpAny_pure ?_)))))
  subst ex
  obtain rfl : u = Value.ref a := rx
  obtain ⟨z, hd, vs0, r0, dd⟩ := dk_of I2.hok hD
  cases r0
  obtain ⟨z2, hs2, vs, rel, dd2⟩ := dk_rd I2.hok rd
  have hz : vs.length ≤ sizeLine := by rw [← rel.length]; exact z2
  have key : ∀ E : Value → Shared → Prop, wpAny (model X.prog X.w) X.A (mergeMapping s.heap.objs.size (.ref a) false) (fun _ s' => Inv X pins σ (upd H2 s.heap.objs.size (.dK (mergeK [] kvs))) s') E s2 := by
    intro E
    refine dvMerge (knd := mixKind X.prog X.w) (Ne.symm ne) hs2 dd dd2 (fun k v h a => mix_nr k v h a) (fun h' dd' _ hs => ?_) (by simpa using hz)
    have hzm : (mergeK [] kvs).length ≤ sizeLine := by
      have h1 := length_mergeK kvs []
      rw [List.length_nil] at h1
      omega
    have hx : ∃ q, h'.get? s.heap.objs.size = some q := let ⟨q, _, _, hq, _⟩ := dd'; ⟨q, hq⟩
    exact d_write I2 (by rw [hD]; exact True.intro) hs hx (dk_new hzm hd (rel.merge .nil) dd')
  refine wpAny_bind (wpAny_onRaise (wpAny_tryCatch (wpAny_onRaise (wpAny_holding (wpAny_mono (key _) (fun _ s3 I3 => ?_) fun _ _ z => z)))))
  exact wpAny_pure ⟨.ref s.heap.objs.size, _, I3, rfl, q2⟩
def dstarF (m : M T) : M Slot := m.bind fun t => lift (match t with
  | .dic kts => if kts.length ≤ 100000 then some (.own (.dic (mergeD [] kts))) else none
  | _ => none)
theorem denf_dstar (h : Den X W e m) : DenF X W (.Dict [none] [e] pos) (dstarF m) := by
  intro β x Q hs g
  refine ⟨_, pe_dstar pe_ev, fun D hD => ?_⟩
  have n0 := Nx.laidO (o := .dK []) hs hD
  refine h β ⟨x.F, upd x.H D (.dK []), x.σ, x.ρ⟩ _ n0.1 ?_
  unfold dstarF M.bind at g
  show GoE _ _ _ _ (m x.ρ) _
  cases q : m x.ρ with
  | ex c u ρ1 => rw [q] at g; exact GoX.on n0 g
  | bad => rw [q] at g; exact g.elim
  | ok t ρ1 =>
    rw [q] at g
    simp only [Dv.R.bind] at g
    intro F1 H1 v n1 r
    cases t <;> first | exact g.elim | skip
    rename_i kts
    by_cases hl : kts.length ≤ 100000
    · simp only [if_pos hl, lift] at g
      have nw : ¬ (Sx.mk x.F (upd x.H D (.dK [])) x.σ x.ρ).ow D := hs.owNone hD
      obtain ⟨d1, d2, d3⟩ := n1.offU (D := D) (u := .dK []) upd_same dK_ni (hs.fNone hD) nw
      cases r with
      | @obj a _ f h =>
        cases h with
        | @dic _ ob kvs _ h l rs =>
          have rk : RepKs X.K F1 H1 kvs kts := ⟨l, rs⟩
          refine ⟨d1, a, kvs, rfl, .inr ⟨_, h⟩, fun z => d2 (z ▸ f), by rw [rk.len]; exact hl, ?_⟩
          have n2 := (n0.trans n1).updD (o := .dK (mergeK [] kvs)) hD d2 d3
          have rm := (RepKs.merge rk repKs_nil : RepKs X.K F1 H1 (mergeK [] kvs) (mergeD [] kts))
          exact g _ _ _ n2 ⟨D, rfl, d2, .dic upd_same rm.1 (Reps.updO d2 rm.2), fun ⟨i, w⟩ => d3 ⟨i, w⟩, .inr hD⟩
    · simp only [if_neg hl, lift] at g
      exact g.elim
end
end Dv
/-! DU2: {**d, k: v}. -/
namespace Dv
open PySem PySem.Spec PyProof.Rows L2 Hv
section
variable {X : Cx} {W : WX} {K : PySem.W.Frag} {β : Bc} {x y : Sx} {e a b c o kx vx : Expr} {Q : VK} {pos p p2 : Pos} {ma mb : M Rdr} {m : M T}
def tDStar1 (te tk tv : TE) : TE := fun σ H Q => ∀ D, H D = none → te σ (upd H D (.dK [])) fun x H2 => H2 D = some (.dK []) ∧ ∃ a kvs, x = .ref a ∧ Rd H2 a (.dK kvs) ∧ a ≠ D ∧ kvs.length ≤ 100000 ∧
  ∀ D2, upd H2 D (.dK (mergeK [] kvs)) D2 = none → tPairs [(tk, tv)] σ (upd (upd H2 D (.dK (mergeK [] kvs))) D2 (.dK [])) fun ps H4 => H4 D2 = some (.dK []) ∧ H4 D = some (.dK (mergeK [] kvs)) ∧ ∃ k w, ps = [(kV k, w)] ∧
    Q (.ref D) (upd (upd H4 D2 (.dK [(k, w)])) D (.dK (mergeK (mergeK [] kvs) [(k, w)])))
theorem pe_dstar1 {te tk tv : TE} (he : PE X e te) (hk : PE X kx tk) (hv : PE X vx tv) : PE X (.Dict [none, some kx] [e, vx] pos) (tDStar1 te tk tv) := by
  refine ⟨fun pins s σ H Q I q => ?_⟩
  have hn := I.hok.fresh (Nat.le_refl s.heap.objs.size)
  have I1 := I.laid (a := s.heap.objs.size) (o := .dK []) (h' := s.heap.push { cls := .type "dict", data := .dict #[] }) (t' := s.toks) (fun _ _ q => Heap.get?_push_of_some _ q) (Nat.le_refl _) (dk_empty s.heap I.big)
  rw [arm_eval_Dict]
  refine wpAny_bind (wpAny_standAt ?_)
  show wpAny _ _ (dictDisplay [(none, do let x ← eval e X.env; standAt pos; pure x), (some (eval kx X.env), do let x ← eval vx X.env; standAt pos; pure x)]) _ _ _
  unfold dictDisplay
  simp only [List.forIn_cons, List.forIn_nil, List.isEmpty_nil, if_true, pure_bind, bind_assoc]
  refine wpAny_bind (wpAny_alloc ?_)
  refine wpAny_bind (wpAny_holding (wpAny_bind (thn (he.run pins _ σ _ _ I1 (q _ hn)) fun u s2 ⟨x, H2, I2, rx, hD, a, kvs, ex, rd, ne, hl, q2⟩ => wpAny_bind (wpAny_standAt (wpAny_pure ?_)))))
  subst ex
  obtain rfl : u = Value.ref a := rx
  obtain ⟨z, hd, vs0, r0, dd⟩ := dk_of I2.hok hD
  cases r0
  obtain ⟨z2, hs2, vs, rel, dd2⟩ := dk_rd I2.hok rd
  have hz : vs.length ≤ sizeLine := by rw [← rel.length]; exact z2
  have key : ∀ E : Value → Shared → Prop, wpAny (model X.prog X.w) X.A (mergeMapping s.heap.objs.size (.ref a) false) (fun _ s' => Inv X pins σ (upd H2 s.heap.objs.size (.dK (mergeK [] kvs))) s') E s2 := by
    intro E
    refine dvMerge (knd := mixKind X.prog X.w) (Ne.symm ne) hs2 dd dd2 (fun k v h a => mix_nr k v h a) (fun h' dd' _ hs => ?_) (by simpa using hz)
    have hzm : (mergeK [] kvs).length ≤ sizeLine := by
      have h1 := length_mergeK kvs []
      rw [List.length_nil] at h1
      omega
    have hx : ∃ q, h'.get? s.heap.objs.size = some q := let ⟨q, _, _, hq, _⟩ := dd'; ⟨q, hq⟩
    exact d_write I2 (by rw [hD]; exact True.intro) hs hx (dk_new hzm hd (rel.merge .nil) dd')
  refine wpAny_bind (wpAny_onRaise (wpAny_tryCatch (wpAny_onRaise (wpAny_holding (wpAny_mono (key _) (fun _ s3 I3 => ?_) fun _ _ z => z)))))
  have hlen : (([(eval kx X.env, do
                          let x ← eval vx X.env
                          standAt pos
                          pure x)] : List (Sem Value × Sem Value)).length == 17) = false := rfl
  have hemp : (([(eval kx X.env, do
                          let x ← eval vx X.env
                          standAt pos
                          pure x)] : List (Sem Value × Sem Value)).isEmpty) = false := rfl
  simp only [List.nil_append]
  simp only [hlen, hemp, Bool.false_eq_true, if_false, pure_bind, bind_assoc]
  have hn3 := I3.hok.fresh (Nat.le_refl s3.heap.objs.size)
  have I4 := I3.laid (a := s3.heap.objs.size) (o := .dK []) (h' := s3.heap.push { cls := .type "dict", data := .dict #[] }) (t' := s3.toks) (fun _ _ q => Heap.get?_push_of_some _ q) (Nat.le_refl _) (dk_empty s3.heap I3.big)
  refine wpAny_bind (wpAny_holding (wpAny_subDict (knd := mixKind X.prog X.w) ?hl ?_))
  case hl => exact Nat.le_of_ble_eq_true rfl
  refine thn ((pps_cons hk hv pps_nil).run pins _ σ _ _ I4 (q2 _ hn3)) fun ws s5 ⟨ps, H5, I5, rel5, e5, hDD, k, w, eps, q5⟩ => ?_
  subst eps
  obtain ⟨rs, c, rk⟩ := carries_of (P := X.prog) (w := X.w) (kvs := [(k, w)]) rel5
  obtain ⟨z5, hd5, vs5, r5, dd5⟩ := dk_of I5.hok e5
  cases r5
  refine ⟨rs, c, dd5, fun h' dd' hsb => ?_⟩
  have hx5 : ∃ q, h'.get? s3.heap.objs.size = some q := let ⟨q, _, _, hq, _⟩ := dd'; ⟨q, hq⟩
  have I6 : Inv X pins σ (upd H5 s3.heap.objs.size (.dK [(k, w)])) { s5 with heap := h', toks := s5.toks + ws.length } :=
    d_write I5 (by rw [e5]; exact True.intro) hsb hx5 (dk_new (by rw [sizeLine_eq]; show (1 : Nat) ≤ _; decide) hd5 (rk.merge .nil) dd')
  have nD : s3.heap.objs.size ≠ s.heap.objs.size := fun z => by
    rw [z, upd_same] at hn3
    cases hn3
  obtain ⟨z6, hd6, vs6, rel6, dd6⟩ := dk_of I6.hok (a := s.heap.objs.size) (kvs := mergeK [] kvs) (by rw [upd_ne (Ne.symm nD)]; exact hDD)
  obtain ⟨z7, hs7, vs7, rel7, dd7⟩ := dk_of I6.hok (a := s3.heap.objs.size) (kvs := [(k, w)]) upd_same
  have key2 : ∀ E : Value → Shared → Prop, wpAny (model X.prog X.w) X.A (mergeMapping s.heap.objs.size (.ref s3.heap.objs.size) false) (fun _ s' => Inv X pins σ (upd (upd H5 s3.heap.objs.size (.dK [(k, w)])) s.heap.objs.size (.dK (mergeK (mergeK [] kvs) [(k, w)]))) s') E { s5 with heap := h', toks := s5.toks + ws.length } := by
    intro E
    have l6 : vs6.length ≤ 100000 := by
      rw [← rel6.length]
      have h1 := length_mergeK kvs []
      rw [List.length_nil] at h1
      omega
    have l7 : vs7.length = 1 := by rw [← rel7.length]; rfl
    refine dvMerge (knd := mixKind X.prog X.w) (Ne.symm nD) hs7 dd6 dd7 (fun k v h a => mix_nr k v h a) (fun h'' dd'' _ hs => ?_) (by rw [l7, sizeLine_eq]; omega)
    have hzm : (mergeK (mergeK [] kvs) [(k, w)]).length ≤ sizeLine := by
      have h1 := length_mergeK kvs []
      have h2 := length_mergeK [(k, w)] (mergeK [] kvs)
      rw [List.length_nil] at h1
      rw [sizeLine_eq]
      simp only [List.length_cons, List.length_nil] at h2
      omega
    have hx : ∃ q, h''.get? s.heap.objs.size = some q := let ⟨q, _, _, hq, _⟩ := dd''; ⟨q, hq⟩
    exact d_write I6 (by rw [upd_ne (Ne.symm nD), hDD]; exact True.intro) hs hx (dk_new hzm hd6 (rel7.merge rel6) dd'')
  refine wpAny_bind (wpAny_onRaise (wpAny_holding (wpAny_mono (key2 _) (fun _ s8 I8 => ?_) fun _ _ z => z)))
  exact wpAny_pure ⟨.ref s.heap.objs.size, _, I8, rfl, q5⟩
end
end Dv
/-! DU3: {**d, k: v} as a function. -/
namespace Dv
open PySem PySem.Spec PyProof.Rows L2 Hv
section
variable {X : Cx} {W : WX} {K : PySem.W.Frag} {β : Bc} {x y : Sx} {e a b c o kx vx : Expr} {Q : VK} {pos p p2 : Pos} {ma mb : M Rdr} {m mk mv : M T}
/-- the same, the mapping known to be one before the pair is made -/
def dstar2F (m mk mv : M T) : M Slot := m.bind fun t ρ => match t with
  | .dic kts => if kts.length ≤ 100000 then (mk.bind fun k => mv.bind fun v => lift ((keyT k).map fun k' => .own (.dic (mergeD (mergeD [] kts) [(k', v)])))) ρ else .bad
  | _ => .bad
theorem denf_dstar2 (h : Den X W e m) (hk : Den X W kx mk) (hv : Den X W vx mv) : DenF X W (.Dict [none, some kx] [e, vx] pos) (dstar2F m mk mv) := by
  intro β x Q hs g
  refine ⟨_, pe_dstar1 pe_ev pe_ev pe_ev, fun D hD => ?_⟩
  have n0 := Nx.laidO (o := .dK []) hs hD
  refine h β ⟨x.F, upd x.H D (.dK []), x.σ, x.ρ⟩ _ n0.1 ?_
  unfold dstar2F M.bind at g
  show GoE _ _ _ _ (m x.ρ) _
  cases q : m x.ρ with
  | ex c u ρ1 => rw [q] at g; exact GoX.on n0 g
  | bad => rw [q] at g; exact g.elim
  | ok t ρ1 =>
    rw [q] at g
    simp only [Dv.R.bind] at g
    intro F1 H1 v n1 r
    cases t <;> first | exact g.elim | skip
    rename_i kts
    by_cases hl : kts.length ≤ 100000
    · simp only [if_pos hl] at g
      have nw : ¬ (Sx.mk x.F (upd x.H D (.dK [])) x.σ x.ρ).ow D := hs.owNone hD
      obtain ⟨d1, d2, d3⟩ := n1.offU (D := D) (u := .dK []) upd_same dK_ni (hs.fNone hD) nw
      cases r with
      | @obj a _ f h =>
        cases h with
        | @dic _ ob kvs _ h l rs =>
          have rk : RepKs X.K F1 H1 kvs kts := ⟨l, rs⟩
          refine ⟨d1, a, kvs, rfl, .inr ⟨_, h⟩, fun z => d2 (z ▸ f), by rw [rk.len]; exact hl, fun D2 hD2 => ?_⟩
          have nD : D2 ≠ D := fun z => by rw [z, upd_same] at hD2; cases hD2
          have n2 := (n0.trans n1).updD (o := .dK (mergeK [] kvs)) hD d2 d3
          have rm := (RepKs.merge rk repKs_nil : RepKs X.K F1 H1 (mergeK [] kvs) (mergeD [] kts))
          have rm2 : RepKs X.K F1 (upd H1 D (.dK (mergeK [] kvs))) (mergeK [] kvs) (mergeD [] kts) := ⟨rm.1, Reps.updO d2 rm.2⟩
          have n3 := Nx.laidO (o := .dK []) n2.1 hD2
          have dH3 : upd (upd H1 D (.dK (mergeK [] kvs))) D2 (.dK []) D = some (.dK (mergeK [] kvs)) := by rw [upd_ne (Ne.symm nD), upd_same]
          have rm3 : RepKs X.K F1 (upd (upd H1 D (.dK (mergeK [] kvs))) D2 (.dK [])) (mergeK [] kvs) (mergeD [] kts) := ⟨rm2.1, Reps.laidO n2.1 hD2 rm2.2⟩
          have e2F : ¬ F1 D2 := n2.1.fNone hD2
          have e2W : ¬ (Sx.mk F1 (upd (upd H1 D (.dK (mergeK [] kvs))) D2 (.dK [])) x.σ ρ1).ow D2 := n2.1.owNone hD2
          have n03 := n2.trans n3
          have f3 : ¬ F1 D := d2
          have w3 : ¬ (Sx.mk F1 (upd (upd H1 D (.dK (mergeK [] kvs))) D2 (.dK [])) x.σ ρ1).ow D := d3
          refine hk β ⟨F1, _, x.σ, ρ1⟩ _ n3.1 ?_
          show GoE _ _ _ _ (mk ρ1) _
          cases q4 : mk ρ1 with
          | ex c u ρ4 => rw [q4] at g; exact GoX.on n03 g
          | bad => rw [q4] at g; exact g.elim
          | ok k ρ4 =>
            rw [q4] at g
            simp only at g
            intro F4 H4 kv n4 r4
            refine hv β ⟨F4, H4, x.σ, ρ4⟩ _ n4.1 ?_
            show GoE _ _ _ _ (mv ρ4) _
            cases q5 : mv ρ4 with
            | ex c u ρ5 => rw [q5] at g; exact GoX.on (n03.trans n4) g
            | bad => rw [q5] at g; exact g.elim
            | ok w ρ5 =>
              rw [q5] at g
              simp only at g
              intro F5 H5 wv n5 r5
              cases q6 : keyT k with
              | none => simp only [q6, Option.map, lift] at g; exact g.elim
              | some k' =>
                simp only [q6, Option.map, lift] at g
                cases keyT_rep q6 (.inl r4)
                have n45 := n4.trans n5
                obtain ⟨a1, a2, a3⟩ := n45.offU (D := D) dH3 dK_ni f3 w3
                obtain ⟨b1, b2, b3⟩ := n45.offU (D := D2) (u := .dK []) upd_same dK_ni e2F e2W
                have m1 := (n3.trans n45).updD (D := D2) (o := .dK [(k', wv)]) hD2 b2 b3
                have m2 := (n2.trans m1).updD (D := D) (o := .dK (mergeK (mergeK [] kvs) [(k', wv)])) hD a2 a3
                have rk5 : RepKs X.K F5 H5 (mergeK [] kvs) (mergeD [] kts) := ⟨rm3.1, n45.2.reps n3.1 rm3.2⟩
                have rkf : RepKs X.K F5 H5 (mergeK (mergeK [] kvs) [(k', wv)]) (mergeD (mergeD [] kts) [(k', w)]) := RepKs.merge (repKs_cons r5 repKs_nil) rk5
                exact ⟨b1, a1, k', wv, rfl, g _ _ _ m2 ⟨D, rfl, a2, .dic upd_same rkf.1 (Reps.updO a2 (Reps.updO b2 rkf.2)), fun ⟨i, w⟩ => a3 ⟨i, w⟩, .inr hD⟩⟩
    · simp only [if_neg hl] at g
      exact g.elim
end
end Dv
/-! DX: instances: fields read and written. -/
namespace Dv
open PySem PySem.Spec PyProof.Rows L2 Hv
section
variable {X : Cx} {W : WX} {K : PySem.W.Frag} {β : Bc} {x y : Sx} {e a b c o : Expr} {Q : VK} {pos p p2 ip : Pos} {ma mb : M Rdr} {m mv : M T} {F : Addr → Prop} {H : Hp} {f n : Str} {Cn : Str}
theorem RepP.ins {v : V} {C : Str} {fts : List (Str × T)} (h : RepP K F H v (.ins C fts)) : ∃ a dx fvs, v = .ref a ∧ H a = some (.ins (He.ga K C) dx fvs) ∧ RepKs K F H fvs fts := by
  rcases h with h | ⟨a, rfl, h⟩
  · cases h with
    | obj f h => cases h with | ins h l r => exact ⟨_, _, _, rfl, h, l, r⟩
  · cases h with | ins h l r => exact ⟨_, _, _, rfl, h, l, r⟩
theorem RepKs.look {f : Str} {fvs : List (Str × V)} {fts : List (Str × T)} (a : RepKs K F H fvs fts) {t : T} (e : fts.lookup f = some t) : ∃ v, fvs.lookup f = some v ∧ Rep K F H v t := by
  revert e
  refine RepKs.ind (P := fun fvs fts => fts.lookup f = some t → ∃ v, fvs.lookup f = some v ∧ Rep K F H v t) (fun e => by cases e) (fun k v u kvs kts r _ ih e => ?_) a
  rw [List.lookup_cons] at e ⊢
  cases q : f == k with
  | true => rw [q] at e; cases e; exact ⟨v, rfl, r⟩
  | false => rw [q] at e; exact ih e
/-- e.f, a field of an instance of the class Cn -/
def fldP (Cn f : Str) : T → Option T
  | .ins C fts => if C = Cn then fts.lookup f else none
  | _ => none
theorem den_fld (hc : Cls X.K (He.ga X.K Cn)) (hn : NoAttr X.K (He.ga X.K Cn) f) (ha : DenO X W a ma) (hb : attributeBase a f X.env (eval a X.env) = eval a X.env := by rfl) : Den X W (.Attribute a f pos) (un1 (fldP Cn f) ma) := by
  intro β x Q hs g
  refine ⟨_, pe_fld pe_ev hb, ?_⟩
  refine ev_mono (ha.then1 (G := fun v H Q => ∃ a C dx fs w, v = .ref a ∧ H a = some (.ins C dx fs) ∧ Cls X.K C ∧ NoAttr X.K C f ∧ fs.lookup f = some w ∧ Q w H) ?_ hs g) fun v H h => h
  intro β x v t Q hs r g
  cases t <;> first | exact g.elim | skip
  rename_i C fts
  by_cases h : C = Cn
  · subst h
    cases e : fts.lookup f with
    | none => simp only [fldP, if_pos, e] at g; exact g.elim
    | some t =>
      simp only [fldP, if_pos, e] at g
      obtain ⟨a, dx, fvs, rfl, ha, rk⟩ := r.ins
      obtain ⟨w, e2, r2⟩ := rk.look e
      exact ⟨a, _, dx, fvs, w, rfl, ha, hc, hn, e2, GoE.out hs g r2⟩
  · simp only [fldP, if_neg h] at g
    exact g.elim
def putT' (f : Str) (t : T) : List (Str × T) → List (Str × T)
  | [] => [(f, t)]
  | (g, u) :: r => if g = f then (g, t) :: r else (g, u) :: putT' f t r
theorem RepKs.putF {f : Str} {v : V} {t : T} (r : Rep K F H v t) {fvs : List (Str × V)} {fts : List (Str × T)} (a : RepKs K F H fvs fts) : RepKs K F H (L2.putF f v fvs) (putT' f t fts) := by
  refine RepKs.ind (P := fun fvs fts => RepKs K F H (L2.putF f v fvs) (putT' f t fts)) (repKs_cons r repKs_nil) (fun k w u kvs kts r' rs ih => ?_) a
  unfold L2.putF putT'
  by_cases h : k = f
  · rw [if_pos h, if_pos h]; exact repKs_cons r rs
  · rw [if_neg h, if_neg h]; exact repKs_cons r' ih
theorem OwnO.insI {a : Addr} {C : Str} {fts : List (Str × T)} (h : OwnO K F H a (.ins C fts)) : ∃ dx fvs, H a = some (.ins (He.ga K C) dx fvs) ∧ RepKs K F H fvs fts := by
  cases h with | ins h l r => exact ⟨_, _, h, l, r⟩
/-- name.f = e, the slot's own instance -/
def fldS (i : Nat) (Cn f : Str) (m : M T) : S := m.thenS fun t ρ => match lentT ρ i with
  | some (.ins C fts) => if C = Cn ∧ fts.length < 1000 then .nx (setW ρ i (.ins C (putT' f t fts))) else .bad
  | _ => .bad
theorem dens_fld {sp : Pos} (i : Nat) (hp : PE X (.Name n ip) (tVar i)) (hc : Cls X.K (He.ga X.K Cn)) (hn : NoAttr X.K (He.ga X.K Cn) f) (hv : Den X W e mv)
    (hs : swapsWith e (some (.Attribute (.Name n ip) f p)) sp.line X.env = pure false := by rfl) : DenS X W (.Assign [.Attribute (.Name n ip) f p] e sp) (fldS i Cn f mv) := by
  intro β x D st g
  refine ⟨_, ps_fld pe_ev pe_ev hs, ?_⟩
  refine ev_mono (hv.thenS st g) ?_
  rintro v H1 ⟨F1, ρ1, t, at1, _, g1⟩
  cases q : lentT ρ1 i with
  | none => simp only [q] at g1; exact g1.elim
  | some c =>
    cases c <;> (try (simp only [q] at g1; exact g1.elim))
    rename_i C fts
    simp only [q] at g1
    by_cases h : C = Cn ∧ fts.length < 1000
    · rw [if_pos h] at g1
      obtain ⟨h1, h2⟩ := h
      subst h1
      obtain ⟨a0, e0, ow, nf, nx⟩ := mut_core (x := ⟨F1, H1, x.σ, ρ1⟩) at1.st q
      obtain ⟨dx, fvs, hi, rk⟩ := ow.insI
      refine ev_var i hp e0 ⟨a0, _, dx, fvs, rfl, hi, hc, hn, by rw [rk.len]; exact h2, ?_⟩
      have rk2 := RepKs.putF (f := f) at1.rep rk
      exact g1 _ _ _ (nx _ _ (.ins upd_same rk2.1 (Reps.updO nf rk2.2)))
    · rw [if_neg h] at g1
      exact g1.elim
end
end Dv
/-! DY: instances made: C(args) by the def __init__. -/
namespace Dv
open PySem PySem.Spec PyProof.Rows L2 Hv
/-- the maker by __init__'s function -/
def mkF (C : Str) (F : FT) : FT := fun as => match F (.bor (.ins C []) :: as) with
  | .ok (.val .non) (.bor t :: ps) => .ok (.own t) ps
  | .ex c v (.bor _ :: ps) => .ex c v ps
  | _ => .bad
def shB (β : Bc) (a : Addr) : Bc := ⟨fun j => match j with
  | 0 => some a
  | j + 1 => β.at_ j, β.old⟩
section
variable {K : PySem.W.Frag} {β : Bc} {F : Addr → Prop} {H : Hp} {σ : L2.St} {ρ : Env} {a : Addr} {t : T} {o : Option V} {s : Slot}
theorem slot_sh {j : Nat} : SlotOk K (shB β a) F H (j + 1) o s ↔ SlotOk K β F H j o s := by cases s <;> exact Iff.rfl
theorem own_sh {o0 : Option V} {s0 : Slot} {i : Nat} {b : Addr} : Owns (o0 :: σ) (s0 :: ρ) (i + 1) b ↔ Owns σ ρ i b := Iff.rfl
theorem St.cons (st : St K β ⟨F, H, σ, ρ⟩) (hF : ¬ F a) (hO : OwnO K F H a t) (hw : ¬ (Sx.mk F H σ ρ).ow a) : St K (shB β a) ⟨F, H, some (.ref a) :: σ, .bor t :: ρ⟩ := by
  refine ⟨by show (_ :: σ).length = (_ :: ρ).length; rw [List.length_cons, List.length_cons]; exact congrArg (· + 1) st.len, fun i o s e1 e2 => ?_, fun i j b p q => ?_, st.trk⟩
  · cases i with
    | zero => cases e1; cases e2; exact ⟨a, rfl, rfl, hF, hO⟩
    | succ i => exact slot_sh.mpr (st.slot i o s e1 e2)
  · have z : ∀ {i : Nat} {b : Addr}, Owns (some (.ref a) :: σ) (.bor t :: ρ) i b → i = 0 → b = a := fun {i b} ⟨e1, _⟩ e => by
      subst e
      have e1 : some (some (V.ref a)) = some (some (V.ref b)) := e1
      simpa using e1.symm
    cases i with
    | zero =>
      cases j with
      | zero => rfl
      | succ j => exact absurd ⟨j, own_sh.mp q⟩ (z p rfl ▸ hw)
    | succ i =>
      cases j with
      | zero => exact absurd ⟨i, own_sh.mp p⟩ (z q rfl ▸ hw)
      | succ j => exact congrArg (· + 1) (st.apart i j b (own_sh.mp p) (own_sh.mp q))
theorem St.tail {o0 : Option V} {s0 : Slot} (st : St K (shB β a) ⟨F, H, o0 :: σ, s0 :: ρ⟩) : St K β ⟨F, H, σ, ρ⟩ := by
  refine ⟨by have := st.len; simpa using this, fun i o s e1 e2 => slot_sh.mp (st.slot (i + 1) o s e1 e2), fun i j b p q => ?_, st.trk⟩
  have := st.apart (i + 1) (j + 1) b (own_sh.mpr p) (own_sh.mpr q)
  omega
end
theorem ow_cons {F : Addr → Prop} {H H' : Hp} {F2 : Addr → Prop} {K : PySem.W.Frag} {σ : L2.St} {ρ : Env} {a b : Addr} {t : T} (w : (Sx.mk F H (some (.ref a) :: σ) (.bor t :: ρ)).ow b) : b = a ∨ (Sx.mk F2 H' σ ρ).ow b := by
  obtain ⟨i, w⟩ := w
  cases i with
  | zero =>
    obtain ⟨e1, _⟩ := w
    have e1 : some (some (V.ref a)) = some (some (V.ref b)) := e1
    exact .inl (by simpa using e1.symm)
  | succ i => exact .inr ⟨i, own_sh.mp w⟩
theorem Nx.unmk {K : PySem.W.Frag} {β : Bc} {Fz F' : Addr → Prop} {H H' : Hp} {σ : L2.St} {as ps : Env} {a dx : Addr} {C : Addr} {t0 t : T} (ha : H a = none) (hdx : H dx = none) (hne : dx ≠ a)
    (n : Nx K (shB β a) ⟨Fz, upd (upd H dx (.own a)) a (.ins C dx []), some (.ref a) :: σ, .bor t0 :: as⟩ ⟨F', H', some (.ref a) :: σ, .bor t :: ps⟩) :
    Nx K β ⟨Fz, H, σ, as⟩ ⟨F', H', σ, ps⟩ ∧ SlR K ⟨Fz, H, σ, as⟩ ⟨F', H', σ, ps⟩ (.ref a) (.own t) := by
  have up : ∀ b u, H b = some u → upd (upd H dx (.own a)) a (.ins C dx []) b = some u := fun b u e => by
    rw [upd_ne (fun z => by subst z; rw [ha] at e; cases e), upd_ne (fun z => by subst z; rw [hdx] at e; cases e)]
    exact e
  have down : ∀ b u, upd (upd H dx (.own a)) a (.ins C dx []) b = some u → b = a ∨ b = dx ∨ H b = some u := fun b u e => by
    by_cases h1 : b = a
    · exact .inl h1
    · rw [upd_ne h1] at e
      by_cases h2 : b = dx
      · exact .inr (.inl h2)
      · rw [upd_ne h2] at e
        exact .inr (.inr e)
  have downN : ∀ b, upd (upd H dx (.own a)) a (.ins C dx []) b = none → H b = none := fun b e => by
    cases q : H b with
    | none => rfl
    | some u => rw [up b u q] at e; cases e
  obtain ⟨b0, q1, q2, q3, q4⟩ := n.1.slot 0 _ _ rfl rfl
  cases q1
  refine ⟨⟨n.1.tail, ⟨n.2.ext, fun b u e w => n.2.keep b u (up b u e) fun w2 => ?_, fun b f => ?_, fun b w => ?_⟩⟩, a, rfl, q3, q4, fun w => ?_, .inr ha⟩
  · rcases ow_cons (K := K) (F2 := Fz) (H' := H) w2 with w2 | w2
    · subst w2
      have e : H b = some u := e
      rw [ha] at e; cases e
    · exact w w2
  · rcases n.2.new b f with f | f | f | ⟨u, f, im⟩
    · exact .inl f
    · rcases ow_cons (K := K) (F2 := Fz) (H' := H) f with f | f
      · subst f; exact .inr (.inr (.inl ha))
      · exact .inr (.inl f)
    · exact .inr (.inr (.inl (downN b f)))
    · rcases down b u f with z | z | z
      · subst z; exact .inr (.inr (.inl ha))
      · subst z; exact .inr (.inr (.inl hdx))
      · exact .inr (.inr (.inr ⟨u, z, im⟩))
  · obtain ⟨i, w⟩ := w
    rcases n.2.wn b ⟨i + 1, own_sh.mpr w⟩ with w | w
    · rcases ow_cons (K := K) (F2 := Fz) (H' := H) w with w | w
      · subst w; exact .inr ha
      · exact .inl w
    · exact .inr (downN b w)
  · obtain ⟨i, w⟩ := w
    have := n.1.apart 0 (i + 1) a ⟨rfl, t, .inr rfl⟩ (own_sh.mpr w)
    omega
theorem makes {P : Program} {w : World} {K : PySem.W.Frag} {mg : Str → Option Value} {base : Heap} {k n : Nat} {C : Str} {f : Addr} {F : FT} (hm : mg C = some (.ref (He.ga K C))) (M : Mk K (He.ga K C) f) (Fn : FnG P w K mg base k f (spN K (n + 1) F)) :
    GM P w K mg base k C (spN K n (mkF C F)) := by
  refine ⟨⟨_, f, _, hm, M, Fn, fun vs H Q E h a dx ha hdx hne => ?_⟩⟩
  obtain ⟨hl, β, Fz, as, st, hok, g⟩ := h
  refine ⟨by simp [hl], shB β a, Fz, .bor (.ins C []) :: as, ?_, by simp [argOk, hok], ?_⟩
  · have n1 := Nx.laidO (o := .own a) st hdx
    have ha' : upd H dx (.own a) a = none := by rw [upd_ne (Ne.symm hne)]; exact ha
    have n2 := Nx.laidO (o := .ins (He.ga K C) dx []) n1.1 ha'
    exact St.cons n2.1 (st.fNone ha) (.ins upd_same rfl .nil) (st.owNone ha)
  · unfold mkF at g
    cases q : F (.bor (.ins C []) :: as) with
    | bad => rw [q] at g; exact g.elim
    | ok r ps0 =>
      rw [q] at g
      cases r <;> (try exact g.elim)
      rename_i t0
      cases t0 <;> (try exact g.elim)
      cases ps0 with
      | nil => exact g.elim
      | cons s ps =>
        cases s <;> (try exact g.elim)
        intro F' H' v n r
        obtain ⟨n1, r1⟩ := Nx.unmk ha hdx hne n
        exact ⟨RepP.non (.inl r), g F' H' _ n1 r1⟩
    | ex c u ps0 =>
      rw [q] at g
      cases ps0 with
      | nil => exact g.elim
      | cons s ps =>
        cases s <;> (try exact g.elim)
        exact fun F' H' cls d n r => g F' H' cls d (Nx.unmk ha hdx hne n).1 r
end Dv
/-! DZ: C(args). -/
namespace Dv
open PySem PySem.Spec PyProof.Rows L2 Hv
section
variable {X : Cx} {W : WX} {K : PySem.W.Frag} {β : Bc} {x y : Sx} {e a b c o : Expr} {es : List Expr} {Q : VK} {pos p p2 : Pos} {f : Str} {sp spC : Sp} {σ : L2.St} {H : Hp} {s : Shared} {us : List Value} {vs : List V} {pins : List (Addr × Obj)} {j k : Nat}
theorem run_mkS {C g : Addr} {E : XK} (M : Mk X.K C g) (F : FnX X k g sp) (hr : RoomG (k + 1) X.A) (hx : PassesAt (L2.CX X.prog X.w) X σ E) (I : Inv X pins σ H s) (r : Vals vs us)
    (h : ∀ a dx, H a = none → H dx = none → dx ≠ a → sp (.ref a :: vs) (upd (upd H dx (.own a)) a (.ins C dx [])) (fun v H2 => v = .non ∧ Q (.ref a) H2) E) :
    wpAny (model X.prog X.w) X.A (call (.ref C) us) (EP X pins σ Q) X.xe s := by
  have q := h (s.heap.objs.size + 1) s.heap.objs.size (I.hok.fresh (Nat.le_succ _)) (I.hok.fresh (Nat.le_refl _)) (Nat.ne_of_lt (Nat.lt_succ_self _))
  have I2 := Inv.made (C := C) I
  refine wpAny_call (make_map (f := g) I.kIn M.makes M.init (beq_iff_eq.mp M.fn) (codeAny_mono
    (run_atS (us := Value.ref (s.heap.objs.size + 1) :: us) (vs := V.ref (s.heap.objs.size + 1) :: vs) F (hr.make C us []) (I2.env0.make C us []) hx I2 (.cons rfl r) q) fun r s' z => ?_))
  cases r with
  | error e => exact z
  | ok fl =>
    cases fl with
    | ret u =>
      obtain ⟨v, H', I3, rv, ev, q3⟩ := z
      subst ev
      exact ⟨rv, ⟨V.ref (s.heap.objs.size + 1), H', I3, rfl, q3⟩⟩
    | next => exact False.elim z
    | brk => exact False.elim z
    | cont => exact False.elim z
theorem pg_makeS {t : TA} (c : GMX X k f spC) (hr : RoomG j X.A) (hj : k + 1 ≤ j) (hg : Gl X f) (tk : Takes X W) (ha : PA X (e :: es) t)
    (hdb : (f == ("__debug__" : Str)) = false := by decide) (he : starEach (e :: es) X.env = (false, eval e X.env) :: starEach es X.env := by rfl)
    (hpl : (backTo pos (starEach es X.env)).any (·.1) = false := by rfl) : PE X (.Call (.Name f p) (e :: es) [] pos) (tCalS spC W t) := by
  obtain ⟨C, g, sp, hm, M, F, imp⟩ := c.ex
  refine ⟨fun pins s σ H Q I h => ?_⟩
  refine wpAny_Call_Name_kw (ld_glob I hg hm ?_ hdb)
  refine PySem.W.callWith_K (h₀ := X.base) I.ok.mod.kin M.kp (thn (ha.run pos pins s σ H _ I h) fun us s1 ⟨vs, H1, I1, r, q⟩ => ⟨I1.kIn, ?_⟩) he hpl
  exact run_mkS M F (hr.mono hj) (passAt tk σ) I1 r (imp _ _ _ _ q)
theorem denf_make {n : Nat} {F : FT} {ma : M (List Ar)} (c : GMX X k f (spN X.K n F)) (hr : RoomG j X.A) (tk : Takes X W) (ha : DenR X W (e :: es) ma) (hj : k + 1 ≤ j := by decide) (hg : Gl X f := by rfl)
    (hdb : (f == ("__debug__" : Str)) = false := by decide) (he : starEach (e :: es) X.env = (false, eval e X.env) :: starEach es X.env := by rfl)
    (hpl : (backTo pos (starEach es X.env)).any (·.1) = false := by rfl) : DenF X W (.Call (.Name f p) (e :: es) [] pos) (callN n F ma) := by
  intro β x Q hs g
  refine ⟨_, pg_makeS c hr hj hg tk pa_av hdb he hpl, ?_⟩
  refine ha β x _ hs ?_
  unfold callN M.bind at g
  cases q : ma x.ρ with
  | ok as ρ1 =>
    rw [q] at g
    intro F1 H1 vs n1 ar
    have g1 := GoF.on n1 rfl g
    simp only [Dv.R.bind] at g1
    by_cases hc : as.length = n ∧ (mss as).Nodup
    · rw [if_pos hc] at g1
      refine ⟨ar.len.trans hc.1, ?_⟩
      cases ei : inp ρ1 as with
      | none => simp only [ei] at g1; exact g1.elim
      | some ins =>
        simp only [ei] at g1
        exact call_core (x := ⟨F1, H1, x.σ, ρ1⟩) n1.1 ar hc.2 ei g1
    · rw [if_neg hc] at g1
      exact g1.elim
  | ex c u ρ1 => rw [q] at g; exact g
  | bad => rw [q] at g; exact g
end
end Dv
/-! DZ2: properties of instances. -/
namespace Dv
open PySem PySem.Spec PyProof.Rows L2 Hv
section
variable {X : Cx} {W : WX} {K : PySem.W.Frag} {β : Bc} {x y : Sx} {e a b c o : Expr} {es : List Expr} {Q : VK} {pos p p2 : Pos} {f : Str} {sp : Sp} {σ : L2.St} {H : Hp} {s : Shared} {us : List Value} {vs : List V} {pins : List (Addr × Obj)} {j k : Nat} {m : M T}
theorem getpropI {b : Bool} {a dx pr C g : Addr} {fs : List (Str × V)} {nm : Str} {n : Nat} (I : Inv X pins σ H s) (h : H a = some (.ins C dx fs)) (c : Cls X.K C) (hp : PropG X.K C nm pr g) (F : FnX X n g sp) (hr : RoomG (n + 1) X.A)
    (q : sp [.ref a] H Q E0) : wpAny (model X.prog X.w) X.A (getAttr (.ref a) nm b) (EP X pins σ Q) X.xe s := by
  obtain ⟨mA, O, _, _, _, _⟩ := ins_get I.hok h
  obtain ⟨od, J, _⟩ := O.look
  obtain ⟨rest, hrec⟩ := hp.rc
  have I1 : Inv X pins σ H { s with toks := s.toks + 1 } := I.tok (s.toks + 1)
  have hc : (PySem.W.clsIn X.K C).isSome = true := by
    obtain ⟨cd, hc, _⟩ := PySem.W.any_some c.hd
    rw [hc]
    rfl
  refine PySem.W.get_bind I.kIn J (PySem.W.plainGet_of (c.get nm)).1 (PySem.W.findObj_data hc hp.at_ hp.get hp.tk) (PySem.W.plainGet_of (c.get nm)).2
    (wpAny_call (PySem.W.prop_get (s := { s with toks := s.toks + 1 }) I.kIn hrec ?_))
  refine codeAny_mono (F X.A.in1 X.stack { s with toks := s.toks + 1 } H [.ref a] [.ref a] Q E0 hr.in1 I1.env0.in1 (.cons rfl .nil) q) fun r s' z => ?_
  cases r with
  | error e => exact (noX z).elim
  | ok fl =>
    cases fl with
    | ret u =>
      obtain ⟨v, H', I2, rv, q⟩ := I1.after z
      exact wpAny_of_eq (PySem.W.handedOut_of (handed_of rv)) ⟨v, H', I2, rv, q⟩
    | next => exact False.elim z
    | brk => exact False.elim z
    | cont => exact False.elim z
def tPrI (C : Addr) (sp : Sp) (ta : TE) : TE := fun σ H Q => ta σ H fun x H1 => ∃ a dx fs, x = .ref a ∧ H1 a = some (.ins C dx fs) ∧ sp [.ref a] H1 Q E0
theorem pg_propI {pr C g : Addr} {nm : Str} {n : Nat} {ta : TE} (he : PE X e ta) (c : Cls X.K C) (hp : PropG X.K C nm pr g) (F : FnX X n g sp) (hr : RoomG j X.A) (hj : n + 1 ≤ j)
    (hb : attributeBase e nm X.env (eval e X.env) = eval e X.env := by rfl) : PE X (.Attribute e nm pos) (tPrI C sp ta) := by
  refine ⟨fun pins s σ H Q I h => ?_⟩
  refine attr_of hb (thn (he.run pins s σ H _ I h) fun w s1 ⟨x, H1, I1, rx, a, dx, vs, ex, hs, q⟩ => ?_)
  subst ex
  obtain rfl : w = Value.ref a := rx
  exact getpropI I1 hs c hp F (hr.mono hj) q
/-- e.f, a property of the class Cn whose getter reads as F -/
def propM (Cn : Str) (F : FT) (m : M T) : M Slot := m.bind fun t ρ => match t with
  | .ins C fts => if C = Cn then (match fit ρ [.v t] (F [.val t]) with
    | .ok s ρ' => .ok s ρ'
    | _ => .bad) else .bad
  | _ => .bad
theorem denf_prop {Cn : Str} {pr g : Addr} {nm : Str} {n : Nat} {F : FT} (h : Den X W e m) (c : Cls X.K (He.ga X.K Cn)) (hp : PropG X.K (He.ga X.K Cn) nm pr g) (Fn : FnX X n g (spN X.K 1 F)) (hr : RoomG j X.A) (hj : n + 1 ≤ j := by decide)
    (hb : attributeBase e nm X.env (eval e X.env) = eval e X.env := by rfl) : DenF X W (.Attribute e nm pos) (propM Cn F m) := by
  intro β x Q hs gg
  refine ⟨_, pg_propI pe_ev c hp Fn hr hj hb, ?_⟩
  refine ev_mono (h.thenF hs gg) ?_
  rintro v H1 ⟨F1, ρ1, t, at1, _, g1⟩
  cases t <;> (try exact g1.elim)
  rename_i C fts _
  by_cases hC : C = Cn
  · simp only [if_pos hC] at g1
    subst hC
    obtain ⟨a, dx, fvs, rfl, ha, rk⟩ := RepP.ins (.inl at1.rep)
    refine ⟨a, dx, fvs, rfl, ha, rfl, ?_⟩
    refine call_core (W := W0) (x := ⟨F1, H1, x.σ, ρ1⟩) (as := [.v (.ins C fts)]) at1.st (.cons at1.rep .nil) (by simp [mss]) rfl ?_
    cases q : fit ρ1 [.v (.ins C fts)] (F [.val (.ins C fts)]) with
    | ok s ρ2 => rw [q] at g1; exact g1
    | ex _ _ _ => rw [q] at g1; exact g1.elim
    | bad => rw [q] at g1; exact g1.elim
  · simp only [if_neg hC] at g1
    exact g1.elim
end
end Dv
/-! DS: isinstance with the class Sum. -/
namespace Dv
open PySem PySem.Spec PyProof.Rows L2 Hv HvP
structure SumW (K : PySem.W.Frag) (mg : Str → Option Value) (cs : List Addr) : Prop where
  mem : He.ga K "Sum" ∈ cs
  cls : Cls K (He.ga K "Sum")
  si : SlX.SIsi K (He.ga K "Sum")
  ne : He.ga K "Sum" ≠ He.ga K "Ratio"
def isiA : T → T → Option T
  | .ins C _, .ty n => if C = "Sum" ∧ n ∈ tys then some (.bl false) else none
  | .ins C _, .cls c => if C = "Sum" then (if c = "Sum" then some (.bl true) else if c = "Ratio" then some (.bl false) else none) else none
  | s, .cls c => if c = "Sum" then (ownC s).map fun _ => .bl false else isiR s (.cls c)
  | s, t => isiR s t
section
variable {X : Cx} {W : WX} {K : PySem.W.Frag} {β : Bc} {x y : Sx} {e a b c o : Expr} {Q : VK} {pos p p2 : Pos} {ma mb : M Rdr} {m : M T} {cs : List Addr} {F : Addr → Prop} {H : Hp}
theorem RepP.cls {v : V} {c : Str} (h : RepP K F H v (.cls c)) : v = .ref (He.ga K c) := by
  rcases h with h | ⟨a, e, h⟩
  · cases h with
    | cls => rfl
    | obj f h => cases h
  · cases h
theorem opd_isiA (R : RW X.K X.mg cs) (Sw : SumW X.K X.mg cs) : OpD X W isiA fun v w H Q => CV X (.builtin "isinstance") [v, w] H Q := by
  intro β x v w s t Q hs r1 r2 g
  by_cases hi : ∃ C fs, s = .ins C fs
  · obtain ⟨C, fs, rfl⟩ := hi
    obtain ⟨a, dx, fvs, rfl, ha, _⟩ := r1.ins
    cases t <;> (try exact g.elim)
    · rename_i n
      by_cases h : C = "Sum" ∧ n ∈ tys
      · simp only [isiA, if_pos h] at g
        obtain ⟨h1, h2⟩ := h
        subst h1
        cases r2.ty
        exact cv_isT R.csk (.ins Sw.mem Sw.cls Sw.si ha) h2 (GoE.out hs g (.bl _))
      · simp only [isiA, if_neg h] at g
        exact g.elim
    · rename_i c
      by_cases h : C = "Sum"
      · subst h
        cases r2.cls
        by_cases h2 : c = "Sum"
        · subst h2
          simp only [isiA, if_true] at g
          refine cv_isO R.csk (.ins Sw.mem Sw.cls Sw.si ha) Sw.mem ?_
          rw [decide_eq_true rfl]
          exact GoE.out hs g (.bl _)
        · by_cases h3 : c = "Ratio"
          · subst h3
            simp only [isiA, if_true, if_neg h2] at g
            refine cv_isO R.csk (.ins Sw.mem Sw.cls Sw.si ha) R.mem ?_
            rw [decide_eq_false (fun z => Sw.ne (by injection z))]
            exact GoE.out hs g (.bl _)
          · simp only [isiA, if_true, if_neg h2, if_neg h3] at g
            exact g.elim
      · simp only [isiA, if_neg h] at g
        exact g.elim
  · have ni : ∀ C fs, s ≠ .ins C fs := fun C fs e => hi ⟨C, fs, e⟩
    by_cases ht : t = .cls "Sum"
    · subst ht
      have e0 : isiA s (.cls "Sum") = (ownC s).map fun _ => .bl false := by cases s <;> first | rfl | exact absurd rfl (ni _ _)
      rw [e0] at g
      cases e : ownC s with
      | none => rw [e] at g; exact g.elim
      | some o =>
        rw [e] at g
        obtain ⟨k, hk, _, h1, h2⟩ := hask R e ni r1
        cases r2.cls
        refine cv_isO R.csk hk Sw.mem ?_
        have : decide (k = .own (He.ga X.K "Sum")) = false := by
          refine decide_eq_false fun z => ?_
          cases o with
          | none => exact h2 rfl _ z
          | some c =>
            have hk2 := h1 c rfl
            cases s <;> cases e
            · rw [hk2] at z
              exact Sw.ne (by injection z with z; exact z.symm)
            · exact absurd rfl (ni _ _)
        rw [this]
        exact GoE.out hs g (.bl _)
    · have e0 : isiA s t = isiR s t := by
        cases s <;> first | exact absurd rfl (ni _ _) | (cases t <;> first | rfl | (rename_i c; simp only [isiA]; rw [if_neg (fun z => ht (by rw [z]))]))
      rw [e0] at g
      exact opd_isi R β x v w s t Q hs r1 r2 g
theorem den_isiA (B : Blt X.mg) (R : RW X.K X.mg cs) (Sw : SumW X.K X.mg cs) (ha : DenO X W a ma) (hb : DenO X W b mb) (hg : Gl X "isinstance" := by rfl) (he : starEach [a, b] X.env = (false, eval a X.env) :: starEach [b] X.env := by rfl) (he2 : starEach [b] X.env = (false, eval b X.env) :: starEach [] X.env := by rfl)
    (hpl : (backTo pos (starEach [b] X.env)).any (·.1) = false := by rfl) : Den X W (.Call (.Name "isinstance" p) [a, b] [] pos) (op2 isiA ma mb) :=
  fun β x Q hs g => ev_isinst B (av_cons (ev_mono (ha.then2 hb (opd_isiA R Sw) hs g) fun v H1 h => av_cons (ev_mono h fun w H2 h => av_nil h) he2) he) hg he hpl
end
end Dv
/-! DV: DW's rules for dicts, sets, instances. Plain Lean. -/
namespace Dv
open PySem PySem.Spec PyProof.Rows L2 Hv
section
variable {α γ : Type} {ρ ρ' : Env} {E : Str → T → Env → Prop} {a b : M Rdr} {m n m1 m2 m3 : M T} {P : Po} {Q : T → Env → Prop}
theorem w_dic0 {Q : Slot → Env → Prop} (h : Q (.own (.dic [])) ρ) : W (dic0 ρ) Q E := h
theorem w_nilP {Q : List (T × T) → Env → Prop} (h : Q [] ρ) : W (nilP ρ) Q E := h
theorem w_consP {mr : M (List (T × T))} {Q : List (T × T) → Env → Prop} (h : W (m ρ) (fun k ρ1 => W (n ρ1) (fun v ρ2 => W (mr ρ2) (fun ps ρ3 => Q ((k, v) :: ps) ρ3) E) E) E) : W (consP m n mr ρ) Q E :=
  w_bind (h.mono fun _ _ h => w_bind (h.mono fun _ _ h => w_bind h))
theorem w_dicF {mp : M (List (T × T))} {Q : Slot → Env → Prop} (h : W (mp ρ) (fun ps ρ1 => ps.length ≤ 15 ∧ ∃ kts, keyTs ps = some kts ∧ Q (.own (.dic (mergeD [] kts))) ρ1) E) : W (dicF mp ρ) Q E := by
  refine w_bind (h.mono fun ps ρ1 ⟨hl, kts, e, q⟩ => ?_)
  exact w_lift (a := .own (.dic (mergeD [] kts))) (by rw [if_pos hl, e]; rfl) q
theorem w_dstarF {Q : Slot → Env → Prop} (h : W (m ρ) (fun t ρ1 => ∃ kts, t = .dic kts ∧ kts.length ≤ 100000 ∧ Q (.own (.dic (mergeD [] kts))) ρ1) E) : W (dstarF m ρ) Q E := by
  refine w_bind (h.mono fun t ρ1 ⟨kts, e, hl, q⟩ => ?_)
  subst e
  exact w_lift (a := .own (.dic (mergeD [] kts))) (if_pos hl) q
theorem w_get2M (h : W (a ρ) (fun r ρ1 => (r ρ1).map isDic = some true ∧ W (m ρ1) (fun k ρ2 => W (n ρ2) (fun d ρ3 => ∃ s u, r ρ3 = some s ∧ getP s k d = some u ∧ Q u ρ3) E) E) E) : W (get2M a m n ρ) Q E := by
  unfold get2M
  refine w_bind (h.mono fun r ρ1 ⟨hd, h⟩ => ?_)
  rw [if_pos hd]
  exact w_bind (h.mono fun k ρ2 h => w_bind (h.mono fun d ρ3 ⟨s, u, e1, e2, q⟩ => w_lift (a := u) (by rw [e1]; exact e2) q))
theorem w_chM {f f' : T → T → Option T} (h : W (m1 ρ) (fun s ρ1 => W (m2 ρ1) (fun t ρ2 => ∃ k, f s t = some (.bl k) ∧ if k = true then W (m3 ρ2) (fun u ρ3 => ∃ z, f' t u = some z ∧ Q z ρ3) E else Q (.bl false) ρ2) E) E) : W (chM f f' m1 m2 m3 ρ) Q E := by
  unfold chM
  refine w_bind (h.mono fun s ρ1 h => w_bind (h.mono fun t ρ2 ⟨k, e, q⟩ => ?_))
  simp only [e]
  cases k
  · exact q
  · exact w_bind (W.mono q fun u ρ3 ⟨z, e2, q2⟩ => w_lift e2 q2)
theorem ws_fldS {i : Nat} {Cn f : Str} (h : W (m ρ) (fun t ρ1 => ∃ fts, lentT ρ1 i = some (.ins Cn fts) ∧ fts.length < 1000 ∧ P.nx (setW ρ1 i (.ins Cn (putT' f t fts)))) P.ex) : WS (fldS i Cn f m ρ) P := by
  unfold fldS M.thenS
  cases q : m ρ with
  | ok t ρ1 =>
    rw [q] at h
    obtain ⟨fts, e1, e2, e3⟩ := h
    simp only [e1]
    rw [if_pos ⟨trivial, e2⟩]
    exact e3
  | ex c v ρ1 => rw [q] at h; exact h
  | bad => rw [q] at h; exact h
theorem w_propM {Cn : Str} {F : FT} {Q : Slot → Env → Prop} (h : W (m ρ) (fun t ρ1 => ∃ fts, t = .ins Cn fts ∧ WF (F [.val (.ins Cn fts)]) (fun s ps => ∃ p, ps = [p] ∧ Q s ρ1) (fun _ _ _ => False)) E) : W (propM Cn F m ρ) Q E := by
  unfold propM
  refine w_bind (h.mono fun t ρ1 ⟨fts, e, q⟩ => ?_)
  subst e
  simp only [if_pos]
  unfold WF at q
  unfold fit
  cases q2 : F [.val (.ins Cn fts)] with
  | ok s ps =>
    rw [q2] at q
    obtain ⟨p, rfl, q⟩ := q
    exact q
  | ex c v ps => rw [q2] at q; exact q.elim
  | bad => rw [q2] at q; exact q.elim
theorem w_itemsM {Q : List T → Env → Prop} (h : W (m ρ) (fun t ρ1 => ∃ kts, t = .dic kts ∧ Q (pairsT kts) ρ1) E) : W (itemsM m ρ) Q E := by
  refine w_bind (h.mono fun t ρ1 ⟨kts, e, q⟩ => ?_)
  subst e
  exact q
theorem w_zipM {Q : List T → Env → Prop} (h : W (m ρ) (fun s ρ1 => W (n ρ1) (fun t ρ2 => ∃ ts, zipP s t = some ts ∧ Q ts ρ2) E) E) : W (zipM m n ρ) Q E :=
  w_bind (h.mono fun _ _ h => w_bind (h.mono fun _ _ ⟨ts, e, q⟩ => w_lift e q))
theorem w_compDL {own : List Nat} {g : T → Env → Option Env} {c : M Bool} {mk mv : M T} (In : List T → List (Key × T) → Env → Prop) {Q : List (Key × T) → Env → Prop}
    (hs : ∀ t ts acc ρ, In (t :: ts) acc ρ → ∃ ρ1, g t ρ = some ρ1 ∧ W (c ρ1) (fun k ρ2 => if k = true then W (mk ρ2) (fun kt ρ3 => W (mv ρ3) (fun v ρ4 => ∃ k', keyT kt = some k' ∧ acc.length < 100000 ∧ In ts (putD acc k' v) (wipeR ρ4 own)) (fun _ _ _ => False)) (fun _ _ _ => False) else In ts acc (wipeR ρ2 own)) (fun _ _ _ => False))
    (hd : ∀ acc ρ, In [] acc ρ → Q acc ρ) : ∀ (ts : List T) (acc : List (Key × T)) (ρ : Env), In ts acc ρ → W (compDL own g c mk mv ts acc ρ) Q E
  | [], acc, ρ, h => hd acc ρ h
  | t :: ts, acc, ρ, h => by
    obtain ⟨ρ1, eg, q⟩ := hs t ts acc ρ h
    unfold compDL
    simp only [eg]
    cases qc : c ρ1 with
    | ex _ _ _ => rw [qc] at q; exact q.elim
    | bad => rw [qc] at q; exact q.elim
    | ok k ρ2 =>
      rw [qc] at q
      cases k with
      | false => exact w_compDL In hs hd ts acc _ q
      | true =>
        have q : W (mk ρ2) _ _ := q
        simp only
        cases q1 : mk ρ2 with
        | ex _ _ _ => rw [q1] at q; exact q.elim
        | bad => rw [q1] at q; exact q.elim
        | ok kt ρ3 =>
          rw [q1] at q
          have q : W (mv ρ3) _ _ := q
          simp only
          cases q2 : mv ρ3 with
          | ex _ _ _ => rw [q2] at q; exact q.elim
          | bad => rw [q2] at q; exact q.elim
          | ok v ρ4 =>
            rw [q2] at q
            obtain ⟨k', e1, e2, q⟩ := q
            simp only [e1, if_pos e2]
            exact w_compDL In hs hd ts _ _ q
theorem w_compDF {own : List Nat} {mi : M (List T)} {g : T → Env → Option Env} {c : M Bool} {mk mv : M T} {Q : Slot → Env → Prop}
    (h : W (mi ρ) (fun ts ρ1 => W (compDL own g c mk mv ts [] (wipeR ρ1 own)) (fun kts ρ2 => Q (.own (.dic kts)) ρ2) E) E) : W (compDF own mi g c mk mv ρ) Q E :=
  w_bind (h.mono fun _ _ h => w_bind h)
theorem w_lenSM {own : List Nat} {mi : M (List T)} {g : T → Env → Option Env} {c : M Bool} {el : M T}
    (h : W (mi ρ) (fun ts ρ1 => W (compSL own g c el ts [] (wipeR ρ1 own)) (fun ks ρ2 => Q (.int (ks.length : Nat)) ρ2) E) E) : W (lenSM own mi g c el ρ) Q E :=
  w_bind (h.mono fun _ _ h => w_bind h)
theorem w_dstar2F {Q : Slot → Env → Prop} (h : W (m ρ) (fun t ρ1 => ∃ kts, t = .dic kts ∧ kts.length ≤ 100000 ∧ W (m1 ρ1) (fun k ρ2 => W (m2 ρ2) (fun v ρ3 => ∃ k', keyT k = some k' ∧ Q (.own (.dic (mergeD (mergeD [] kts) [(k', v)]))) ρ3) E) E) E) : W (dstar2F m m1 m2 ρ) Q E := by
  refine w_bind (h.mono fun t ρ1 ⟨kts, e, hl, q⟩ => ?_)
  subst e
  simp only [if_pos hl]
  refine w_bind (W.mono q fun k ρ2 q => w_bind (W.mono q fun v ρ3 ⟨k', e, q⟩ => ?_))
  exact w_lift (a := .own (.dic (mergeD (mergeD [] kts) [(k', v)]))) (by rw [e]; rfl) q
theorem w_compSL {own : List Nat} {g : T → Env → Option Env} {c : M Bool} {el : M T} (In : List T → List Key → Env → Prop) {Q : List Key → Env → Prop}
    (hs : ∀ t ts acc ρ, In (t :: ts) acc ρ → ∃ ρ1, g t ρ = some ρ1 ∧ W (c ρ1) (fun k ρ2 => if k = true then W (el ρ2) (fun kt ρ3 => ∃ k', keyT kt = some k' ∧ acc.length < 4000 ∧ In ts (addS k' acc) (wipeR ρ3 own)) (fun _ _ _ => False) else In ts acc (wipeR ρ2 own)) (fun _ _ _ => False))
    (hd : ∀ acc ρ, In [] acc ρ → Q acc ρ) : ∀ (ts : List T) (acc : List Key) (ρ : Env), In ts acc ρ → W (compSL own g c el ts acc ρ) Q E
  | [], acc, ρ, h => hd acc ρ h
  | t :: ts, acc, ρ, h => by
    obtain ⟨ρ1, eg, q⟩ := hs t ts acc ρ h
    unfold compSL
    simp only [eg]
    cases qc : c ρ1 with
    | ex _ _ _ => rw [qc] at q; exact q.elim
    | bad => rw [qc] at q; exact q.elim
    | ok k ρ2 =>
      rw [qc] at q
      cases k with
      | false => exact w_compSL In hs hd ts acc _ q
      | true =>
        have q : W (el ρ2) _ _ := q
        simp only
        cases q1 : el ρ2 with
        | ex _ _ _ => rw [q1] at q; exact q.elim
        | bad => rw [q1] at q; exact q.elim
        | ok kt ρ3 =>
          rw [q1] at q
          obtain ⟨k', e1, e2, q⟩ := q
          simp only [e1, if_pos e2]
          exact w_compSL In hs hd ts _ _ q
end
end Dv
/-! EA: methods that decline (NotImplemented); operators between instances of two own classes, and ints. -/
namespace Dv
open PySem PySem.Spec PyProof.Rows L2 Hv SlX
/-- an instance, with slots or without -/
def InsX (C : Addr) (H : Hp) (x : V) : Prop := ∃ a, x = .ref a ∧ ((∃ dx vs, Slt H a C dx vs) ∨ ∃ dx fs, H a = some (.ins C dx fs))
abbrev IAt (h : Heap) (C a : Addr) : Prop := ∃ (dx : Addr) (sl : Array (Option Value)) (od : Option Obj), PySem.W.InstAt h a { PySem.W.instObj C dx with slots := sl } C od
/-- a promise to decline -/
def FnNI (P : Program) (w : World) (K : PySem.W.Frag) (mg : Str → Option Value) (base : Heap) (k : Nat) (f : Addr) (sp : List V → Hp → (Hp → Prop) → Prop) : Prop :=
  ∀ (A : Around) (outer : List PySem.Env) (s : Shared) (H : Hp) (us : List Value) (vs : List V) (Q : Hp → Prop),
    RoomG k A → Env0 P w K mg base A outer s H → Vals vs us → sp vs H Q →
    codeAny (model P w) A (.call (.ref f) ⟨us, []⟩) (fun r s' => r = .ok (.ret .notImplemented) ∧ CR (L2.CX P w) outer P w H s (fun _ H' => Q H') E0 (.ok (.ret .none)) s') s
section
variable {X : Cx} {pins : List (Addr × Obj)} {σ : L2.St} {H : Hp} {s : Shared} {C D g gr : Addr} {x y : V} {n j k : Nat} {f : Addr} {sp spr : Sp} {E : XK}
theorem insX_at (I : Inv X pins σ H s) {a : Addr} (h : InsX C H (.ref a)) : IAt s.heap C a := by
  obtain ⟨_, e, h⟩ := h
  cases e
  rcases h with ⟨dx, vs, h⟩ | ⟨dx, fs, h⟩
  · obtain ⟨sl, od, _, J, _⟩ := slt_inst I h
    exact ⟨dx, sl, _, J⟩
  · obtain ⟨mA, O, _⟩ := ins_get I.hok h
    obtain ⟨od, J, _⟩ := O.look
    exact ⟨dx, _, _, J⟩
end
section
variable {prog : Program} {w : World} {A : Around} {E : Value → Shared → Prop} {s : Shared} {K : PySem.W.Frag} {x y C D f g f2 f3 f4 : Addr} {ox oy : Obj} {od od' : Option Obj} {op : Operator} {Q : Value → Shared → Prop}
open PySem.W
theorem ni_try {M : Model} {name : Str} {b : Value} {Q' : Option Value → Shared → Prop} (X : K.In s.heap) (I : InstAt s.heap x ox C od) (hs : findIn K (.ref C) name = some (some (.ref f))) (hf : isFn K (.ref f) = true)
    (h : wpAny M A (call (.ref f) [.ref x, b]) (fun v s' => v = .notImplemented ∧ Q' none s') E s) : wpAny M A (tryMethod (.ref x) name b) Q' E s := by
  unfold tryMethod
  refine wpAny_bind (special_fn X I hs (beq_iff_eq.mp hf) (wpAny_mono h (fun v s' hv => ?_) fun _ _ e => e))
  obtain ⟨rfl, q⟩ := hv
  exact wpAny_pure q
/-- x op y, unlike own classes: the left one's method answers -/
theorem bin_two (X : K.In s.heap) (I : InstAt s.heap x ox C od) (J : InstAt s.heap y oy D od') (hne : C ≠ D) (hc : selfFirst K C = true) (hd : selfFirst K D = true) (hsub : subIn K (.ref D) (.ref C) = some false)
    (hf : isFn K (.ref f) = true) (m1 : findIn K (.ref C) (PySem.dunder op.info.2) = some (some (.ref f))) (m2 : findIn K (.ref C) (dunderR op.info.2) = some (some (.ref f2)))
    (m3 : findIn K (.ref D) (PySem.dunder op.info.2) = some (some (.ref f3))) (m4 : findIn K (.ref D) (dunderR op.info.2) = some (some (.ref f4)))
    (h : wpAny (model prog w) A (call (.ref f) [.ref x, .ref y]) (PySem.W.CmpBack Q) E s) : wpAny (model prog w) A (binaryOp op (.ref x) (.ref y)) Q E s := by
  obtain ⟨cd, rest, hcd, hm⟩ := ksp_first hc
  obtain ⟨cd', rest', hcd', hm'⟩ := ksp_first hd
  rcases hi : op.info with ⟨sym, nm⟩
  rw [hi] at m1 m2 m3 m4
  dsimp only at m1 m2 m3 m4
  have one := ksp_try X I m1 hf h
  obtain ⟨hh, gg, d, tt, os⟩ := s
  have L1 : Looks (model prog w) hh (typeOf (.ref x)) (.ref C) := I.type
  have L2 : Looks (model prog w) hh (typeOf (.ref y)) (.ref D) := J.type
  have L3 : Looks (model prog w) hh (fillsNumberSlot (.ref C) nm) true := fills_K X hcd hm m1
  have L4 : Looks (model prog w) hh (fillsNumberSlot (.ref D) nm) true := fills_K X hcd' hm' m3
  have L5 : Looks (model prog w) hh (isSubtype (.ref D) (.ref C)) false := looks_subIn X hsub
  have L6 : Looks (model prog w) hh (numberSlotInPython (.ref C) nm) true := ksp_inPy X m1 m2 (.inr ⟨_, rfl⟩)
  have L7 : Looks (model prog w) hh (numberSlotInPython (.ref D) nm) true := ksp_inPy X m3 m4 (.inr ⟨_, rfl⟩)
  have hne' : (Value.ref C == Value.ref D) = false := Bool.eq_false_iff.mpr fun q => hne (by cases beq_iff_eq.mp q; rfl)
  simp only [binaryOp, hi]
  refine wpAny_holding (wpAny_bind ?_)
  unfold binaryOp1
  refine wpAny_bind (L1.at (wpAny_bind (L2.at (wpAny_bind (L3.at ?_)))))
  simp only [hne', Bool.false_eq_true, if_false]
  ksp_lk
  refine wpAny_mono one (fun r s' hr' => ?_) fun _ _ e => e
  obtain ⟨v, rfl, hq⟩ := hr'
  ksp_lk
  exact hq
/-- x op y, unlike own classes: the left one's method declines, the right one's reflected answers -/
theorem bin_two_rev (X : K.In s.heap) (I : InstAt s.heap x ox C od) (J : InstAt s.heap y oy D od') (hne : C ≠ D) (hc : selfFirst K C = true) (hd : selfFirst K D = true) (hsub : subIn K (.ref D) (.ref C) = some false)
    (hf : isFn K (.ref f) = true) (hg : isFn K (.ref f4) = true) (m1 : findIn K (.ref C) (PySem.dunder op.info.2) = some (some (.ref f))) (m2 : findIn K (.ref C) (dunderR op.info.2) = some (some (.ref f2)))
    (m3 : findIn K (.ref D) (PySem.dunder op.info.2) = some (some (.ref f3))) (m4 : findIn K (.ref D) (dunderR op.info.2) = some (some (.ref f4)))
    (h : wpAny (model prog w) A (call (.ref f) [.ref x, .ref y]) (fun v s1 => v = .notImplemented ∧ K.In s1.heap ∧ IAt s1.heap C x ∧ IAt s1.heap D y ∧ wpAny (model prog w) A (call (.ref f4) [.ref y, .ref x]) (PySem.W.CmpBack Q) E s1) E s) :
    wpAny (model prog w) A (binaryOp op (.ref x) (.ref y)) Q E s := by
  obtain ⟨cd, rest, hcd, hm⟩ := ksp_first hc
  obtain ⟨cd', rest', hcd', hm'⟩ := ksp_first hd
  rcases hi : op.info with ⟨sym, nm⟩
  rw [hi] at m1 m2 m3 m4
  dsimp only at m1 m2 m3 m4
  have dec := fun Q' (z : ∀ s1 : Shared, (K.In s1.heap ∧ IAt s1.heap C x ∧ IAt s1.heap D y ∧ wpAny (model prog w) A (call (.ref f4) [.ref y, .ref x]) (PySem.W.CmpBack Q) E s1) → Q' none s1) => ni_try (Q' := Q') X I m1 hf (wpAny_mono h (fun v s1 q => ⟨q.1, z s1 q.2⟩) fun _ _ e => e)
  obtain ⟨hh, gg, d, tt, os⟩ := s
  have L1 : Looks (model prog w) hh (typeOf (.ref x)) (.ref C) := I.type
  have L2 : Looks (model prog w) hh (typeOf (.ref y)) (.ref D) := J.type
  have L3 : Looks (model prog w) hh (fillsNumberSlot (.ref C) nm) true := fills_K X hcd hm m1
  have L4 : Looks (model prog w) hh (fillsNumberSlot (.ref D) nm) true := fills_K X hcd' hm' m3
  have L5 : Looks (model prog w) hh (isSubtype (.ref D) (.ref C)) false := looks_subIn X hsub
  have L6 : Looks (model prog w) hh (numberSlotInPython (.ref C) nm) true := ksp_inPy X m1 m2 (.inr ⟨_, rfl⟩)
  have L7 : Looks (model prog w) hh (numberSlotInPython (.ref D) nm) true := ksp_inPy X m3 m4 (.inr ⟨_, rfl⟩)
  have hne' : (Value.ref C == Value.ref D) = false := Bool.eq_false_iff.mpr fun q => hne (by cases beq_iff_eq.mp q; rfl)
  simp only [binaryOp, hi]
  refine wpAny_holding (wpAny_bind ?_)
  unfold binaryOp1
  refine wpAny_bind (L1.at (wpAny_bind (L2.at (wpAny_bind (L3.at ?_)))))
  simp only [hne', Bool.false_eq_true, if_false]
  clear h
  ksp_lk
  refine dec _ fun s1 ⟨X1, ⟨_, _, _, I1⟩, ⟨_, _, _, J1⟩, h⟩ => ?_
  clear L1 L2 L3 L4 L5 L6 L7
  have one := ksp_try X1 J1 m4 hg h
  obtain ⟨hh1, gg1, d1, tt1, os1⟩ := s1
  have L1 : Looks (model prog w) hh1 (typeOf (.ref x)) (.ref C) := I1.type
  have L2 : Looks (model prog w) hh1 (typeOf (.ref y)) (.ref D) := J1.type
  dsimp only
  simp only [if_true]
  refine wpAny_bind (L1.at (wpAny_bind (L2.at ?_)))
  simp only [hne', Bool.false_eq_true, if_false]
  ksp_lk
  refine wpAny_mono one (fun r s' hr' => ?_) fun _ _ e => e
  obtain ⟨v, rfl, hq⟩ := hr'
  ksp_lk
  exact hq
end
end Dv
/-! EB: defs that decline by their first test; operators with Sums (op2S). -/
namespace Dv
open PySem PySem.Spec PyProof.Rows L2 Hv SlX HvP
/-- the test of a def that declines when it holds -/
def niF (n : Nat) (ni : M Bool) : FT := fun as => match ni (as ++ List.replicate (n - as.length) .un) with
  | .ok true ρ => match backs as ρ with
    | some ps => .ok (.val .non) ps
    | none => .bad
  | _ => .bad
def spNI (K : PySem.W.Frag) (m : Nat) (F : FT) : List V → Hp → (Hp → Prop) → Prop := fun vs H Q => vs.length = m ∧ spD K F vs H (fun _ H' => Q H') E0
theorem boot_ni : bootBuiltins "NotImplemented" = some .notImplemented := by decide +kernel
section
variable {P : Program} {w : World} {K : PySem.W.Frag} {mg : Str → Option Value} {base : Heap} {j k : Nat} {f : Addr}
theorem okNI {n : Nat} {qual nm : Str} {params : Arguments} {rest : List Stmt} {c : Expr} {p1 p2 p3 : Pos} {scope : Scope} {dvs : List V} {kws : List (Str × V)} {fd : FuncData} {N ps : List Str} {ni : M Bool}
    (F : FunD K nm qual params (.If c [.Return (some (.Name "NotImplemented" p1)) p2] [] p3 :: rest) scope dvs kws f fd) (S : FnScope N ps scope) (hb : Binds K fd ps []) (hN : N.length = n) (hm : mg "NotImplemented" = none)
    (hg : ∀ (cdv : Value) (A : Around) (outer : List PySem.Env) (s : Shared) (H : Hp) (E : XK), Gl (cxOf (L2.CX P w) P w K mg base N qual scope f cdv A outer s H E) "NotImplemented")
    (hbody : ∀ (cdv : Value) (A : Around) (outer : List PySem.Env) (s : Shared) (H : Hp) (E : XK), RoomG k (A.deeper (envOfC qual scope s.heap.objs.size f cdv)) →
      DenT (cxOf (L2.CX P w) P w K mg base N qual scope f cdv A outer s H E) (fun cls d _ H => E cls d H) c ni) :
    FnNI P w K mg base (k + 1) f (spNI K ps.length (niF n ni)) := by
  intro A outer s H us vs Q hr e0 r hs
  obtain ⟨hl, β, Fz, as, st, ha, g⟩ := hs
  obtain ⟨oc, od, dV, kV, doc, pm, an, cdv, ct, osl, rfl, lk, hcd, _, _⟩ := F.ex
  have hl2 : us.length = ps.length := by rw [← r.length]; exact hl
  have KX : K.In s.heap := e0.mod.kin.keeps fun b o e => (e0.bs b o e).1
  have lim : s.heap.NoLimit := e0.mod.nolimit.keeps fun b o e => (e0.bs b o e).1
  have hb2 := hb s us KX (by simpa using hl2)
  rw [List.append_nil] at hb2
  refine Att.call_fn KX lim lk hcd hr.r.depth hb2 ?_ (fun s1 x1 => ?_) S.co S.gen S.kind
  · refine List.all_eq_true.mpr fun y hy => ?_
    rcases S.par y.1 (List.of_mem_zip (a := y.1) (b := y.2) hy).1 with q | q
    · simp [q]
    · simp [q]
  · have I := inv_start (CX := L2.CX P w) (P := P) (w := w) (K := K) (mg := mg) (base := base) (E := E0) S hr.r.hd e0 hl r x1
    have hlen : vs.length = as.length := by have := st.len; simpa using this
    have hst : L2.start N vs = vs.map some ++ List.replicate (n - as.length) none := by unfold L2.start; rw [hN, hlen]
    rw [hst] at I
    have s0 := st.start (n - as.length)
    unfold niF at g
    have tv := hbody cdv A outer s H E0 (hr.deeper _) β ⟨Fz, H, vs.map some ++ List.replicate (n - as.length) none, as ++ List.replicate (n - as.length) Slot.un⟩ (fun b H1 => b = true ∧ Q H1) s0 (by
      show GoT K β _ _ (ni (as ++ List.replicate (n - as.length) Slot.un)) _
      cases q : ni (as ++ List.replicate (n - as.length) Slot.un) with
      | ok b ρ' =>
        rw [q] at g
        cases b with
        | false => exact g.elim
        | true =>
          simp only at g
          cases eb : backs as ρ' with
          | none => simp only [eb] at g; exact g.elim
          | some ps' =>
            simp only [eb] at g
            exact fun F' H' nx => ⟨rfl, g F' H' .non (nx.back st eb) .non⟩
      | ex c u ρ' => rw [q] at g; exact g.elim
      | bad => rw [q] at g; exact g.elim)
    refine wpAny_execs_cons (wpAny_If (wpAny_mono (pt_tv.run [] s1 _ H _ I tv) (fun b s' z => ?_) (fun e s' z => ?_)))
    · obtain ⟨H1, I1, rfl, q⟩ := z
      rw [if_pos rfl]
      refine wpAny_execs_cons (wpAny_Return_some (ld_blt I1 (hg _ _ _ _ _ _) hm boot_ni ?_))
      exact ⟨rfl, .non, H1, I1.os, I1.bare, I1.base, I1.hok, rfl, q⟩
    · have := wpAny_mono z (Q' := fun _ _ => False) (E' := fun _ _ => False) (fun _ _ q => (noX q).elim) (fun _ _ q => (noX q).elim)
      exact wpAny_mono this (fun _ _ q => q.elim) (fun _ _ q => q.elim)
end
def sumArg : T → Bool
  | .ins C _ => decide (C = "Sum")
  | .int _ => true
  | .rat _ => true
  | _ => false
/-- a op b, with Sums -/
def opS (num : T → T → Option T) (Fm Fr Fn : FT) (s t : T) (ρ : Env) : R Slot :=
  match s, t with
  | .ins C fs, t => if C = "Sum" ∧ sumArg t = true then (match fit ρ [.v (.ins C fs), .v t] (Fm [.val (.ins C fs), .val t]) with
    | .ok s ρ' => .ok s ρ'
    | _ => .bad) else .bad
  | .int i, .ins C fs => if C = "Sum" then (match fit ρ [.v (.ins C fs), .v (.int i)] (Fr [.val (.ins C fs), .val (.int i)]) with
    | .ok s ρ' => .ok s ρ'
    | _ => .bad) else .bad
  | .rat q, .ins C fs => if C = "Sum" then (match fit ρ [.v (.rat q), .v (.ins C fs)] (Fn [.val (.rat q), .val (.ins C fs)]) with
    | .ok _ ρ1 => (match fit ρ1 [.v (.ins C fs), .v (.rat q)] (Fr [.val (.ins C fs), .val (.rat q)]) with
      | .ok s ρ' => .ok s ρ'
      | _ => .bad)
    | _ => .bad) else .bad
  | s, t => (match num s t with
    | some u => .ok (.val u) ρ
    | none => .bad)
def op2S (num : T → T → Option T) (Fm Fr Fn : FT) (ma mb : M T) : M Slot := ma.bind fun s => mb.bind fun t => opS num Fm Fr Fn s t
/-- x op y: a Sum on the left, an int on the left, a Ratio on the left that declines -/
def rS (CS CR : Addr) (sp spr : Sp) (spn : List V → Hp → (Hp → Prop) → Prop) : R2 := fun x y H Q =>
  (InsX CS H x ∧ (InsX CS H y ∨ (∃ i, y = .int i) ∨ InsX CR H y) ∧ sp [x, y] H Q E0) ∨
  ((∃ i, x = .int i) ∧ InsX CS H y ∧ spr [y, x] H Q E0) ∨
  (InsX CR H x ∧ InsX CS H y ∧ spn [x, y] H fun H1 => InsX CR H1 x ∧ InsX CS H1 y ∧ spr [y, x] H1 Q E0)
/-- the methods of Sum for an operator, the Ratio's that declines -/
structure SOp (P : Program) (w : World) (K : PySem.W.Frag) (mg : Str → Option Value) (base : Heap) (k : Nat) (op : Operator) (Fm Fr Fn : FT) : Prop where
  ex : ∃ a b c d, Meth K (He.ga K "Sum") (PySem.dunder op.info.2) a ∧ Meth K (He.ga K "Sum") (dunderR op.info.2) b ∧ Meth K (CRt K) (PySem.dunder op.info.2) c ∧ Meth K (CRt K) (dunderR op.info.2) d ∧
    FnG P w K mg base k a (spN K 2 Fm) ∧ FnG P w K mg base k b (spN K 2 Fr) ∧ FnNI P w K mg base k c (spNI K 2 Fn)
/-- what the written part says of the class Sum beside Ratio -/
structure SumO (K : PySem.W.Frag) : Prop where
  s : NumC K (He.ga K "Sum")
  r : NumC K (CRt K)
  ne : He.ga K "Sum" ≠ CRt K
  rs : PySem.W.subIn K (.ref (CRt K)) (.ref (He.ga K "Sum")) = some false
  sr : PySem.W.subIn K (.ref (He.ga K "Sum")) (.ref (CRt K)) = some false
section
variable {X : Cx} {W : WX} {β : Bc} {x : Sx} {e a b : Expr} {Q : VK} {pos : Pos} {ma mb : M T} {op : Operator} {Fm Fr Fn : FT} {num : T → T → Option T} {n j : Nat} {H : Hp} {id : String} {B : Builtin} {v w : V}
theorem op_sum {sp spr : Sp} {spn : List V → Hp → (Hp → Prop) → Prop} {fa fb fc fd : Addr} (O : SumO X.K) (m1 : Meth X.K (He.ga X.K "Sum") (PySem.dunder op.info.2) fa) (m2 : Meth X.K (He.ga X.K "Sum") (dunderR op.info.2) fb)
    (m3 : Meth X.K (CRt X.K) (PySem.dunder op.info.2) fc) (m4 : Meth X.K (CRt X.K) (dunderR op.info.2) fd) (F : FnX X n fa sp) (Fr : FnX X n fb spr) (Fn : FnNI X.prog X.w X.K X.mg X.base n fc spn)
    (hr : RoomG j X.A) (hj : n ≤ j) (tb : IntTab op.info.2) (io : IntOp (PySem.dunder op.info.2) id B) : OpR X (binaryOp op) (rS (He.ga X.K "Sum") (CRt X.K) sp spr spn) := by
  intro pins s σ H x y v u Q I rx ry h
  have hr' := hr.mono hj
  obtain ⟨m', hF⟩ := I.fr
  rcases h with ⟨hx, hy, q⟩ | ⟨⟨i, rfl⟩, hy, q⟩ | ⟨hx, hy, q⟩
  · obtain ⟨a, rfl, _⟩ := _root_.id hx
    cases (show v = Value.ref a from rx)
    obtain ⟨dx, sl, od, J⟩ := insX_at I hx
    rcases hy with hy | ⟨k, rfl⟩ | hy
    · obtain ⟨b, rfl, _⟩ := _root_.id hy
      cases (show u = Value.ref b from ry)
      obtain ⟨dy, sl', od', J'⟩ := insX_at I hy
      exact PySem.W.binop_K hF I.ok.mod.kin J J'.type O.s.sf m1.at_ m1.fn (call_back F hr' passL I (.cons (rr a) (.cons (rr b) .nil)) q)
    · obtain ⟨t, rfl⟩ := (show ∃ t, u = Value.int k t from ry)
      obtain ⟨fo, h1⟩ := tb.fo
      obtain ⟨ro, h2⟩ := tb.ro
      exact PySem.W.ksp_binT hF I.ok.mod.kin J rfl O.s.sf m1.at_ m1.fn m2.at_ (.inr ⟨_, rfl⟩) (h1 _) (h2 _) (sub_int _ _) (call_back F hr' passL I (.cons (rr a) (.cons (ri k t) .nil)) q)
    · obtain ⟨b, rfl, _⟩ := _root_.id hy
      cases (show u = Value.ref b from ry)
      obtain ⟨dy, sl', od', J'⟩ := insX_at I hy
      exact bin_two I.kIn J J' O.ne O.s.sf O.r.sf O.rs m1.fn m1.at_ m2.at_ m3.at_ m4.at_ (call_back F hr' passL I (.cons (rr a) (.cons (rr b) .nil)) q)
  · obtain ⟨t, rfl⟩ := (show ∃ t, v = Value.int i t from rx)
    obtain ⟨b, rfl, _⟩ := _root_.id hy
    cases (show u = Value.ref b from ry)
    obtain ⟨dy, sl', od', J⟩ := insX_at I hy
    exact rev_bin I.kIn J O.s.sf m1.at_ m2.at_ m2.fn tb.fills O.s.sub io (call_back Fr hr' passL I (.cons (rr b) (.cons (ri i t) .nil)) q)
  · obtain ⟨a, rfl, _⟩ := _root_.id hx
    cases (show v = Value.ref a from rx)
    obtain ⟨b, rfl, _⟩ := _root_.id hy
    cases (show u = Value.ref b from ry)
    obtain ⟨dx, sl, od, J⟩ := insX_at I hx
    obtain ⟨dy, sl', od', J'⟩ := insX_at I hy
    refine bin_two_rev I.kIn J J' (fun z => O.ne z.symm) O.r.sf O.s.sf O.sr m3.fn m2.fn m3.at_ m4.at_ m1.at_ m2.at_ ?_
    refine wpAny_call (codeAny_mono (Fn X.A X.stack s H [.ref a, .ref b] [.ref a, .ref b] _ hr' I.env0 (.cons (rr a) (.cons (rr b) .nil)) q) fun r s' z => ?_)
    obtain ⟨rfl, z⟩ := z
    obtain ⟨v', H', I', _, h1, h2, q2⟩ := I.after z
    exact ⟨rfl, I'.kIn, insX_at I' h1, insX_at I' h2, call_back Fr hr' passL I' (.cons (rr b) (.cons (rr a) .nil)) q2⟩
theorem insX_rat {K : PySem.W.Frag} {F : Addr → Prop} {v : V} {q : Rat} (h : Rep K F H v (.rat q)) : InsX (CRt K) H v := by
  cases h with
  | obj f h => cases h with | rat h _ h2 => exact ⟨_, rfl, .inl ⟨_, _, .inr ⟨h, h2⟩⟩⟩
theorem insX_ins {K : PySem.W.Frag} {F : Addr → Prop} {v : V} {C : Str} {fs : List (Str × T)} (h : Rep K F H v (.ins C fs)) : InsX (He.ga K C) H v := by
  cases h with
  | obj f h => cases h with | ins h _ _ => exact ⟨_, rfl, .inr ⟨_, _, h⟩⟩
theorem fit_ok {ρ : Env} {as : List Ar} {r : RF} {y : Sx} {K : PySem.W.Frag} (g : GoF K β W y (match fit ρ as r with
    | .ok s ρ' => .ok s ρ'
    | _ => .bad) Q) : GoF K β W0 y (fit ρ as r) Q := by
  cases q : fit ρ as r with
  | ok s ρ' => rw [q] at g; exact g
  | ex c u ρ' => rw [q] at g; exact g.elim
  | bad => rw [q] at g; exact g.elim
theorem denf_opS (O : SumO X.K) (M : SOp X.prog X.w X.K X.mg X.base n op Fm Fr Fn) (hr : RoomG j X.A) (tb : IntTab op.info.2) (io : IntOp (PySem.dunder op.info.2) id B) (ha : Den X W a ma) (hb : Den X W b mb)
    (d : OpD X W num (OV X (binaryOp op))) (hj : n ≤ j := by decide) : DenF X W (.BinOp a op b pos) (op2S num Fm Fr Fn ma mb) := by
  intro β x Q hs g
  obtain ⟨fa, fb, fc, fd, m1, m2, m3, m4, F1, F2, F3⟩ := M.ex
  have op := op_sum O m1 m2 m3 m4 F1 F2 F3 hr hj tb io
  refine ev_op (ev_mono (ha.thenF hs g) ?_)
  rintro v H1 ⟨G1, ρ1, s, at1, _, g1⟩
  refine ev_mono (hb.thenF (x := ⟨G1, H1, x.σ, ρ1⟩) at1.st g1) ?_
  rintro u H2 ⟨G2, ρ2, t, at2, _, g2⟩
  have rs : Rep X.K G2 H2 v s := at2.nx.2.rep at1.st at1.rep
  have rt := at2.rep
  have s2 : St X.K β ⟨G2, H2, x.σ, ρ2⟩ := at2.st
  have plain : (GoF X.K β W ⟨G2, H2, x.σ, ρ2⟩ (match num s t with
    | some u => .ok (.val u) ρ2
    | none => .bad) Q) → OV X (binaryOp _) v u H2 Q := fun g => d β ⟨G2, H2, x.σ, ρ2⟩ v u s t Q s2 (.inl rs) (.inl rt) (by
      cases q : num s t with
      | none => rw [q] at g; exact g.elim
      | some w => rw [q] at g; exact fun F' H' v n r => g F' H' v n r)
  cases s with
  | ins C fs =>
    simp only [opS] at g2
    by_cases h : C = "Sum" ∧ sumArg t = true
    · rw [if_pos h] at g2
      obtain ⟨h1, h2⟩ := h
      subst h1
      refine ⟨_, op, .inl ⟨insX_ins rs, ?_, rfl, call_core (W := W0) (x := ⟨G2, H2, x.σ, ρ2⟩) (as := [.v (.ins "Sum" fs), .v t]) s2 (.cons rs (.cons rt .nil)) (by simp [mss]) rfl (fit_ok g2)⟩⟩
      cases t <;> simp only [sumArg, decide_eq_true_eq, Bool.false_eq_true] at h2
      · cases rt with
        | int i => exact .inr (.inl ⟨_, rfl⟩)
        | obj f h => cases h
      · exact .inr (.inr (insX_rat rt))
      · subst h2; exact .inl (insX_ins rt)
    · rw [if_neg h] at g2
      exact g2.elim
  | int i =>
    cases t <;> (try exact plain g2)
    rename_i C fs _
    simp only [opS] at g2
    by_cases h : C = "Sum"
    · rw [if_pos h] at g2
      subst h
      refine ⟨_, op, .inr (.inl ⟨?_, insX_ins rt, rfl, call_core (W := W0) (x := ⟨G2, H2, x.σ, ρ2⟩) (as := [.v (.ins "Sum" fs), .v (.int i)]) s2 (.cons rt (.cons rs .nil)) (by simp [mss]) rfl (fit_ok g2)⟩)⟩
      cases rs with
      | int i => exact ⟨_, rfl⟩
      | obj f h => cases h
    · rw [if_neg h] at g2
      exact g2.elim
  | rat q =>
    cases t <;> (try exact plain g2)
    rename_i C fs _
    simp only [opS] at g2
    by_cases h : C = "Sum"
    · rw [if_pos h] at g2
      subst h
      refine ⟨_, op, .inr (.inr ⟨insX_rat rs, insX_ins rt, rfl, call_core (W := W0) (x := ⟨G2, H2, x.σ, ρ2⟩) (as := [.v (.rat q), .v (.ins "Sum" fs)]) s2 (.cons rs (.cons rt .nil)) (by simp [mss]) rfl ?_⟩)⟩
      cases q1 : fit ρ2 [.v (.rat q), .v (.ins "Sum" fs)] (Fn [.val (.rat q), .val (.ins "Sum" fs)]) with
      | ex c u ρ' => rw [q1] at g2; exact g2.elim
      | bad => rw [q1] at g2; exact g2.elim
      | ok r ρ3 =>
        rw [q1] at g2
        intro F3 H3 v3 n3 _
        have g3 := GoF.on n3 rfl g2
        have rs3 := n3.2.rep s2 rs
        have rt3 := n3.2.rep s2 rt
        exact ⟨insX_rat rs3, insX_ins rt3, rfl, call_core (W := W0) (x := ⟨F3, H3, x.σ, ρ3⟩) (as := [.v (.ins "Sum" fs), .v (.rat q)]) n3.1 (.cons rt3 (.cons rs3 .nil)) (by simp [mss]) rfl (fit_ok g3)⟩
    · rw [if_neg h] at g2
      exact g2.elim
  | _ => cases t <;> first | exact plain g2 | exact g2.elim
end
end Dv
/-! EC: Sums: -s, len(s), s[k] = v, Sum(). -/
namespace Dv
open PySem PySem.Spec PyProof.Rows L2 Hv SlX HvP
section
variable {X : Cx} {W : WX} {β : Bc} {x : Sx} {e a b c o : Expr} {es : List Expr} {Q : VK} {pos p p2 : Pos} {m mv mk : M T} {ma : M Rdr} {F : FT} {num : T → Option T} {n j k : Nat} {H : Hp} {v w : V} {C g : Addr} {sp spC : Sp} {cs : List Addr} {f : Str}
/-- a method of Sum by name -/
def SMth (P : Program) (w : World) (K : PySem.W.Frag) (mg : Str → Option Value) (base : Heap) (k : Nat) (nm : Str) (ar : Nat) (F : FT) : Prop :=
  ∃ a, Meth K (He.ga K "Sum") nm a ∧ FnG P w K mg base k a (spN K ar F)
/-- -s -/
def un1S (num : T → Option T) (F : FT) (m : M T) : M Slot := m.bind fun t ρ => match t with
  | .ins C fs => if C = "Sum" then (match fit ρ [.v (.ins C fs)] (F [.val (.ins C fs)]) with
    | .ok s ρ' => .ok s ρ'
    | _ => .bad) else .bad
  | t => (match num t with
    | some u => .ok (.val u) ρ
    | none => .bad)
theorem un_negX (mt : Meth X.K C "__neg__" g) (F : FnX X n g sp) (hr : RoomG j X.A) (hj : n ≤ j) : UnR X (unaryOp .USub) (fun x H Q => InsX C H x ∧ sp [x] H Q E0) := by
  intro pins s σ H x v Q I rx h
  obtain ⟨hx, q⟩ := h
  obtain ⟨a, rfl, _⟩ := _root_.id hx
  cases (show v = Value.ref a from rx)
  obtain ⟨_, _, _, J⟩ := insX_at I hx
  obtain ⟨m', hF⟩ := I.fr
  exact PySem.W.ksp_neg hF I.ok.mod.kin J mt.at_ mt.fn (wpAny_call (run_g F (hr.mono hj) passL I (.cons (rr a) .nil) q))
theorem denf_negS (M : SMth X.prog X.w X.K X.mg X.base n "__neg__" 1 F) (hr : RoomG j X.A) (ha : Den X W a m) (d : UnD X W num (UV X (unaryOp .USub))) (hj : n ≤ j := by decide) : DenF X W (.UnaryOp .USub a pos) (un1S num F m) := by
  intro β x Q hs g
  obtain ⟨fa, mt, F1⟩ := M
  refine ev_un (ev_mono (ha.thenF hs g) ?_)
  rintro v H1 ⟨G1, ρ1, t, at1, _, g1⟩
  have rt := at1.rep
  have s1 : St X.K β ⟨G1, H1, x.σ, ρ1⟩ := at1.st
  have plain : (GoF X.K β W ⟨G1, H1, x.σ, ρ1⟩ (match num t with
    | some u => .ok (.val u) ρ1
    | none => .bad) Q) → UV X (unaryOp .USub) v H1 Q := fun g => d β ⟨G1, H1, x.σ, ρ1⟩ v t Q s1 (.inl rt) (by
      cases q : num t with
      | none => rw [q] at g; exact g.elim
      | some w => rw [q] at g; exact fun F' H' v n r => g F' H' v n r)
  cases t with
  | ins C fs =>
    simp only at g1
    by_cases h : C = "Sum"
    · rw [if_pos h] at g1
      subst h
      exact ⟨_, un_negX mt F1 hr hj, insX_ins rt, rfl, call_core (W := W0) (x := ⟨G1, H1, x.σ, ρ1⟩) (as := [.v (.ins "Sum" fs)]) s1 (.cons rt .nil) (by simp [mss]) rfl (fit_ok g1)⟩
    · rw [if_neg h] at g1
      exact g1.elim
  | _ => exact plain g1
/-- len(s) -/
def lenS (F : FT) (m : M T) : M T := m.bind fun t ρ => match t with
  | .ins C fs => if C = "Sum" then (match fit ρ [.v (.ins C fs)] (F [.val (.ins C fs)]) with
    | .ok (.val (.int i)) ρ' => if 0 ≤ i ∧ i < 2 ^ 63 then .ok (.int i) ρ' else .bad
    | _ => .bad) else .bad
  | t => lift (lenP t) ρ
theorem call_lenX (mt : Meth X.K C "__len__" g) (F : FnX X n g sp) (hr : RoomG j X.A) (hj : n + 1 ≤ j) :
    CallR X (.builtin "len") (fun xs H Q => ∃ x, xs = [x] ∧ InsX C H x ∧ sp [x] H (fun v H' => ∃ i : Int, v = .int i ∧ (0 ≤ i ∧ i < 2 ^ 63) ∧ Q (.int i) H') E0) := by
  intro pins s σ H xs us Q I r h
  obtain ⟨x, rfl, hx, q⟩ := h
  obtain ⟨u, rfl, rx⟩ := vals1 r
  obtain ⟨a, rfl, _⟩ := _root_.id hx
  cases (show u = Value.ref a from rx)
  obtain ⟨_, _, _, J⟩ := insX_at I hx
  obtain ⟨m', hF⟩ := I.fr
  refine PySem.W.len_K hF I.ok.mod.kin J mt.at_ mt.fn (wpAny_mono (wpAny_call (run_at (us := [.ref a]) (vs := [.ref a]) F (hr.mono hj).in1 I.env0.in1 passL I (.cons rfl .nil) q)) (fun v s' z => ?_) fun _ _ z => z)
  obtain ⟨_, H', I', rz, i, rfl, hi, q2⟩ := z
  obtain ⟨t, rfl⟩ := (show ∃ t, v = Value.int i t from rz)
  exact ⟨hi, .int i, H', I'.tok _, ri i _, q2⟩
theorem den_lenS (M : SMth X.prog X.w X.K X.mg X.base n "__len__" 1 F) (B : Blt X.mg) (hr : RoomG j X.A) (ha : Den X W a m) (hp : UnD X W lenP fun v H Q => CV X (.builtin "len") [v] H Q) (hj : n + 1 ≤ j := by decide) (hg : Gl X "len" := by rfl)
    (he : starEach [a] X.env = [(false, eval a X.env)] := by rfl) : Den X W (.Call (.Name "len" p) [a] [] pos) (lenS F m) := by
  intro β x Q hs g
  obtain ⟨fa, mt, F1⟩ := M
  refine ev_len B (av_cons (ev_mono (ha.then hs g) ?_) he) hg he
  rintro v H1 ⟨G1, ρ1, t, at1, _, g1⟩
  refine av_nil ?_
  have rt := at1.rep
  have s1 : St X.K β ⟨G1, H1, x.σ, ρ1⟩ := at1.st
  cases t with
  | ins C fs =>
    simp only at g1
    by_cases h : C = "Sum"
    · rw [if_pos h] at g1
      subst h
      refine ⟨_, call_lenX mt F1 hr hj, _, rfl, insX_ins rt, rfl, call_core (W := W0) (x := ⟨G1, H1, x.σ, ρ1⟩) (as := [.v (.ins "Sum" fs)]) s1 (.cons rt .nil) (by simp [mss]) rfl ?_⟩
      cases q : fit ρ1 [.v (.ins "Sum" fs)] (F [.val (.ins "Sum" fs)]) with
      | ok s ρ2 =>
        rw [q] at g1
        cases s <;> (try exact g1.elim)
        rename_i t
        cases t <;> (try exact g1.elim)
        rename_i i
        simp only at g1
        by_cases hi : 0 ≤ i ∧ i < 2 ^ 63
        · rw [if_pos hi] at g1
          intro F' H' v' n' r'
          have r' : Rep X.K F' H' v' (.int i) := r'
          cases RepP.int (.inl r')
          exact ⟨i, rfl, hi, g1 F' H' _ n' (.int i)⟩
        · rw [if_neg hi] at g1
          exact g1.elim
      | ex c u ρ' => rw [q] at g1; exact g1.elim
      | bad => rw [q] at g1; exact g1.elim
    · rw [if_neg h] at g1
      exact g1.elim
  | _ => exact hp β ⟨G1, H1, x.σ, ρ1⟩ v _ Q s1 (.inl rt) g1
/-- s[k] = v, the slot's own Sum -/
def storeSS (i : Nat) (F : FT) (mv mk : M T) : S := mv.thenS fun t ρ => if (lentT ρ i).isSome then (mk.thenS fun k ρ => match lentT ρ i with
    | some (.ins C c) => if C = "Sum" then (match fit ρ [.m i, .v k, .v t] (F [.bor (.ins C c), .val k, .val t]) with
      | .ok _ ρ' => .nx ρ'
      | _ => .bad) else .bad
    | _ => .bad) ρ else .bad
theorem set_own (mt : Meth X.K C "__setitem__" g) (ns : PySem.W.noSeq X.K C = true) (F : FnX X n g sp) (hr : RoomG j X.A) (hj : n ≤ j) : PSet X fun o i v H Q => InsX C H o ∧ sp [o, i, v] H (fun _ H' => Q H') E0 := by
  intro pins s σ H o i v ov iv u Q I ro ri rv h
  obtain ⟨hx, q⟩ := h
  obtain ⟨a, rfl, _⟩ := _root_.id hx
  cases (show ov = Value.ref a from ro)
  obtain ⟨_, _, _, J⟩ := insX_at I hx
  obtain ⟨m', hF⟩ := I.fr
  refine PySem.W.ksp_setItem hF I.ok.mod.kin J ns mt.at_ mt.fn (wpAny_mono (wpAny_call (run_g F (hr.mono hj) passL I (.cons (rr a) (.cons ri (.cons rv .nil))) q)) (fun w s' z => ?_) fun _ _ z => z)
  obtain ⟨_, H', I', _, q2⟩ := z
  exact ⟨H', I', q2⟩
theorem dens_storeS {n0 : Str} {ip sp : Pos} (i : Nat) (M : SMth X.prog X.w X.K X.mg X.base n "__setitem__" 3 F) (ns : PySem.W.noSeq X.K (He.ga X.K "Sum") = true) (hp : PE X (.Name n0 ip) (tVar i)) (hr : RoomG j X.A) (hv : Den X W e mv) (hi : Den X W a mk)
    (hj : n ≤ j := by decide)
    (ha : ∀ v, assign (.Subscript (.Name n0 ip) a p) X.env v = (do
      let ov ← holding [v] (eval (.Name n0 ip) X.env)
      let iv ← holding [v, ov] (eval a X.env)
      standAt p
      holding [v, ov, iv] (setItem ov iv v)
      release [v, ov, iv] []) := by intro _; rfl)
    (hs : swapsWithSole [.Subscript (.Name n0 ip) a p] e sp.line X.env = pure false := by rfl) (hw : swappedStores [.Subscript (.Name n0 ip) a p] e X.env = pure none := by rfl) (hx : (assignEach [.Subscript (.Name n0 ip) a p] X.env).map (·.2) = [assign (.Subscript (.Name n0 ip) a p) X.env] := by rfl) :
    DenS X W (.Assign [.Subscript (.Name n0 ip) a p] e sp) (storeSS i F mv mk) := by
  intro β x D st g
  obtain ⟨fa, mt, F1⟩ := M
  refine ⟨_, ps_asg pe_ev (pg_sub pe_ev pe_ev set_sv ha) hs hw hx, ?_⟩
  refine ev_mono (hv.thenS st g) ?_
  rintro v H1 ⟨F1', ρ1, t, at1, _, g1⟩
  cases q : lentT ρ1 i with
  | none => rw [if_neg (by simp [q])] at g1; exact g1.elim
  | some c0 =>
    rw [if_pos (by simp [q])] at g1
    obtain ⟨a0, e0, _⟩ := mut_core (x := ⟨F1', H1, x.σ, ρ1⟩) at1.st q
    refine ev_var i hp e0 ?_
    refine ev_mono (hi.thenS (x := ⟨F1', H1, x.σ, ρ1⟩) at1.st g1) ?_
    rintro w H2 ⟨F2, ρ2, k, at2, _, g2⟩
    cases q2 : lentT ρ2 i with
    | none => simp only [q2] at g2; exact g2.elim
    | some c =>
      simp only [q2] at g2
      obtain ⟨C, fs, rfl⟩ : ∃ C fs, c = .ins C fs := by
        cases c <;> first | exact g2.elim | exact ⟨_, _, rfl⟩
      simp only at g2
      by_cases hC : C = "Sum"
      · rw [if_pos hC] at g2
        subst hC
        obtain ⟨a1, e1, ow, nf, nx⟩ := mut_core (x := ⟨F2, H2, x.σ, ρ2⟩) at2.st q2
        have ee : a0 = a1 := by
          have z : (some (some (V.ref a0)) : Option (Option V)) = some (some (V.ref a1)) := e0.symm.trans e1
          simpa using z
        subst ee
        have rt : Rep X.K F2 H2 v t := at2.nx.2.rep at1.st at1.rep
        obtain ⟨dx, fvs, hins, rk⟩ := ow.insI
        refine ⟨_, set_own mt ns F1 hr hj, ⟨a0, rfl, .inr ⟨dx, fvs, hins⟩⟩, rfl, ?_⟩
        refine call_core (W := W0) (x := ⟨F2, H2, x.σ, ρ2⟩) (as := [.m i, .v k, .v t]) (ins := [.bor (.ins "Sum" fs), .val k, .val t]) at2.st (.cons e1 (.cons at2.rep (.cons rt .nil))) (by simp [mss]) (by simp [inp, q2]) ?_
        cases q3 : fit ρ2 [.m i, .v k, .v t] (F [.bor (.ins "Sum" fs), .val k, .val t]) with
        | ok s ρ3 =>
          rw [q3] at g2
          exact fun F' H' v' n' _ => g2 F' H' x.σ n'
        | ex c u ρ' => rw [q3] at g2; exact g2.elim
        | bad => rw [q3] at g2; exact g2.elim
      · rw [if_neg hC] at g2
        exact g2.elim
/-! ### C() -/
theorem pg_makeS0 (c : GMX X k f spC) (hr : RoomG j X.A) (hj : k + 1 ≤ j) (hg : Gl X f) (tk : Takes X W)
    (hdb : (f == ("__debug__" : Str)) = false := by decide) : PE X (.Call (.Name f p) [] [] pos) (tCalS spC W tNil) := by
  obtain ⟨C, g, sp, hm, M, F, imp⟩ := c.ex
  refine ⟨fun pins s σ H Q I h => ?_⟩
  refine wpAny_Call_Name_kw (ld_glob I hg hm ?_ hdb)
  exact PySem.W.callWith_K0 I.kIn M.kp (run_mkS (us := []) M F (hr.mono hj) (passAt tk σ) I .nil (imp _ _ _ _ h))
theorem denf_make0 {F : FT} (c : GMX X k f (spN X.K 0 F)) (hr : RoomG j X.A) (tk : Takes X W) (hj : k + 1 ≤ j := by decide) (hg : Gl X f := by rfl)
    (hdb : (f == ("__debug__" : Str)) = false := by decide) : DenF X W (.Call (.Name f p) [] [] pos) (callN 0 F nilR) := by
  intro β x Q hs g
  refine ⟨_, pg_makeS0 c hr hj hg tk hdb, rfl, ?_⟩
  exact call_core (x := x) (as := []) (ins := []) hs .nil (by simp [mss]) rfl g
end
/-- a maker with defaults put in -/
theorem makesD {P : Program} {w : World} {K : PySem.W.Frag} {mg : Str → Option Value} {base : Heap} {k n m : Nat} {C : Str} {f : Addr} {F : FT} {dv : List V} {dts : List T} (hm : mg C = some (.ref (He.ga K C))) (M : Mk K (He.ga K C) f)
    (hrep : ∀ Fz H, Reps K Fz H dv dts) (hn : n + dv.length = m) (Fn : FnG P w K mg base k f (fun vs H Q E => (vs ++ dv).length = m + 1 ∧ spD K F (vs ++ dv) H Q E)) :
    GM P w K mg base k C (spN K n (mkF C (withD dts F))) :=
  makes hm M (Fn.imp fun vs H Q E h => ⟨by rw [List.length_append, h.1]; omega, withD_sp hrep h.2⟩)
end Dv
/-! ED: lists of new instances (slots .nl); a region at whose end these are changed in place. -/
namespace Dv
open PySem PySem.Spec PyProof.Rows L2 Hv SlX HvP
theorem wp_app {M : Model} {Γ : PySem.Ctx} {env : PySem.Env} {q : List Stmt} {Q : Flow → Pos → Shared → Prop} {E : Value → Pos → Shared → Prop} : ∀ (p : List Stmt) (pt : Pos) (s : Shared),
    Sem.wp M Γ (execs (p ++ q) env) Q E pt s = Sem.wp M Γ (execs p env) (fun f pt s => match f with
      | .next => Sem.wp M Γ (execs q env) Q E pt s
      | f => Q f pt s) E pt s
  | [], pt, s => by rw [List.nil_append, execs_nil, Sem.wp_pure']
  | st :: p, pt, s => by
    rw [List.cons_append, execs_cons, execs_cons, Sem.wp_bind', Sem.wp_bind']
    congr 1
    funext f pt s
    cases f with
    | next => exact wp_app p pt s
    | brk => rw [Sem.wp_pure', Sem.wp_pure']
    | cont => rw [Sem.wp_pure', Sem.wp_pure']
    | ret v => rw [Sem.wp_pure', Sem.wp_pure']
theorem wpAny_app {M : Model} {A : Around} {env : PySem.Env} {p q : List Stmt} {Q : Flow → Shared → Prop} {E : Value → Shared → Prop} {s : Shared}
    (h : wpAny M A (execs p env) (fun f s' => match f with
      | .next => wpAny M A (execs q env) Q E s'
      | f => Q f s') E s) : wpAny M A (execs (p ++ q) env) Q E s := fun Γ pt hΓ => by
  rw [wp_app]
  refine Sem.wp_mono M Γ _ (fun f p' s' h' => ?_) (fun _ _ _ h' => h') _ _ (h Γ pt hΓ)
  cases f <;> first | exact h' Γ p' hΓ | exact h'
theorem bv_app {X : Cx} {p q : List Stmt} {D : Ends} {σ : L2.St} {H : Hp} (h : BV X p { D with nx := fun σ H => BV X q D σ H } σ H) : BV X (p ++ q) D σ H := by
  refine ⟨fun D σ H => BV X p { D with nx := fun σ H => BV X q D σ H } σ H, ⟨fun pins s σ H D I h => ?_⟩, h⟩
  refine wpAny_app (thn (pss_bv.run pins s σ H _ I h) fun f s1 z => ?_)
  cases f with
  | next => obtain ⟨σ', H', I', q⟩ := z; exact pss_bv.run pins s1 σ' H' D I' q
  | brk => exact z
  | cont => exact z
  | ret v => exact z
/-! ### new lists -/
section
variable (K : PySem.W.Frag) (β : Bc) (W : WX)
def NewR (vs : List V) : Prop := ∀ v ∈ vs, ∃ b, v = V.ref b ∧ ¬ β.old b
def GoN (x : Sx) (r : R T) (Q : VK) : Prop := match r with
  | .ok t ρ' => ∀ F' H' v, Nx K β x ⟨F', H', x.σ, ρ'⟩ → Rep K F' H' v t → NewR β [v] → Q v H'
  | .ex c u ρ' => GoX K β W x x.σ c u ρ'
  | .bad => False
def GoAN (x : Sx) (r : R (List T)) (Q : List V → Hp → Prop) : Prop := match r with
  | .ok ts ρ' => ∀ F' H' vs, Nx K β x ⟨F', H', x.σ, ρ'⟩ → Reps K F' H' vs ts → NewR β vs → Q vs H'
  | .ex c u ρ' => GoX K β W x x.σ c u ρ'
  | .bad => False
def GoL (x : Sx) (r : R (List T)) (Q : VK) : Prop := match r with
  | .ok ts ρ' => ∀ F' H' a vs, Nx K β x ⟨F', H', x.σ, ρ'⟩ → F' a → H' a = some (.lst vs) → Reps K F' H' vs ts → NewR β vs → Q (.ref a) H'
  | .ex c u ρ' => GoX K β W x x.σ c u ρ'
  | .bad => False
end
def DenN (X : Cx) (W : WX) (e : Expr) (m : M T) : Prop := ∀ β x Q, St X.K β x → (∀ a, β.old a → x.F a) → GoN X.K β W x (m x.ρ) Q → EV X e x.σ x.H Q
def DenAN (X : Cx) (W : WX) (es : List Expr) (m : M (List T)) : Prop := ∀ β x Q, St X.K β x → (∀ a, β.old a → x.F a) → GoAN X.K β W x (m x.ρ) Q → AV X es x.σ x.H Q
def DenL (X : Cx) (W : WX) (e : Expr) (m : M (List T)) : Prop := ∀ β x Q, St X.K β x → (∀ a, β.old a → x.F a) → GoL X.K β W x (m x.ρ) Q → EV X e x.σ x.H Q
def ownO (m : M Slot) : M T := m.bind fun s => lift (match s with
  | .own t => some t
  | _ => none)
section
variable {X : Cx} {W : WX} {K : PySem.W.Frag} {β : Bc} {x y : Sx} {e a b : Expr} {es : List Expr} {Q : VK} {pos p : Pos} {m : M T} {n n2 : M (List T)}
theorem GoN.on {r : R T} (n : Nx K β x y) (e : y.σ = x.σ) (g : GoN K β W x r Q) : GoN K β W y r Q := by
  cases r with
  | ok t ρ' => exact fun F' H' v n' rp => g F' H' v (n.trans (e ▸ n')) rp
  | ex c u ρ' => exact fun F' H' cls d n' r => e ▸ g F' H' cls d (n.trans (e ▸ n')) r
  | bad => exact g
theorem GoAN.on {r : R (List T)} {Q : List V → Hp → Prop} (n : Nx K β x y) (e : y.σ = x.σ) (g : GoAN K β W x r Q) : GoAN K β W y r Q := by
  cases r with
  | ok t ρ' => exact fun F' H' v n' rp => g F' H' v (n.trans (e ▸ n')) rp
  | ex c u ρ' => exact fun F' H' cls d n' r => e ▸ g F' H' cls d (n.trans (e ▸ n')) r
  | bad => exact g
theorem GoL.on {r : R (List T)} (n : Nx K β x y) (e : y.σ = x.σ) (g : GoL K β W x r Q) : GoL K β W y r Q := by
  cases r with
  | ok t ρ' => exact fun F' H' v vs n' => g F' H' v vs (n.trans (e ▸ n'))
  | ex c u ρ' => exact fun F' H' cls d n' r => e ▸ g F' H' cls d (n.trans (e ▸ n')) r
  | bad => exact g
theorem denn {m : M Slot} (h : DenF X W e m) : DenN X W e (ownO m) := by
  intro β x Q hs sub g
  unfold ownO M.bind at g
  by_cases ho : ∃ t ρ1, m x.ρ = .ok (.own t) ρ1
  · obtain ⟨t, ρ1, q⟩ := ho
    rw [q] at g
    refine ev_lock (h β x _ hs ?_)
    rw [q]
    intro F1 H1 v n r
    obtain ⟨a, rfl, h1, h2, h3, h4⟩ := r
    obtain ⟨u, eu⟩ := h2.there
    refine ⟨a, u, rfl, eu, fun ob => ?_⟩
    obtain ⟨n2, r2⟩ := Nx.frzO (ob := ob) n h1 h2 h3 h4 eu
    refine g _ _ _ n2 r2 fun v hv => ?_
    rw [List.mem_singleton] at hv
    subst hv
    exact ⟨a, rfl, fun z => h1 (n.2.ext a (sub a z))⟩
  refine h β x Q hs ?_
  cases q : m x.ρ with
  | ok s ρ1 =>
    rw [q] at g
    cases s <;> first | exact g.elim | skip
    rename_i t
    exact absurd ⟨t, ρ1, q⟩ ho
  | ex c u ρ1 => rw [q] at g; exact g
  | bad => rw [q] at g; exact g
theorem denan_nil : DenAN X W [] nilA := fun β x Q hs sub g => av_nil (g x.F x.H [] (Nx.refl hs) .nil (fun _ h => by cases h))
theorem denan_cons (h : DenN X W e m) (h2 : DenAN X W es n) (he : starEach (e :: es) X.env = (false, eval e X.env) :: starEach es X.env := by rfl) : DenAN X W (e :: es) (consA m n) := by
  intro β x Q hs sub g
  refine av_cons (h β x _ hs sub ?_) he
  unfold consA M.bind at g
  cases q : m x.ρ with
  | ex c u ρ1 => rw [q] at g; exact g
  | bad => rw [q] at g; exact g
  | ok t ρ1 =>
    rw [q] at g
    intro F1 H1 v n1 r1 w1
    refine h2 β ⟨F1, H1, x.σ, ρ1⟩ _ n1.1 (fun a f => n1.2.ext a (sub a f)) ?_
    have g1 := GoAN.on n1 rfl g
    simp only [Dv.R.bind] at g1
    cases q2 : n ρ1 with
    | ex c u ρ2 => simp only [q2, Dv.R.bind] at g1; exact g1
    | bad => simp only [q2, Dv.R.bind] at g1; exact g1
    | ok ts ρ2 =>
      simp only [q2, Dv.R.bind, M.pure] at g1
      intro F2 H2 vs n2 r2 w2
      exact g1 F2 H2 (v :: vs) n2 (.cons (n2.2.rep n1.1 r1) r2) fun u hu => by
        rcases List.mem_cons.mp hu with rfl | hu
        · exact w1 _ (by simp)
        · exact w2 _ hu
def nlD (n : M (List T)) : M (List T) := n.bind fun ts => lift (if ts.length ≤ 100000 then some ts else none)
theorem denl_lst (h : DenAN X W es n) : DenL X W (.List es pos) (nlD n) := by
  intro β x Q hs sub g
  refine ev_lst ?_
  refine h β x _ hs sub ?_
  unfold nlD M.bind at g
  cases q : n x.ρ with
  | ex c u ρ1 => rw [q] at g; exact g
  | bad => rw [q] at g; exact g
  | ok ts ρ1 =>
    rw [q] at g
    intro F1 H1 vs n1 r1 w1
    have g1 := GoL.on n1 rfl g
    simp only [Dv.R.bind] at g1
    by_cases hl : ts.length ≤ 100000
    · rw [if_pos hl] at g1
      refine ⟨sz_ok (r1.len ▸ hl), fun p hp => ?_⟩
      have nn := Nx.laid (o := .lst vs) n1.1 hp
      exact g1 _ _ p vs nn (.inr rfl) upd_same (nn.2.reps n1.1 r1) w1
    · rw [if_neg hl] at g1
      exact g1.elim
def nlN (i : Nat) : M (List T) := fun ρ => match ρ[i]? with
  | some (.nl ts) => .ok ts ρ
  | _ => .bad
theorem denl_n {nm : Str} (i : Nat) (hp : PE X (.Name nm pos) (tVar i)) : DenL X W (.Name nm pos) (nlN i) := by
  intro β x Q hs sub g
  unfold nlN at g
  cases q : x.ρ[i]? with
  | none => rw [q] at g; exact g.elim
  | some s =>
    rw [q] at g
    cases s <;> first | exact g.elim | skip
    obtain ⟨o, e1, ok⟩ := hs.at_ q
    obtain ⟨a, vs, rfl, f, h, r, w⟩ := ok
    exact ev_var i hp e1 (g _ _ a vs (Nx.refl hs) f h r w)
def nlCat (n n2 : M (List T)) : M (List T) := n.bind fun ss => n2.bind fun ts => lift (if ss.length + ts.length ≤ 100000 then some (ss ++ ts) else none)
theorem denl_cat (ha : DenL X W a n) (hb : DenL X W b n2) : DenL X W (.BinOp a .Add b pos) (nlCat n n2) := by
  intro β x Q hs sub g
  refine ev_op (ha β x _ hs sub ?_)
  unfold nlCat M.bind at g
  cases q : n x.ρ with
  | ex c u ρ1 => rw [q] at g; exact g
  | bad => rw [q] at g; exact g
  | ok ss ρ1 =>
    rw [q] at g
    intro F1 H1 a1 us n1 f1 h1 r1 w1
    refine hb β ⟨F1, H1, x.σ, ρ1⟩ _ n1.1 (fun a f => n1.2.ext a (sub a f)) ?_
    have g1 := GoL.on n1 rfl g
    simp only [Dv.R.bind] at g1
    cases q2 : n2 ρ1 with
    | ex c u ρ2 => simp only [q2, Dv.R.bind] at g1; exact g1
    | bad => simp only [q2, Dv.R.bind] at g1; exact g1
    | ok ts ρ2 =>
      simp only [q2, Dv.R.bind] at g1
      intro F2 H2 a2 vs n2' f2 h2 r2 w2
      have g2 := GoL.on n2' rfl g1
      by_cases hl : ss.length + ts.length ≤ 100000
      · rw [if_pos hl] at g2
        have h1' : H2 a1 = some (.lst us) := n2'.2.fk n1.1 _ _ f1 h1
        have r1' := n2'.2.reps n1.1 r1
        refine ⟨_, op_cat, a1, a2, us, vs, rfl, rfl, h1', h2, ?_, fun p hp => ?_⟩
        · rw [r1.len, r2.len]
          exact Nat.le_trans hl (by rw [sizeLine_eq]; decide)
        · have nn := Nx.laid (x := ⟨F2, H2, x.σ, ρ2⟩) (o := .lst (us ++ vs)) n2'.1 hp
          exact g2 _ _ p (us ++ vs) nn (.inr rfl) upd_same (nn.2.reps n2'.1 (r1'.app r2)) fun v hv => (List.mem_append.mp hv).elim (w1 v) (w2 v)
      · rw [if_neg hl] at g2
        exact g2.elim
/-! ### slots -/
theorem Nx.setS {j : Nat} {v : V} {s : Slot} (h : St K β x) (ok : SlotOk K β x.F x.H j (some v) s) (ns : ∀ t, s ≠ .own t ∧ s ≠ .bor t) : Nx K β x ⟨x.F, x.H, x.σ.set j (some v), x.ρ.set j s⟩ := by
  have own : ∀ i a, Owns (x.σ.set j (some v)) (x.ρ.set j s) i a → Owns x.σ x.ρ i a ∧ i ≠ j := fun i a ⟨e1, u, e2⟩ => by
    have ne : j ≠ i := fun e => by
      subst e
      rcases e2 with e2 | e2 <;> rcases set_get e2 with ⟨_, q⟩ | ⟨q, _⟩
      · exact (ns u).1 q.symm
      · exact q rfl
      · exact (ns u).2 q.symm
      · exact q rfl
    rw [List.getElem?_set_ne ne] at e1
    rw [List.getElem?_set_ne ne] at e2
    exact ⟨⟨e1, u, e2⟩, ne.symm⟩
  refine ⟨⟨by simp [h.len], fun i o s' e1 e2 => ?_, fun i k a p q => h.apart i k a (own i a p).1 (own k a q).1, h.trk⟩, ⟨fun _ f => f, fun _ _ e _ => e, fun _ f => .inl f, fun a ⟨i, w⟩ => .inl ⟨i, (own i a w).1⟩⟩⟩
  rcases set_get e1 with ⟨q, e⟩ | ⟨q, e⟩
  · subst q e
    rcases set_get e2 with ⟨_, e⟩ | ⟨q, _⟩
    · subst e
      exact ok
    · exact absurd rfl q
  · rw [List.getElem?_set_ne q] at e2
    exact h.slot i o s' e e2
def hasOld (ρ : Env) : Bool := ρ.any fun s => match s with
  | .old _ => true
  | _ => false
theorem St.sub (h : St K β x) (ho : hasOld x.ρ = true) : ∀ a, β.old a → x.F a := by
  obtain ⟨s, hs, hb⟩ := List.any_eq_true.mp ho
  cases s <;> first | cases hb | skip
  obtain ⟨i, e⟩ := List.getElem?_of_mem hs
  obtain ⟨o, e1, ok⟩ := h.at_ e
  obtain ⟨v, _, _, sub⟩ := ok
  exact sub
def setNL (i : Nat) (m : M (List T)) : S := fun ρ => if hasOld ρ = true then m.thenS (fun ts ρ => .nx (ρ.set i (.nl ts))) ρ else .bad
def parNL (i j : Nat) (m : M T) (n : M (List T)) : S := m.thenS fun s ρ => if hasOld ρ = true then n.thenS (fun ts ρ => .nx ((ρ.set i (.val s)).set j (.nl ts))) ρ else .bad
theorem DenL.thenS {f : List T → S} {D : Ends} (h : DenL X W e n) (hs : St X.K β x) (ho : hasOld x.ρ = true) (g : GoS X.K β W x D (n.thenS f x.ρ)) :
    EV X e x.σ x.H fun v H1 => ∃ F1 ρ1 ts a vs, v = .ref a ∧ Nx X.K β x ⟨F1, H1, x.σ, ρ1⟩ ∧ F1 a ∧ H1 a = some (.lst vs) ∧ Reps X.K F1 H1 vs ts ∧ NewR β vs ∧ GoS X.K β W ⟨F1, H1, x.σ, ρ1⟩ D (f ts ρ1) := by
  refine h β x _ hs (hs.sub ho) ?_
  unfold M.thenS at g
  cases q : n x.ρ with
  | ok t ρ1 => rw [q] at g; exact fun F' H' a vs n' f1 h1 r1 w1 => ⟨F', ρ1, t, a, vs, rfl, n', f1, h1, r1, w1, GoS.on n' g⟩
  | ex c u ρ1 => rw [q] at g; exact fun F' H' cls d n r => g F' H' x.σ cls d n r
  | bad => rw [q] at g; exact g
theorem dens_setNL {nm : Str} {pos' : Pos} (i : Nat) (hi : X.N[i]? = some nm) (hN : X.N.Nodup) (hx : Loc X.env.scope nm) (h : DenL X W e n) (hsw : swapsWith e (some (.Name nm pos')) pos.line X.env = pure false := by rfl)
    (hf : X.fn nm = true ∨ X.env.scope.names.lookup nm = some .local := by first | exact .inl rfl | exact .inr rfl | assumption) : DenS X W (.Assign [.Name nm pos'] e pos) (setNL i n) := by
  intro β x D hs g
  unfold setNL at g
  by_cases ho : hasOld x.ρ = true
  · rw [if_pos ho] at g
    refine sv_set i hi hN hx (ev_mono (h.thenS hs ho g) ?_) hsw hf
    rintro v H1 ⟨F1, ρ1, ts, a, vs, rfl, n1, f1, h1, r1, w1, g1⟩
    exact g1 _ _ _ (Nx.setS (x := ⟨F1, H1, x.σ, ρ1⟩) (s := .nl ts) n1.1 ⟨a, vs, rfl, f1, h1, r1, w1⟩ fun t => ⟨fun z => (nomatch z), fun z => (nomatch z)⟩)
  · rw [if_neg ho] at g
    exact g.elim
theorem dens_parNL {n1 n2 : Str} {px py pt pt2 : Pos} {kt k2 : Nat} (i j : Nat) (hc : X.calm = true) (hN : X.N.Nodup) (hi : X.N[i]? = some n1) (hj : X.N[j]? = some n2) (hij : i ≠ j)
    (lx : X.env.scope.names.lookup n1 = some .local) (ly : X.env.scope.names.lookup n2 = some .local) (ha : Den X W a m) (hb : DenL X W b n)
    (hw : swappedStores [.Tuple [.Name n1 px, .Name n2 py] kt pt] (.Tuple [a, b] k2 pt2) X.env = pure (some [n1, n2]) := by rfl)
    (hsw : swapsWithSole [.Tuple [.Name n1 px, .Name n2 py] kt pt] (.Tuple [a, b] k2 pt2) pos.line X.env = pure false := by rfl)
    (he : starEach [a, b] X.env = (false, eval a X.env) :: starEach [b] X.env := by rfl) (he2 : starEach [b] X.env = (false, eval b X.env) :: starEach [] X.env := by rfl) :
    DenS X W (.Assign [.Tuple [.Name n1 px, .Name n2 py] kt pt] (.Tuple [a, b] k2 pt2) pos) (parNL i j m n) := by
  intro β x D hs g
  refine sv_par i j hc hN hi hj hij lx ly (av_cons (ev_mono (ha.thenS hs g) ?_) he) hw hsw
  rintro v H1 ⟨F1, ρ1, s, at1, _, g1⟩
  by_cases ho : hasOld ρ1 = true
  · rw [if_pos ho] at g1
    refine av_cons (ev_mono (hb.thenS (x := ⟨F1, H1, x.σ, ρ1⟩) at1.st ho g1) ?_) he2
    rintro w H2 ⟨F2, ρ2, ts, a, vs, rfl, n1, f1, h1, r1, w1, g2⟩
    have q1 := Nx.setV (x := ⟨F2, H2, x.σ, ρ2⟩) (j := i) n1.1 (n1.2.rep at1.st at1.rep)
    have q2 := q1.trans (Nx.setS (x := ⟨F2, H2, x.σ.set i (some v), ρ2.set i (.val s)⟩) (j := j) (s := .nl ts) q1.1 ⟨a, vs, rfl, f1, h1, r1, w1⟩ fun t => ⟨fun z => (nomatch z), fun z => (nomatch z)⟩)
    have fin : D.nx ((x.σ.set i (some v)).set j (some (.ref a))) H2 := g2 _ _ _ q2
    exact av_nil ⟨v, _, rfl, fin⟩
  · rw [if_neg ho] at g1
    exact g1.elim
end
end Dv
/-! EE: a region at whose end the new instances of a list are changed in place (regS). -/
namespace Dv
open PySem PySem.Spec PyProof.Rows L2 Hv SlX HvP
def atomT : T → Bool
  | .non | .bl _ | .int _ | .str _ => true
  | _ => false
def primT : T → Bool
  | .lst ts => ts.all atomT
  | _ => false
mutual
def noIns : T → Bool
  | .non | .bl _ | .int _ | .str _ | .ty _ | .cls _ | .rat _ => true
  | .tup ts => noInsL ts
  | .lst ts => noInsL ts
  | .scr ts => noInsL ts
  | .wtu ts => noInsL ts
  | .dic kts => noInsD kts
  | _ => false
def noInsL : List T → Bool
  | [] => true
  | t :: ts => noIns t && noInsL ts
def noInsD : List (Key × T) → Bool
  | [] => true
  | (_, t) :: kts => noIns t && noInsD kts
end
theorem noInsD_map : ∀ kts : List (Key × T), noInsD kts = noInsL (kts.map (·.2))
  | [] => rfl
  | (k, t) :: kts => by rw [noInsD, List.map_cons, noInsL, noInsD_map kts]
def notIns (H : Hp) (a : Addr) : Prop := ∀ C dx fs, H a ≠ some (.ins C dx fs)
section
variable {K : PySem.W.Frag} {F F' : Addr → Prop} {H : Hp}
mutual
theorem Rep.shr (hF : ∀ a, F a → notIns H a → F' a) : ∀ {v : V} {t : T}, noIns t = true → Rep K F H v t → Rep K F' H v t
  | _, _, _, .non => .non
  | _, _, _, .bl b => .bl b
  | _, _, _, .int i => .int i
  | _, _, _, .str x => .str x
  | _, _, _, .ty n => .ty n
  | _, _, _, .cls c => .cls c
  | _, _, h, .obj f o => RepO.shr hF h f o
  | _, _, h, .wl w r => .wl w (Reps.shr hF (by simpa only [noIns] using h) r)
  | _, _, h, .wt w r => .wt w (Reps.shr hF (by simpa only [noIns] using h) r)
theorem RepO.shr (hF : ∀ a, F a → notIns H a → F' a) : ∀ {a : Addr} {t : T}, noIns t = true → F a → RepO K F H a t → Rep K F' H (.ref a) t
  | _, _, h, f, .tup e r => .obj (hF _ f fun C dx fs z => by rw [e] at z; cases z) (.tup e (Reps.shr hF (by simpa only [noIns] using h) r))
  | _, _, h, f, .lst e r => .obj (hF _ f fun C dx fs z => by rw [e] at z; cases z) (.lst e (Reps.shr hF (by simpa only [noIns] using h) r))
  | _, _, h, f, .scr e r => .obj (hF _ f fun C dx fs z => by rcases e with e | ⟨o, e⟩ <;> rw [e] at z <;> cases z) (.scr e (Reps.shr hF (by simpa only [noIns] using h) r))
  | _, _, h, f, .dic e l r => .obj (hF _ f fun C dx fs z => by rw [e] at z; cases z) (.dic e l (Reps.shr hF (by rw [← noInsD_map]; simpa only [noIns] using h) r))
  | _, _, h, f, .rat e f2 h2 => .obj (hF _ f fun C dx fs z => by rw [e] at z; exact nomatch z) (.rat e (hF _ f2 fun C dx fs z => by rw [h2] at z; cases z) h2)
  | _, _, h, f, .ins _ _ _ => by simp only [noIns, Bool.false_eq_true] at h
theorem Reps.shr (hF : ∀ a, F a → notIns H a → F' a) : ∀ {vs : List V} {ts : List T}, noInsL ts = true → Reps K F H vs ts → Reps K F' H vs ts
  | _, _, _, .nil => .nil
  | _, _, h, .cons r s => by
    rw [noInsL, Bool.and_eq_true] at h
    exact .cons (Rep.shr hF h.1 r) (Reps.shr hF h.2 s)
end
theorem Reps.atoms : ∀ {vs : List V} {ts : List T}, ts.all atomT = true → Reps K F H vs ts → Reps K F' H vs ts
  | _, _, _, .nil => .nil
  | _, _, h, .cons r s => by
    rw [List.all_cons, Bool.and_eq_true] at h
    refine .cons ?_ (Reps.atoms h.2 s)
    cases r with
    | non => exact .non
    | bl b => exact .bl b
    | int i => exact .int i
    | str x => exact .str x
    | obj f o => cases o <;> cases h.1
    | ty n => cases h.1
    | cls c => cases h.1
    | wl _ _ => cases h.1
    | wt _ _ => cases h.1
theorem OwnO.prim {a : Addr} {t : T} (h : primT t = true) (o : OwnO K F H a t) : OwnO K F' H a t ∧ notIns H a := by
  cases o with
  | lst e r => exact ⟨.lst e (r.atoms h), fun C dx fs z => by rw [e] at z; cases z⟩
  | dic e l r => cases h
  | ins e l r => cases h
end
def oldS : Slot → Slot
  | .val t => .old t
  | .nl _ => .un
  | s => s
def youngS : Slot → Slot
  | .old t => .val t
  | .bor t => if primT t = true then .bor t else .un
  | _ => .un
def stripS : Slot → Slot
  | .bor t => if primT t = true then .bor t else .un
  | _ => .un
def olden (ρ : Env) : Env := ρ.map oldS
def young (ρ : Env) : Env := ρ.map youngS
def strip (ρ : Env) : Env := ρ.map stripS
def flatS : T → Prop
  | .ins C fs => C = "Sum" ∧ noInsL (fs.map (·.2)) = true
  | _ => False
/-- what the loop needs: contents that stay such as the loop changes them -/
def LoopG (F : FT) (k v : T) (ts : List T) : Prop := ∃ G : T → Prop, (∀ t ∈ ts, G t) ∧ ∀ t, G t → flatS t ∧ ∃ t', F [.bor t, .val k, .val v] = .ok (.val .non) [.bor t', .val k, .val v] ∧ G t'
open Classical in
/-- pre; for name_i in name_h: name_i["k"] = v; post -/
noncomputable def regS (pre : S) (h i : Nat) (F : FT) (k : Str) (v : Int) (post : S) : S := fun ρ => match pre (olden ρ) with
  | .rt (.val (.bl b)) ρ1 => .rt (.val (.bl b)) (strip ρ1)
  | .nx ρ1 => (match ρ1[h]? with
    | some (.nl ts) => if LoopG F (.str k) (.int v) ts ∧ i < ρ1.length then (match post ((young ρ1).set i .un) with
      | .rt (.val (.bl b)) ρ2 => .rt (.val (.bl b)) (strip ρ2)
      | _ => .bad) else .bad
    | _ => .bad)
  | _ => .bad
section
variable {K : PySem.W.Frag} {β β' : Bc} {x y z : Sx}
theorem map_get {f : Slot → Slot} {ρ : Env} {i : Nat} {s : Slot} (e : (ρ.map f)[i]? = some s) : ∃ s0, ρ[i]? = some s0 ∧ s = f s0 := by
  rw [List.getElem?_map] at e
  obtain ⟨s0, e1, e2⟩ := Option.map_eq_some_iff.mp e
  exact ⟨s0, e1, e2.symm⟩
theorem own_olden {σ : L2.St} {ρ : Env} {i : Nat} {a : Addr} : Owns σ (olden ρ) i a ↔ Owns σ ρ i a := by
  unfold Owns olden
  constructor
  · rintro ⟨e, t, q⟩
    refine ⟨e, t, ?_⟩
    rcases q with q | q <;> obtain ⟨s0, e1, e2⟩ := map_get q <;> cases s0 <;> simp only [oldS] at e2 <;> first | (cases e2; done) | (cases e2; simp [e1])
  · rintro ⟨e, t, q⟩
    refine ⟨e, t, ?_⟩
    rcases q with q | q
    · left; rw [List.getElem?_map, q]; rfl
    · right; rw [List.getElem?_map, q]; rfl
theorem own_strip {σ : L2.St} {ρ : Env} {i : Nat} {a : Addr} (h : Owns σ (strip ρ) i a) : Owns σ ρ i a := by
  obtain ⟨e, t, q⟩ := h
  refine ⟨e, t, ?_⟩
  rcases q with q | q <;> obtain ⟨s0, e1, e2⟩ := map_get q <;> cases s0 <;> simp only [stripS] at e2 <;> first | (cases e2; done) | skip
  · split at e2 <;> cases e2
  · split at e2
    · cases e2; exact .inr e1
    · cases e2
theorem own_young {σ : L2.St} {ρ : Env} {i : Nat} {a : Addr} (h : Owns σ (young ρ) i a) : ∃ t, σ[i]? = some (some (.ref a)) ∧ ρ[i]? = some (.bor t) ∧ primT t = true := by
  obtain ⟨e, t, q⟩ := h
  rcases q with q | q <;> obtain ⟨s0, e1, e2⟩ := map_get q <;> cases s0 <;> simp only [youngS] at e2 <;> first | (cases e2; done) | skip
  · split at e2 <;> cases e2
  · split at e2
    · rename_i hp
      cases e2; exact ⟨t, e, e1, hp⟩
    · cases e2
/-- all that stands at x and is not owned -/
def allF (x : Sx) : Addr → Prop := fun a => ∃ o, x.H a = some o ∧ ¬ x.ow a
theorem St.all (h : St K β x) {a : Addr} (f : x.F a) : allF x a := by
  obtain ⟨o, e⟩ := h.trk a f
  exact ⟨o, e, fun w => (h.noF w).1 f⟩
theorem ow_olden {F : Addr → Prop} {H : Hp} {a : Addr} : (Sx.mk F H x.σ (olden x.ρ)).ow a ↔ x.ow a := ⟨fun ⟨i, w⟩ => ⟨i, own_olden.mp w⟩, fun ⟨i, w⟩ => ⟨i, own_olden.mpr w⟩⟩
theorem St.begin (h : St K β x) : St K ⟨β.at_, allF x⟩ ⟨allF x, x.H, x.σ, olden x.ρ⟩ := by
  refine ⟨by simp [olden, h.len], fun i o s e1 e2 => ?_, fun i j a p q => h.apart i j a (own_olden.mp p) (own_olden.mp q), fun a f => let ⟨o, e, _⟩ := f; ⟨o, e⟩⟩
  obtain ⟨s0, e3, rfl⟩ := map_get e2
  have ok := h.slot i o s0 e1 e3
  have mono : ∀ {v : V} {t : T}, Rep K x.F x.H v t → Rep K (allF x) x.H v t := fun r => r.mono (fun _ f => h.all f) fun _ _ _ e => e
  cases s0 with
  | un => trivial
  | nl ts => trivial
  | val t => obtain ⟨v, e, r⟩ := ok; exact ⟨v, e, mono r, fun _ f => f⟩
  | old t => obtain ⟨v, e, r, sub⟩ := ok; exact ⟨v, e, mono (r.mono sub fun _ _ _ e => e), fun _ f => f⟩
  | own t =>
    obtain ⟨a, e, nf, r⟩ := ok
    subst e
    exact ⟨a, rfl, fun ⟨_, _, nw⟩ => nw ⟨i, e1, t, .inl e3⟩, r.mono (fun _ f => h.all f) (fun _ _ _ e => e) fun _ e => e⟩
  | bor t =>
    obtain ⟨a, e, at_, nf, r⟩ := ok
    subst e
    exact ⟨a, rfl, at_, fun ⟨_, _, nw⟩ => nw ⟨i, e1, t, .inr e3⟩, r.mono (fun _ f => h.all f) (fun _ _ _ e => e) fun _ e => e⟩
/-- the way out -/
theorem St.fin (h : St K β x) (hy : St K β' y) (hat : β'.at_ = β.at_) (extA : ∀ a, allF x a → y.F a) (keepA : ∀ a o, allF x a → x.H a = some o → y.H a = some o) (own : ∀ a, y.ow a → x.ow a ∨ x.H a = none) :
    Nx K β x ⟨x.F, y.H, y.σ, strip y.ρ⟩ := by
  refine ⟨⟨by simp [strip, hy.len], fun i o s e1 e2 => ?_, fun i j a p q => hy.apart i j a (own_strip p) (own_strip q), fun a f => ?_⟩, ⟨fun _ f => f, fun a o e nw => keepA a o ⟨o, e, nw⟩ e, fun _ f => .inl f, fun a ⟨i, w⟩ => own a ⟨i, own_strip w⟩⟩⟩
  · obtain ⟨s0, e3, rfl⟩ := map_get e2
    cases s0 with
    | bor t =>
      have eS : stripS (.bor t) = if primT t = true then .bor t else .un := rfl
      rw [eS]
      by_cases hp : primT t = true
      · rw [if_pos hp]
        obtain ⟨a, e, at_, nf, r⟩ := hy.slot i o _ e1 e3
        exact ⟨a, e, hat ▸ at_, fun f => nf (extA a (h.all f)), (r.prim hp).1⟩
      · rw [if_neg hp]; trivial
    | _ => trivial
  · obtain ⟨o, e⟩ := h.trk a f
    exact ⟨o, keepA a o (h.all f) e⟩
/-- where the loop stands -/
structure Lp (K : PySem.W.Frag) (β : Bc) (x : Sx) (G : T → Prop) (a0 : Addr) (vs : List V) (F : Addr → Prop) (H : Hp) (σ : L2.St) (ρ : Env) : Prop where
  st : St K β ⟨F, H, σ, ρ⟩
  extA : ∀ a, allF x a → F a
  keepA : ∀ a o, allF x a → x.H a = some o → H a = some o
  own : ∀ a, (Sx.mk F H σ ρ).ow a → x.ow a ∨ x.H a = none
  lf : F a0
  la : H a0 = some (.lst vs)
  els : ∀ v ∈ vs, ∃ b t, v = V.ref b ∧ ¬ allF x b ∧ ¬ F b ∧ ¬ (Sx.mk F H σ ρ).ow b ∧ OwnO K F H b t ∧ G t
theorem Lp.start {G : T → Prop} {h i : Nat} {ts : List T} (hx : St K β x) (n : Nx K ⟨β.at_, allF x⟩ ⟨allF x, x.H, x.σ, olden x.ρ⟩ y) (e : y.ρ[h]? = some (.nl ts)) (hG : ∀ t ∈ ts, G t ∧ flatS t) :
    ∃ a0 vs F, y.σ[h]? = some (some (.ref a0)) ∧ Lp K β x G a0 vs F y.H y.σ ((young y.ρ).set i .un) := by
  obtain ⟨o, e1, ok⟩ := n.1.at_ e
  obtain ⟨a0, vs, rfl, f0, h0, rs, nw⟩ := ok
  have extA : ∀ a, allF x a → y.F a := fun a f => n.2.ext a f
  have keepA : ∀ a o, allF x a → x.H a = some o → y.H a = some o := fun a o f e => n.2.keep a o e fun w => by
    obtain ⟨_, _, nw⟩ := f
    exact nw (ow_olden.mp w)
  have own : ∀ j a, Owns y.σ ((young y.ρ).set i .un) j a → ∃ t, y.σ[j]? = some (some (.ref a)) ∧ y.ρ[j]? = some (.bor t) ∧ primT t = true := fun j a ⟨e1, t, q⟩ => by
    have ne : i ≠ j := fun z => by
      subst z
      rcases q with q | q <;> rcases set_get q with ⟨_, z⟩ | ⟨z, _⟩ <;> first | cases z | exact z rfl
    rw [List.getElem?_set_ne ne] at q
    exact own_young ⟨e1, t, q⟩
  have hF : ∀ a, y.F a → notIns y.H a → (y.F a ∧ (allF x a ∨ notIns y.H a)) := fun a f ni => ⟨f, .inr ni⟩
  refine ⟨a0, vs, fun a => y.F a ∧ (allF x a ∨ notIns y.H a), e1, ⟨⟨by simp [young, n.1.len], fun j o s q1 q2 => ?_, fun j k a p q => ?_, fun a f => n.1.trk a f.1⟩, fun a f => ⟨extA a f, .inl f⟩, keepA, fun a ⟨j, w⟩ => ?_, ⟨f0, .inr fun C dx fs z => ?_⟩, h0, fun v hv => ?_⟩⟩
  · rcases set_get q2 with ⟨_, rfl⟩ | ⟨_, q2⟩
    · trivial
    · obtain ⟨s0, e3, rfl⟩ := map_get q2
      cases s0 with
      | bor t =>
        have eS : youngS (.bor t) = if primT t = true then .bor t else .un := rfl
        rw [eS]
        by_cases hp : primT t = true
        · rw [if_pos hp]
          obtain ⟨a, e, at_, nf, r⟩ := n.1.slot j o _ q1 e3
          exact ⟨a, e, at_, fun f => nf f.1, (r.prim hp).1⟩
        · rw [if_neg hp]; trivial
      | old t =>
        obtain ⟨v, e, r, _⟩ := n.1.slot j o _ q1 e3
        exact ⟨v, e, r.mono (fun a f => ⟨extA a f, .inl f⟩) fun _ _ _ e => e⟩
      | _ => trivial
  · obtain ⟨t, p1, p2, _⟩ := own j a p
    obtain ⟨u, q1, q2, _⟩ := own k a q
    exact n.1.apart j k a ⟨p1, t, .inr p2⟩ ⟨q1, u, .inr q2⟩
  · obtain ⟨t, p1, p2, _⟩ := own j a w
    exact (n.2.wn a ⟨j, p1, t, .inr p2⟩).imp_left ow_olden.mp
  · rw [h0] at z; cases z
  · obtain ⟨k, hk⟩ := List.getElem?_of_mem hv
    obtain ⟨t, ht, r⟩ := rs.getV hk
    obtain ⟨g, fl⟩ := hG t (List.mem_of_getElem? ht)
    obtain ⟨b, rfl, nb⟩ := nw v hv
    cases t <;> first | exact fl.elim | skip
    rename_i C fs
    obtain ⟨rfl, ni⟩ := fl
    cases r with
    | obj fb ob =>
      cases ob with
      | ins hb l rr =>
        refine ⟨b, _, rfl, nb, fun z => z.2.elim nb fun z => z _ _ _ hb, fun ⟨j, w⟩ => ?_, .ins hb l (rr.shr hF ni), g⟩
        obtain ⟨t, p1, p2, hp⟩ := own j b w
        obtain ⟨a, e, _, _, r⟩ := n.1.slot j _ _ p1 p2
        cases e
        exact (r.prim (F' := y.F) hp).2 _ _ _ hb
end
end Dv
/-! EF: the rule of regions (denb_reg). -/
namespace Dv
open PySem PySem.Spec PyProof.Rows L2 Hv SlX HvP
section
variable {K : PySem.W.Frag} {β : Bc} {x : Sx} {G : T → Prop} {a0 : Addr} {vs : List V} {F F' : Addr → Prop} {H H' : Hp} {σ : L2.St} {ρ : Env}
/-- one object that nobody owns, not frozen, has changed -/
theorem St.other {b : Addr} (h : St K β ⟨F, H, σ, ρ⟩) (e : ∀ c o, c ≠ b → H c = some o → H' c = some o) (nF : ¬ F b) (nw : ¬ (Sx.mk F H σ ρ).ow b) (hF : ∀ c, F c → F' c) (new : ∀ c, F' c → F c ∨ H c = none ∨ ∃ o, H c = some o ∧ Imm o)
    (trk : ∀ c, F' c → ∃ o, H' c = some o) : St K β ⟨F', H', σ, ρ⟩ := by
  refine ⟨h.len, fun i o s e1 e2 => ?_, h.apart, trk⟩
  refine (h.slot i o s e1 e2).mono hF (fun c o f q => e c o (fun z => nF (z ▸ f)) q) fun a ea qs n => ?_
  subst ea
  obtain ⟨t, qs⟩ := qs
  have w : (Sx.mk F H σ ρ).ow a := ⟨i, e1, t, qs.elim (fun z => .inl (z ▸ e2)) fun z => .inr (z ▸ e2)⟩
  obtain ⟨_, t', r⟩ := h.noF w
  refine ⟨fun f => ?_, fun u q => e a u (fun z => nw (z ▸ w)) q⟩
  rcases new a f with f | f | ⟨o, f, im⟩
  · exact n f
  · obtain ⟨u, q⟩ := r.there
    have q : H a = some u := q
    rw [f] at q; cases q
  · exact r.notImm f im
theorem st_two {v w : V} {s t : T} (h1 : Rep K F H v s) (h2 : Rep K F H w t) (trk : ∀ a, F a → ∃ o, H a = some o) : St K β ⟨F, H, [some v, some w], [.val s, .val t]⟩ := by
  refine ⟨rfl, fun i o q e1 e2 => ?_, fun i j a p _ => ?_, trk⟩
  · match i with
    | 0 => cases e1; cases e2; exact ⟨v, rfl, h1⟩
    | 1 => cases e1; cases e2; exact ⟨w, rfl, h2⟩
    | i + 2 => cases e2
  · obtain ⟨_, u, q⟩ := p
    match i with
    | 0 => rcases q with q | q <;> cases q
    | 1 => rcases q with q | q <;> cases q
    | i + 2 => rcases q with q | q <;> cases q
theorem Lp.set {i : Nat} {o : Option V} (L : Lp K β x G a0 vs F H σ ρ) (hi : ρ.set i .un = ρ) : Lp K β x G a0 vs F H (σ.set i o) ρ := by
  have n := Nx.setU (j := i) (o := o) L.st
  simp only [hi] at n
  have back : ∀ a, (Sx.mk F H (σ.set i o) ρ).ow a → (Sx.mk F H σ ρ).ow a := fun a w => (n.2.wn a w).elim _root_.id fun e => by
    obtain ⟨j, e1, t, q⟩ := w
    rcases q with q | q
    · obtain ⟨b, eb, _, r⟩ := n.1.slot j _ _ e1 q
      cases eb
      obtain ⟨u, z⟩ := r.there
      have e : H a = none := e
      have z : H a = some u := z
      rw [e] at z; cases z
    · obtain ⟨b, eb, _, _, r⟩ := n.1.slot j _ _ e1 q
      cases eb
      obtain ⟨u, z⟩ := r.there
      have e : H a = none := e
      have z : H a = some u := z
      rw [e] at z; cases z
  exact ⟨n.1, L.extA, L.keepA, fun a w => L.own a (back a w), L.lf, L.la, fun v hv => let ⟨b, t, h1, h2, h3, h4, h5, h6⟩ := L.els v hv; ⟨b, t, h1, h2, h3, fun w => h4 (back b w), h5, h6⟩⟩
/-- one turn -/
theorem Lp.turn {β2 : Bc} {b : Addr} {t t' : T} {vs2 : List V} {as : Env} (L : Lp K β x G a0 vs F H σ ρ) (nA : ¬ allF x b) (nF : ¬ F b) (nw : ¬ (Sx.mk F H σ ρ).ow b)
    (n : Nx K β2 ⟨F, H, some (.ref b) :: vs2.map some, .bor t :: as⟩ ⟨F', H', some (.ref b) :: vs2.map some, .bor t' :: as⟩) (hav : ∀ (j : Nat) (s : Slot), as[j]? = some s → ∃ u, s = .val u) (g : G t') : Lp K β x G a0 vs F' H' σ ρ := by
  have ow : ∀ c, (Sx.mk F H (some (.ref b) :: vs2.map some) (.bor t :: as)).ow c → c = b := fun c ⟨j, e1, u, q⟩ => by
    match j with
    | 0 =>
      have e1 : (some (some (V.ref b)) : Option (Option V)) = some (some (.ref c)) := e1
      simpa using e1.symm
    | j + 1 =>
      rcases q with q | q <;> obtain ⟨_, z⟩ := hav j _ (by simpa using q) <;> cases z
  have e : ∀ c o, c ≠ b → H c = some o → H' c = some o := fun c o nb q => n.2.keep c o q fun w => nb (ow c w)
  obtain ⟨b', eb, _, nF', ob⟩ := n.1.slot 0 _ _ rfl rfl
  cases eb
  have new : ∀ c, F' c → F c ∨ H c = none ∨ ∃ o, H c = some o ∧ Imm o := fun c f => by
    rcases n.2.new c f with f' | f' | f'
    · exact .inl f'
    · exact absurd (ow c f' ▸ f) nF'
    · exact .inr f'
  have st := L.st.other e nF nw n.2.ext new n.1.trk
  refine ⟨st, fun a f => n.2.ext a (L.extA a f), fun a o f q => e a o (fun z => nA (z ▸ f)) (L.keepA a o f q), fun a w => L.own a w, n.2.ext _ L.lf, e _ _ (fun z => nF (z ▸ L.lf)) L.la, fun v hv => ?_⟩
  obtain ⟨c, u, rfl, h2, h3, h4, h5, h6⟩ := L.els v hv
  by_cases hc : c = b
  · subst hc
    exact ⟨c, t', rfl, nA, nF', nw, ob, g⟩
  · refine ⟨c, u, rfl, h2, fun f => ?_, h4, h5.mono n.2.ext (fun a o f q => e a o (fun z => nF (z ▸ f)) q) fun o q => e c o hc q, h6⟩
    rcases new c f with f | f | ⟨o, f, im⟩
    · exact h3 f
    · obtain ⟨z, q⟩ := h5.there
      rw [f] at q; cases q
    · exact h5.notImm f im
end
section
variable {X : Cx} {W : WX} {pos p1 p2 p3 pv ph pk pc : Pos} {F : FT} {n j : Nat} {pre post : List Stmt} {mp mq : S} {nv nh : Str} {jj j2 : Nat}
theorem denb_reg {h i : Nat} {ks : Str} {c : Int} (hpre : DenB X W pre mp) (M : SMth X.prog X.w X.K X.mg X.base n "__setitem__" 3 F) (ns : PySem.W.noSeq X.K (He.ga X.K "Sum") = true) (hr : RoomG j X.A)
    (hpo : PassesOwn (model X.prog X.w) X.A X.env X.xe) (hc : X.calm = true) (pgv : PG X (.Name nv pv) (gName i)) (pvh : PE X (.Name nh ph) (tVar h)) (pvi : PE X (.Name nv p1) (tVar i)) (hpost : DenB X W post mq) (hj : n ≤ j := by decide)
    (ha : ∀ v, assign (.Subscript (.Name nv p1) (.Constant (.str ks) jj pk) p2) X.env v = (do
      let ov ← holding [v] (eval (.Name nv p1) X.env)
      let iv ← holding [v, ov] (eval (.Constant (.str ks) jj pk) X.env)
      standAt p2
      holding [v, ov, iv] (setItem ov iv v)
      release [v, ov, iv] []) := by intro _; rfl)
    (hs : swapsWithSole [.Subscript (.Name nv p1) (.Constant (.str ks) jj pk) p2] (.Constant (.int c) j2 pc) p3.line X.env = pure false := by rfl) (hw : swappedStores [.Subscript (.Name nv p1) (.Constant (.str ks) jj pk) p2] (.Constant (.int c) j2 pc) X.env = pure none := by rfl)
    (hx : (assignEach [.Subscript (.Name nv p1) (.Constant (.str ks) jj pk) p2] X.env).map (·.2) = [assign (.Subscript (.Name nv p1) (.Constant (.str ks) jj pk) p2) X.env] := by rfl)
    (hf : ∀ x, foldedSetIterable (.Name nh ph) X.env x = pure x := by intro _; rfl) :
    DenB X W (pre ++ .For (.Name nv pv) (.Name nh ph) [.Assign [.Subscript (.Name nv p1) (.Constant (.str ks) jj pk) p2] (.Constant (.int c) j2 pc) p3] [] pos :: post) (regS mp h i F ks c mq) := by
  intro β x D hst g
  obtain ⟨fa, mt, F1⟩ := M
  have s0 := hst.begin
  refine bv_app (hpre ⟨β.at_, allF x⟩ ⟨allF x, x.H, x.σ, olden x.ρ⟩ _ s0 ?_)
  unfold regS at g
  show GoS X.K _ _ _ _ (mp (olden x.ρ))
  cases q : mp (olden x.ρ) with
  | bk ρ1 => rw [q] at g; exact g.elim
  | ct ρ1 => rw [q] at g; exact g.elim
  | ex _ _ ρ1 => rw [q] at g; exact g.elim
  | bad => rw [q] at g; exact g.elim
  | rt s ρ1 =>
    rw [q] at g
    cases s <;> first | exact g.elim | skip
    rename_i t
    cases t <;> first | exact g.elim | skip
    rename_i b
    intro F' H' σ' v nx r
    have r : Rep X.K F' H' v (.bl b) := r
    cases RepP.bl (.inl r)
    refine g x.F H' σ' _ (hst.fin (y := ⟨F', H', σ', ρ1⟩) nx.1 rfl (fun a f => nx.2.ext a f) (fun a o f e => nx.2.keep a o e fun w => ?_) fun a w => (nx.2.wn a w).imp_left ow_olden.mp) (.bl b)
    obtain ⟨_, _, nw⟩ := f
    exact nw (ow_olden.mp w)
  | nx ρ1 =>
    rw [q] at g
    intro F' H' σ' nx
    cases qh : ρ1[h]? with
    | none => simp only [qh] at g; exact g.elim
    | some s =>
      simp only [qh] at g
      cases s <;> first | exact g.elim | skip
      rename_i ts
      simp only at g
      by_cases hG : LoopG F (.str ks) (.int c) ts ∧ i < ρ1.length
      · rw [if_pos hG] at g
        obtain ⟨⟨G, hG1, hG2⟩, hil⟩ := hG
        obtain ⟨a0, vs, F0, e0, L0⟩ := Lp.start (G := G) (h := h) (i := i) hst nx qh fun t ht => ⟨hG1 t ht, (hG2 t (hG1 t ht)).1⟩
        have hun : ((young ρ1).set i .un).set i .un = (young ρ1).set i .un := by rw [List.set_set]
        refine bv_cons (sv_forL i hpo hc pgv (ev_var h pvh e0 ⟨a0, vs, rfl, .inl (.inl L0.la), fun _ σ H => ∃ F, Lp X.K β x G a0 vs F H σ ((young ρ1).set i .un), ⟨F0, L0⟩, fun _ σ H ⟨F, L⟩ => .inl (.inl L.la), ?_, ?_⟩) hf)
        · rintro k v σ H hk ⟨F2, L⟩
          obtain ⟨b, t, rfl, nA, nF, nw, ob, gt⟩ := L.els v (List.mem_of_getElem? hk)
          obtain ⟨fl, t', et, gt'⟩ := hG2 t gt
          have Ls := L.set (i := i) (o := some (.ref b)) hun
          have hi : i < σ.length := by
            rw [L.st.len]
            show i < ((young ρ1).set i .un).length
            rw [List.length_set, young, List.length_map]
            exact hil
          have ei : (σ.set i (some (V.ref b)))[i]? = some (some (V.ref b)) := List.getElem?_set_self hi
          have nwb : ¬ (Sx.mk F2 H (σ.set i (some (V.ref b))) ((young ρ1).set i .un)).ow b := by
            obtain ⟨b2, _, e2, _, _, h4, _, _⟩ := Ls.els _ (List.mem_of_getElem? hk)
            cases e2
            exact h4
          refine bv_cons ⟨_, ps_asg pe_ev (pg_sub pe_ev pe_ev set_sv ha) hs hw hx, ?_⟩
          refine ev_int (ev_var i pvi ei (ev_str ?_))
          refine ⟨_, set_own mt ns F1 hr hj, ?_, rfl, ?_⟩
          · obtain ⟨C, fs, rfl, rfl⟩ : ∃ C fs, t = .ins C fs ∧ C = "Sum" := by
              cases t <;> first | exact fl.elim | exact ⟨_, _, rfl, fl.1⟩
            obtain ⟨dx, fvs, hb, _⟩ := ob.insI
            exact ⟨b, rfl, .inr ⟨dx, fvs, hb⟩⟩
          · have base : St X.K ⟨fun _ => none, fun _ => False⟩ ⟨F2, H, [some (.str ks), some (.int c)], [.val (.str ks), .val (.int c)]⟩ := st_two (.str ks) (.int c) L.st.trk
            refine ⟨shB ⟨fun _ => none, fun _ => False⟩ b, F2, [.bor t, .val (.str ks), .val (.int c)], St.cons base nF ob (fun ⟨k, e1, u, e2⟩ => ?_), rfl, ?_⟩
            · match k with
              | 0 => rcases e2 with e2 | e2 <;> cases e2
              | 1 => rcases e2 with e2 | e2 <;> cases e2
              | k + 2 => rcases e2 with e2 | e2 <;> cases e2
            · rw [et]
              intro F' H' v' n' _
              refine bv_nil ⟨F', Ls.turn (vs2 := [.str ks, .int c]) nA nF nwb n' (fun k s e => ?_) gt'⟩
              match k with
              | 0 => cases e; exact ⟨_, rfl⟩
              | 1 => cases e; exact ⟨_, rfl⟩
              | k + 2 => cases e
        · rintro σ H ⟨F2, L⟩
          refine hpost β ⟨F2, H, σ, (young ρ1).set i .un⟩ D L.st ?_
          show GoS X.K _ _ _ _ (mq ((young ρ1).set i .un))
          cases q2 : mq ((young ρ1).set i .un) with
          | rt s ρ2 =>
            rw [q2] at g
            cases s <;> first | exact g.elim | skip
            rename_i t
            cases t <;> first | exact g.elim | skip
            rename_i b
            intro F3 H3 σ3 v nx3 r
            have r : Rep X.K F3 H3 v (.bl b) := r
            cases RepP.bl (.inl r)
            refine g x.F H3 σ3 _ (hst.fin (y := ⟨F3, H3, σ3, ρ2⟩) nx3.1 rfl (fun a f => nx3.2.ext a (L.extA a f)) (fun a o f e => nx3.2.keep a o (L.keepA a o f e) fun w => (L.st.noF w).1 (L.extA a f)) fun a w => ?_) (.bl b)
            rcases nx3.2.wn a w with w | w
            · exact L.own a w
            · cases qx : x.H a with
              | none => exact .inr rfl
              | some o =>
                by_cases wx : x.ow a
                · exact .inl wx
                · have : H a = some o := L.keepA a o ⟨o, qx, wx⟩ qx
                  have w : H a = none := w
                  rw [w] at this; cases this
          | nx _ => rw [q2] at g; exact g.elim
          | bk _ => rw [q2] at g; exact g.elim
          | ct _ => rw [q2] at g; exact g.elim
          | ex _ _ _ => rw [q2] at g; exact g.elim
          | bad => rw [q2] at g; exact g.elim
      · rw [if_neg hG] at g
        exact g.elim
end
end Dv
/-! EG: a, b, c = e1, e2, e3. -/
namespace Dv
open PySem PySem.Spec PyProof.Rows L2 Hv
section
variable {X : Cx} {W : WX} {a b c : Expr} {pos : Pos} {m n o : M T}
def par3S (i j l : Nat) (m n o : M T) : S := m.thenS fun s => n.thenS fun t => o.thenS fun u ρ => .nx (((ρ.set i (.val s)).set j (.val t)).set l (.val u))
theorem dens_par3 {n1 n2 n3 : Str} {px py pz pt pt2 : Pos} {kt k2 : Nat} (i j l : Nat) (hc : X.calm = true) (hN : X.N.Nodup) (hi : X.N[i]? = some n1) (hj : X.N[j]? = some n2) (hl : X.N[l]? = some n3) (hij : i ≠ j) (hil : i ≠ l) (hjl : j ≠ l)
    (lx : X.env.scope.names.lookup n1 = some .local) (ly : X.env.scope.names.lookup n2 = some .local) (lz : X.env.scope.names.lookup n3 = some .local) (ha : Den X W a m) (hb : Den X W b n) (hd : Den X W c o)
    (hw : swappedStores [.Tuple [.Name n1 px, .Name n2 py, .Name n3 pz] kt pt] (.Tuple [a, b, c] k2 pt2) X.env = pure (some [n1, n2, n3]) := by rfl)
    (hsw : swapsWithSole [.Tuple [.Name n1 px, .Name n2 py, .Name n3 pz] kt pt] (.Tuple [a, b, c] k2 pt2) pos.line X.env = pure false := by rfl)
    (he : starEach [a, b, c] X.env = (false, eval a X.env) :: starEach [b, c] X.env := by rfl) (he2 : starEach [b, c] X.env = (false, eval b X.env) :: starEach [c] X.env := by rfl) (he3 : starEach [c] X.env = (false, eval c X.env) :: starEach [] X.env := by rfl) :
    DenS X W (.Assign [.Tuple [.Name n1 px, .Name n2 py, .Name n3 pz] kt pt] (.Tuple [a, b, c] k2 pt2) pos) (par3S i j l m n o) := by
  intro β x D hs g
  refine ⟨_, L2.ps_par3 hc hN hi hj hl hij hil hjl lx ly lz pa_av hw hsw, av_cons (ev_mono (ha.thenS hs g) ?_) he⟩
  rintro v H1 ⟨F1, ρ1, s, at1, _, g1⟩
  refine av_cons (ev_mono (hb.thenS (x := ⟨F1, H1, x.σ, ρ1⟩) at1.st g1) ?_) he2
  rintro w H2 ⟨F2, ρ2, t, at2, _, g2⟩
  refine av_cons (ev_mono (hd.thenS (x := ⟨F2, H2, x.σ, ρ2⟩) at2.st g2) ?_) he3
  rintro z H3 ⟨F3, ρ3, u, at3, _, g3⟩
  have r1 : Rep X.K F3 H3 v s := at3.nx.2.rep at2.st (at2.nx.2.rep at1.st at1.rep)
  have r2 : Rep X.K F3 H3 w t := at3.nx.2.rep at2.st at2.rep
  have q1 := Nx.setV (x := ⟨F3, H3, x.σ, ρ3⟩) (j := i) at3.st r1
  have q2 := q1.trans (Nx.setV (x := ⟨F3, H3, x.σ.set i (some v), ρ3.set i (.val s)⟩) (j := j) q1.1 r2)
  have q3 := q2.trans (Nx.setV (x := ⟨F3, H3, (x.σ.set i (some v)).set j (some w), (ρ3.set i (.val s)).set j (.val t)⟩) (j := l) q2.1 at3.rep)
  have fin : D.nx (((x.σ.set i (some v)).set j (some w)).set l (some z)) H3 := g3 _ _ _ q3
  exact av_nil ⟨v, w, z, rfl, fin⟩
/-- what is handed out outlasts a step -/
theorem SlR.on {K : PySem.W.Frag} {β : Bc} {x y z : Sx} {v : V} {s : Slot} (hy : St K β y) (n : Nx K β y z) (h : SlR K x y v s) : SlR K x z v s := by
  cases s with
  | un => exact h
  | bor t => exact h
  | old t => exact h
  | nl t => exact h
  | val t => exact n.2.rep hy h
  | own t =>
    obtain ⟨a, h1, h2, h3, h4, h5⟩ := h
    obtain ⟨u, eu⟩ := h3.there
    refine ⟨a, h1, fun f => ?_, h3.mono n.2.ext (n.2.fk hy) fun o e => n.2.keep a o e h4, fun w => ?_, h5⟩
    · rcases n.2.new a f with f | f | f | ⟨o, f, im⟩
      · exact h2 f
      · exact h4 f
      · rw [f] at eu; cases eu
      · exact h3.notImm f im
    · rcases n.2.wn a w with w | w
      · exact h4 w
      · rw [w] at eu; cases eu
/-- a, b = e1, e2, where these hand out new objects -/
def parF (i j : Nat) (m n : M Slot) : S := m.thenS fun s => n.thenS fun t ρ => match putSl i s ρ with
  | .nx ρ' => putSl j t ρ'
  | _ => .bad
theorem putSl_nx {i : Nat} {s : Slot} {ρ : Env} {r : RS} (e : putSl i s ρ = r) : (∃ ρ', r = .nx ρ') ∨ r = .bad := by
  subst e; cases s <;> first | exact .inl ⟨_, rfl⟩ | exact .inr rfl
theorem dens_parF {n1 n2 : Str} {px py pt pt2 : Pos} {kt k2 : Nat} {m n : M Slot} (i j : Nat) (hc : X.calm = true) (hN : X.N.Nodup) (hi : X.N[i]? = some n1) (hj : X.N[j]? = some n2) (hij : i ≠ j)
    (lx : X.env.scope.names.lookup n1 = some .local) (ly : X.env.scope.names.lookup n2 = some .local) (ha : DenF X W a m) (hb : DenF X W b n)
    (hw : swappedStores [.Tuple [.Name n1 px, .Name n2 py] kt pt] (.Tuple [a, b] k2 pt2) X.env = pure (some [n1, n2]) := by rfl)
    (hsw : swapsWithSole [.Tuple [.Name n1 px, .Name n2 py] kt pt] (.Tuple [a, b] k2 pt2) pos.line X.env = pure false := by rfl)
    (he : starEach [a, b] X.env = (false, eval a X.env) :: starEach [b] X.env := by rfl) (he2 : starEach [b] X.env = (false, eval b X.env) :: starEach [] X.env := by rfl) :
    DenS X W (.Assign [.Tuple [.Name n1 px, .Name n2 py] kt pt] (.Tuple [a, b] k2 pt2) pos) (parF i j m n) := by
  intro β x D hs g
  refine sv_par i j hc hN hi hj hij lx ly (av_cons (ev_mono (ha.thenS hs g) ?_) he) hw hsw
  rintro v H1 ⟨F1, ρ1, s, n1, r1, ee1, g1⟩
  refine av_cons (ev_mono (hb.thenS (x := ⟨F1, H1, x.σ, ρ1⟩) n1.1 g1) ?_) he2
  rintro w H2 ⟨F2, ρ2, t, n2, r2, ee2, g2⟩
  unfold parF M.thenS at g
  simp only [ee1] at g
  have ee2 : n ρ1 = .ok t ρ2 := ee2
  simp only [ee2] at g
  clear g1 g2
  have g2 := g
  clear g
  have r1' : SlR X.K x ⟨F2, H2, x.σ, ρ2⟩ v s := SlR.on n1.1 n2 r1
  cases q1 : putSl i s ρ2 with
  | nx ρ3 =>
    simp only [q1] at g2
    have p1 := Nx.put (x := x) (y := ⟨F2, H2, x.σ, ρ2⟩) (j := i) (n1.trans n2) r1' q1
    cases q2 : putSl j t ρ3 with
    | nx ρ4 =>
      rw [q2] at g2
      have r2' : SlR X.K x ⟨F2, H2, x.σ.set i (some v), ρ3⟩ w t := by
        cases t with
        | un => exact r2
        | bor u => exact r2
        | old u => exact r2
        | nl u => exact r2
        | val u => exact r2
        | own u =>
          obtain ⟨b, h1, h2, h3, h4, h5⟩ := r2
          refine ⟨b, h1, h2, h3, fun w0 => ?_, ?_⟩
          · -- the first one's slot
            cases s with
            | un => cases q1
            | bor _ => cases q1
            | old _ => cases q1
            | nl _ => cases q1
            | val u1 =>
              cases q1
              exact h4 ((Nx.setV (x := ⟨F2, H2, x.σ, ρ2⟩) (j := i) n2.1 r1').2.wn b w0 |>.resolve_right fun e => by
                obtain ⟨z, ez⟩ := h3.there
                have e : H2 b = none := e
                have ez : H2 b = some z := ez
                rw [e] at ez; cases ez)
            | own u1 =>
              cases q1
              obtain ⟨a0, ev, k2, k3, k4, k5⟩ := r1'
              obtain ⟨a', e', l2, l3, l4, l5⟩ := r1
              rw [ev] at e' w0
              have e' : a0 = a' := by injection e'
              subst e'
              obtain ⟨_, ow⟩ := Nx.setO (j := i) n2.1 k2 k3 k4
              rcases ow b w0 with w1 | eb
              · exact h4 w1
              · subst eb
                rcases h5 with h5 | h5
                · exact l4 h5
                · obtain ⟨z, ez⟩ := l3.there
                  have ez : H1 b = some z := ez
                  have h5 : H1 b = none := h5
                  rw [h5] at ez; cases ez
          · rcases h5 with h5 | h5
            · exact n1.2.wn b h5
            · cases qx : x.H b with
              | none => exact .inr rfl
              | some o =>
                by_cases wx : x.ow b
                · exact .inl wx
                · have := n1.2.keep b o qx wx
                  have h5 : H1 b = none := h5
                  have this : H1 b = some o := this
                  rw [h5] at this; cases this
      have p2 := Nx.put (x := x) (y := ⟨F2, H2, x.σ.set i (some v), ρ3⟩) (j := j) p1 r2' q2
      have fin : D.nx ((x.σ.set i (some v)).set j (some w)) H2 := g2 _ _ _ p2
      exact av_nil ⟨v, w, rfl, fin⟩
    | rt _ _ => rcases putSl_nx q2 with ⟨_, z⟩ | z <;> cases z
    | bk _ => rcases putSl_nx q2 with ⟨_, z⟩ | z <;> cases z
    | ct _ => rcases putSl_nx q2 with ⟨_, z⟩ | z <;> cases z
    | ex _ _ _ => rcases putSl_nx q2 with ⟨_, z⟩ | z <;> cases z
    | bad => rw [q2] at g2; exact g2.elim
  | rt _ _ => rcases putSl_nx q1 with ⟨_, z⟩ | z <;> cases z
  | bk _ => rcases putSl_nx q1 with ⟨_, z⟩ | z <;> cases z
  | ct _ => rcases putSl_nx q1 with ⟨_, z⟩ | z <;> cases z
  | ex _ _ _ => rcases putSl_nx q1 with ⟨_, z⟩ | z <;> cases z
  | bad => simp only [q1] at g2; exact g2.elim
end
end Dv
/-! PA: plain Lean: rules for comprehensions that leave the slots as they are; dicts of names to Rats as lists; their sums. -/
namespace Dv
open PySem PySem.Spec PyProof.Rows L2 Hv
section
variable {α γ : Type} {ρ ρ' : Env} {E : Str → T → Env → Prop} {a b : M Rdr} {m n m1 m2 m3 : M T} {P : Po} {Q : T → Env → Prop}
abbrev E00 : Str → T → Env → Prop := fun _ _ _ => False
theorem ws_par3 {i j l : Nat} (h : W (m1 ρ) (fun s ρ1 => W (m2 ρ1) (fun t ρ2 => W (m3 ρ2) (fun u ρ3 => P.nx (((ρ3.set i (.val s)).set j (.val t)).set l (.val u))) P.ex) P.ex) P.ex) : WS (par3S i j l m1 m2 m3 ρ) P :=
  ws_thenS (h.mono fun _ _ h => ws_thenS (W.mono h fun _ _ h => ws_thenS h))
theorem iteB {a : String} {p q : Prop} (h : p) : if (a == a) = true then p else q := by rw [if_pos (beq_self_eq_true a)]; exact h
theorem iteNB {a : String} {p q : Prop} (h : q) : if (!(a == a)) = true then p else q := by rw [beq_self_eq_true a]; exact h
theorem ex_op2 {r q : Option T} {f : T → T → Option T} {Q : T → Prop} {s t u : T} (h1 : r = some s) (h2 : q = some t) (e : f s t = some u) (h : Q u) : ∃ s t u, r = some s ∧ q = some t ∧ f s t = some u ∧ Q u := ⟨s, t, u, h1, h2, e, h⟩
theorem ex_un1 {r : Option T} {f : T → Option T} {Q : T → Prop} {s u : T} (h1 : r = some s) (e : f s = some u) (h : Q u) : ∃ s u, r = some s ∧ f s = some u ∧ Q u := ⟨s, u, h1, e, h⟩
theorem ex_slT {s : Slot} {Q : T → Prop} {t : T} (h1 : slT s = some t) (h : Q t) : ∃ t, slT s = some t ∧ Q t := ⟨t, h1, h⟩
theorem ex_args {n m : Nat} {c d : Bool} {o : Option Env} {ins : Env} {Q : Env → Prop} (h1 : n = m) (h2 : c = d) (h3 : o = some ins) (h : Q ins) : n = m ∧ c = d ∧ ∃ ins, o = some ins ∧ Q ins := ⟨h1, h2, ins, h3, h⟩
theorem w_get2N {i : Nat} {kts : List (Key × T)} (e : cont ρ i = some (.dic kts)) (h : W (m ρ) (fun k ρ2 => W (n ρ2) (fun d ρ3 => ∃ s u, cont ρ3 i = some s ∧ getP s k d = some u ∧ Q u ρ3) E) E) : W (get2M (oN i) m n ρ) Q E :=
  w_get2M (w_oN e ⟨by show (cont ρ i).map isDic = some true; rw [e]; rfl, h⟩)
/-- [f(t) for t in ts if p(t)], the slots as they are -/
theorem w_compM {own : List Nat} {mi : M (List T)} {g : T → Env → Option Env} {c : M Bool} {el : M T} {Q : Slot → Env → Prop} (p : T → Bool) (f : T → T)
    (h : W (mi ρ) (fun ts ρ1 => ts.length ≤ 100000 ∧ (∀ t ∈ ts, ∃ ρt, g t (wipeR ρ1 own) = some ρt ∧ W (c ρt) (fun k ρ2 => k = p t ∧ if p t = true then W (el ρ2) (fun y ρ3 => y = f t ∧ wipeR ρ3 own = wipeR ρ1 own) E00 else wipeR ρ2 own = wipeR ρ1 own) E00) ∧
      Q (.own (.lst ((ts.filter p).map f))) (wipeR ρ1 own)) E) : W (compF own mi g c el ρ) Q E := by
  refine w_comp (h.mono fun ts ρ1 ⟨hl, hs, q⟩ => ⟨hl, fun i ys ρ => i ≤ ts.length ∧ ys = ((ts.take i).filter p).map f ∧ ρ = wipeR ρ1 own, ⟨Nat.zero_le _, by simp, rfl⟩, ?_, ?_⟩)
  · rintro i ys t ρ ht ⟨hi, rfl, rfl⟩
    obtain ⟨ρt, e1, w1⟩ := hs t (List.mem_of_getElem? ht)
    refine ⟨ρt, e1, w1.mono fun k ρ2 ⟨ek, w2⟩ => ?_⟩
    have hlt : i < ts.length := (List.getElem?_eq_some_iff.mp ht).1
    have tk : ts.take (i + 1) = ts.take i ++ [t] := by rw [List.take_add_one, ht]; rfl
    subst ek
    cases hp : p t with
    | true =>
      rw [hp, if_pos rfl] at w2
      rw [if_pos rfl]
      refine w2.mono fun y ρ3 ⟨ey, e3⟩ => ⟨hlt, ?_, e3⟩
      rw [tk, List.filter_append, List.map_append, ey]
      congr 1
      simp [List.filter, hp]
    | false =>
      rw [hp, if_neg (by simp)] at w2
      rw [if_neg (by simp)]
      refine ⟨hlt, ?_, w2⟩
      rw [tk, List.filter_append]
      simp [List.filter, hp]
  · rintro ys ρ ⟨_, rfl, rfl⟩
    rw [List.take_length]
    exact q
theorem w_compY {own : List Nat} {mi : M (List T)} {g : T → Env → Option Env} {el : M T} {Q : Slot → Env → Prop} (f : T → T)
    (h : W (mi ρ) (fun ts ρ1 => ts.length ≤ 100000 ∧ (∀ t ∈ ts, ∃ ρt, g t (wipeR ρ1 own) = some ρt ∧ W (el ρt) (fun y ρ3 => y = f t ∧ wipeR ρ3 own = wipeR ρ1 own) E00) ∧ Q (.own (.lst (ts.map f))) (wipeR ρ1 own)) E) : W (compF own mi g yesM el ρ) Q E := by
  refine w_compM (fun _ => true) f (h.mono fun ts ρ1 ⟨hl, hs, q⟩ => ⟨hl, fun t ht => ?_, ?_⟩)
  · obtain ⟨ρt, e1, w1⟩ := hs t ht
    exact ⟨ρt, e1, w_yes ⟨rfl, by rw [if_pos rfl]; exact w1⟩⟩
  · rw [List.filter_eq_self.mpr (fun _ _ => rfl)]
    exact q
/-! ### dicts by names -/
abbrev RL := List (Str × Rat)
def keysR (l : RL) : List Str := l.map (·.1)
def getR (l : RL) (n : Str) : Rat := ((l.find? fun p => decide (p.1 = n)).map (·.2)).getD 0
def encD (f : Rat → T) (l : RL) : List (Key × T) := l.map fun p => (.inr p.1, f p.2)
def updR (l : RL) (n : Str) (q : Rat) : RL := if n ∈ keysR l then l.map (fun p => if p.1 = n then (p.1, q) else p) else l ++ [(n, q)]
def clnR (l : RL) : RL := l.filter fun p => decide (p.2 ≠ 0)
theorem inr_eq {a b : Str} : ((Sum.inr a : Key) = .inr b) ↔ a = b := ⟨fun h => by injection h, fun h => by rw [h]⟩
theorem getD_enc (f : Rat → T) (l : RL) (n : Str) : getD (encD f l) (.inr n) = (l.find? fun p => decide (p.1 = n)).map fun p => f p.2 := by
  unfold getD encD
  rw [List.find?_map, Option.map_map]
  have e : ((fun kt : Key × T => decide (kt.1 = .inr n)) ∘ fun p : Str × Rat => ((.inr p.1 : Key), f p.2)) = fun p => decide (p.1 = n) := by
    funext p
    simp [inr_eq]
  rw [e]
  rfl
theorem find_mem {l : RL} {n : Str} (h : n ∈ keysR l) : ∃ q, (l.find? fun p => decide (p.1 = n)) = some (n, q) ∧ getR l n = q := by
  obtain ⟨p, hp, rfl⟩ := List.mem_map.mp h
  cases e : l.find? fun p' => decide (p'.1 = p.1) with
  | none => exact absurd (List.find?_eq_none.mp e p hp) (by simp)
  | some p' =>
    have := List.find?_some e
    simp only [decide_eq_true_eq] at this
    obtain ⟨a, q⟩ := p'
    cases this
    exact ⟨q, rfl, by unfold getR; rw [e]; rfl⟩
theorem find_not {l : RL} {n : Str} (h : n ∉ keysR l) : (l.find? fun p => decide (p.1 = n)) = none := by
  refine List.find?_eq_none.mpr fun p hp => ?_
  simp only [decide_eq_true_eq]
  exact fun e => h (List.mem_map.mpr ⟨p, hp, e⟩)
theorem getR_not {l : RL} {n : Str} (h : n ∉ keysR l) : getR l n = 0 := by unfold getR; rw [find_not h]; rfl
theorem getR_mem {l : RL} {p : Str × Rat} (nd : (keysR l).Nodup) (h : p ∈ l) : getR l p.1 = p.2 := by
  induction l with
  | nil => cases h
  | cons a l ih =>
    unfold keysR at nd
    rw [List.map_cons, List.nodup_cons] at nd
    unfold getR
    rw [List.find?_cons]
    rcases List.mem_cons.mp h with rfl | h
    · simp
    · have ne : a.1 ≠ p.1 := fun e => nd.1 (e ▸ List.mem_map_of_mem h)
      rw [show decide (a.1 = p.1) = false from decide_eq_false ne]
      exact ih nd.2 h
theorem getD_mem {f : Rat → T} {l : RL} {n : Str} (h : n ∈ keysR l) : getD (encD f l) (.inr n) = some (f (getR l n)) := by
  obtain ⟨q, e1, e2⟩ := find_mem h
  rw [getD_enc, e1, e2]; rfl
theorem getD_dflt {f : Rat → T} {l : RL} {n : Str} : (getD (encD f l) (.inr n)).getD (f 0) = f (getR l n) := by
  by_cases h : n ∈ keysR l
  · rw [getD_mem h]; rfl
  · rw [getD_enc, find_not h, getR_not h]; rfl
theorem putD_enc (f : Rat → T) (l : RL) (n : Str) (q : Rat) : putD (encD f l) (.inr n) (f q) = encD f (updR l n q) := by
  unfold putD updR
  have e : ((encD f l).any fun kt => decide (kt.1 = .inr n)) = decide (n ∈ keysR l) := by
    rw [Bool.eq_iff_iff, List.any_eq_true, decide_eq_true_eq]
    constructor
    · rintro ⟨kt, h1, h2⟩
      obtain ⟨p, hp, rfl⟩ := List.mem_map.mp h1
      simp only [decide_eq_true_eq, inr_eq] at h2
      exact List.mem_map.mpr ⟨p, hp, h2⟩
    · intro h
      obtain ⟨p, hp, rfl⟩ := List.mem_map.mp h
      exact ⟨_, List.mem_map.mpr ⟨p, hp, rfl⟩, by simp⟩
  rw [e]
  by_cases h : n ∈ keysR l
  · rw [if_pos (by simp [h]), if_pos h]
    unfold encD
    rw [List.map_map, List.map_map]
    refine List.map_congr_left fun p _ => ?_
    simp only [Function.comp_apply, inr_eq]
    by_cases e : p.1 = n
    · rw [if_pos e, if_pos e]
    · rw [if_neg e, if_neg e]
  · rw [if_neg (by simp [h]), if_neg h]
    unfold encD
    rw [List.map_append]
    rfl
theorem keys_upd {l : RL} {n : Str} {q : Rat} : keysR (updR l n q) = if n ∈ keysR l then keysR l else keysR l ++ [n] := by
  unfold updR
  by_cases h : n ∈ keysR l
  · rw [if_pos h, if_pos h]
    unfold keysR
    rw [List.map_map]
    refine List.map_congr_left fun p _ => ?_
    simp only [Function.comp_apply]
    split <;> rfl
  · rw [if_neg h, if_neg h]
    unfold keysR
    rw [List.map_append]; rfl
theorem nd_upd {l : RL} {n : Str} {q : Rat} (nd : (keysR l).Nodup) : (keysR (updR l n q)).Nodup := by
  rw [keys_upd]
  split
  · exact nd
  · rename_i h
    refine List.nodup_append.mpr ⟨nd, by simp, fun a ha b hb e => h ?_⟩
    rw [List.mem_singleton] at hb
    rw [← hb, ← e]; exact ha
theorem getR_upd {l : RL} {n k : Str} {q : Rat} : getR (updR l n q) k = if k = n then q else getR l k := by
  unfold updR
  by_cases h : n ∈ keysR l
  · rw [if_pos h]
    unfold getR
    rw [List.find?_map, Option.map_map]
    have e : ((fun p : Str × Rat => decide (p.1 = k)) ∘ fun p => if p.1 = n then (p.1, q) else p) = fun p => decide (p.1 = k) := by
      funext p
      simp only [Function.comp_apply]
      split <;> rfl
    rw [e]
    by_cases hk : k = n
    · subst hk
      obtain ⟨q', e1, _⟩ := find_mem h
      rw [e1, if_pos rfl]
      simp
    · rw [if_neg hk]
      cases e2 : l.find? fun p => decide (p.1 = k) with
      | none => rfl
      | some p =>
        have := List.find?_some e2
        simp only [decide_eq_true_eq] at this
        simp [this, hk]
  · rw [if_neg h]
    unfold getR
    rw [List.find?_append]
    by_cases hk : k = n
    · subst hk
      rw [find_not h, if_pos rfl]
      simp
    · rw [if_neg hk]
      cases e2 : l.find? fun p => decide (p.1 = k) with
      | none => simp [Ne.symm hk]
      | some p => simp
theorem mem_cln {l : RL} {p : Str × Rat} : p ∈ clnR l ↔ p ∈ l ∧ p.2 ≠ 0 := by
  unfold clnR
  rw [List.mem_filter, decide_eq_true_eq]
theorem nd_cln {l : RL} (nd : (keysR l).Nodup) : (keysR (clnR l)).Nodup := List.Pairwise.sublist (List.Sublist.map _ List.filter_sublist) nd
theorem getR_cln {l : RL} (nd : (keysR l).Nodup) {n : Str} : getR (clnR l) n = getR l n := by
  by_cases h : n ∈ keysR (clnR l)
  · obtain ⟨p, hp, rfl⟩ := List.mem_map.mp h
    rw [getR_mem (nd_cln nd) hp, getR_mem nd (mem_cln.mp hp).1]
  · rw [getR_not h]
    by_cases h2 : n ∈ keysR l
    · obtain ⟨p, hp, rfl⟩ := List.mem_map.mp h2
      rw [getR_mem nd hp]
      by_cases e : p.2 = 0
      · exact e.symm
      · exact absurd (List.mem_map.mpr ⟨p, mem_cln.mpr ⟨hp, e⟩, rfl⟩) h
    · rw [getR_not h2]
theorem keys_get {l : RL} (nd : (keysR l).Nodup) (nz : ∀ p ∈ l, p.2 ≠ 0) {n : Str} : n ∈ keysR l ↔ getR l n ≠ 0 := by
  constructor
  · intro h
    obtain ⟨p, hp, rfl⟩ := List.mem_map.mp h
    rw [getR_mem nd hp]
    exact nz p hp
  · intro h
    by_cases h2 : n ∈ keysR l
    · exact h2
    · exact absurd (getR_not h2) h
/-- mergeD of unlike keys -/
theorem putD_new {kts : List (Key × T)} {k : Key} {t : T} (h : k ∉ kts.map (·.1)) : putD kts k t = kts ++ [(k, t)] := by
  unfold putD
  rw [if_neg]
  rw [List.any_eq_true]
  rintro ⟨kt, h1, h2⟩
  simp only [decide_eq_true_eq] at h2
  exact h (List.mem_map.mpr ⟨kt, h1, h2⟩)
theorem mergeD_app : ∀ (more kts : List (Key × T)), ((kts ++ more).map (·.1)).Nodup → mergeD kts more = kts ++ more
  | [], kts, _ => by simp [mergeD]
  | (k, t) :: more, kts, nd => by
    unfold mergeD
    rw [List.foldl_cons]
    have hk : k ∉ kts.map (·.1) := fun h => by
      rw [List.map_append, List.nodup_append] at nd
      exact nd.2.2 k h k (by simp) rfl
    rw [putD_new hk]
    have := mergeD_app more (kts ++ [(k, t)]) (by rw [List.append_assoc]; exact nd)
    unfold mergeD at this
    rw [this, List.append_assoc]
    rfl
theorem mergeD_nil {kts : List (Key × T)} (nd : (kts.map (·.1)).Nodup) : mergeD [] kts = kts := mergeD_app kts [] nd
theorem nd_enc {f : Rat → T} {l : RL} (nd : (keysR l).Nodup) : ((encD f l).map (·.1)).Nodup := by
  have e : (encD f l).map (·.1) = (keysR l).map Sum.inr := by
    unfold encD keysR
    rw [List.map_map, List.map_map]
    rfl
  rw [e]
  exact List.Pairwise.map _ (fun a b h e => h (inr_eq.mp e)) nd
/-- {k(t): v(t) for t in ts if p(t)}, the slots as they are, keys unlike -/
theorem w_compDM {own : List Nat} {mi : M (List T)} {g : T → Env → Option Env} {c : M Bool} {mk mv : M T} {Q : Slot → Env → Prop} (p : T → Bool) (kf : T → Key) (f : T → T)
    (h : W (mi ρ) (fun ts ρ1 => ts.length ≤ 50000 ∧ ((ts.filter p).map kf).Nodup ∧ (∀ t ∈ ts, ∃ ρt, g t (wipeR ρ1 own) = some ρt ∧ W (c ρt) (fun k ρ2 => k = p t ∧ if p t = true then W (mk ρ2) (fun kt ρ3 => keyT kt = some (kf t) ∧ W (mv ρ3) (fun y ρ4 => y = f t ∧ wipeR ρ4 own = wipeR ρ1 own) E00) E00 else wipeR ρ2 own = wipeR ρ1 own) E00) ∧
      Q (.own (.dic ((ts.filter p).map fun t => (kf t, f t)))) (wipeR ρ1 own)) E) : W (compDF own mi g c mk mv ρ) Q E := by
  refine w_compDF (h.mono fun ts ρ1 ⟨hl, nd, hs, q⟩ => ?_)
  refine w_compDL (fun r acc ρ => ∃ d, ts = d ++ r ∧ acc = (d.filter p).map (fun t => (kf t, f t)) ∧ ρ = wipeR ρ1 own) ?_ ?_ ts [] _ ⟨[], rfl, rfl, rfl⟩
  · rintro t r acc ρ ⟨d, e, rfl, rfl⟩
    obtain ⟨ρt, e1, w1⟩ := hs t (by rw [e]; simp)
    refine ⟨ρt, e1, w1.mono fun k ρ2 ⟨ek, w2⟩ => ?_⟩
    subst ek
    cases hp : p t with
    | true =>
      rw [hp, if_pos rfl] at w2
      rw [if_pos rfl]
      refine w2.mono fun kt ρ3 ⟨ekt, w3⟩ => W.mono w3 fun y ρ4 ⟨ey, e4⟩ => ⟨kf t, ekt, ?_, d ++ [t], by rw [e]; simp, ?_, e4⟩
      · rw [List.length_map]
        have h1 := List.length_filter_le p d
        have h2 := congrArg List.length e
        rw [List.length_append] at h2
        omega
      · rw [putD_new]
        · rw [List.filter_append, List.map_append, ey]
          congr 1
          simp [List.filter, hp]
        · rw [List.map_map]
          intro hm
          rw [e, List.filter_append, List.map_append, List.nodup_append] at nd
          exact nd.2.2 (kf t) hm (kf t) (by simp [List.filter, hp]) rfl
    | false =>
      rw [hp, if_neg (by simp)] at w2
      rw [if_neg (by simp)]
      exact ⟨d ++ [t], by rw [e]; simp, by rw [List.filter_append]; simp [List.filter, hp], w2⟩
  · rintro acc ρ ⟨d, e, rfl, rfl⟩
    rw [List.append_nil] at e
    subst e
    exact q
end
theorem w_lenS {F : FT} {m : M T} {ρ : Env} {Q : T → Env → Prop} {E : Str → T → Env → Prop} (h : W (m ρ) (fun t ρ1 => ∃ C fs, t = .ins C fs ∧ C = "Sum" ∧ WF (F [.val t]) (fun r ps => ps.length = 1 ∧ ∃ i : Int, r = .val (.int i) ∧ (0 ≤ i ∧ i < 2 ^ 63) ∧ Q (.int i) ρ1) E00) E) : W (lenS F m ρ) Q E := by
  refine w_bind (h.mono fun t ρ1 ⟨C, fs, e, hC, q⟩ => ?_)
  subst e hC
  simp only [if_pos]
  cases e : F [.val (.ins "Sum" fs)] with
  | ok r ps =>
    rw [e] at q
    obtain ⟨hl, i, rfl, hi, q⟩ := q
    match ps, hl with
    | [p], _ =>
      show W (if 0 ≤ i ∧ i < 2 ^ 63 then R.ok (T.int i) ρ1 else .bad) Q E
      rw [if_pos hi]
      exact q
  | ex c v ps => rw [e] at q; exact q.elim
  | bad => rw [e] at q; exact q.elim
theorem w_op2S {num : T → T → Option T} {Fm Fr Fn : FT} {ma mb : M T} {ρ : Env} {Q : Slot → Env → Prop} {E : Str → T → Env → Prop} (h : W (ma ρ) (fun s ρ1 => W (mb ρ1) (fun t ρ2 => W (opS num Fm Fr Fn s t ρ2) Q E) E) E) : W (op2S num Fm Fr Fn ma mb ρ) Q E := w_bind (h.mono fun _ _ h => w_bind h)
theorem w_un1S {num : T → Option T} {F : FT} {m : M T} {ρ : Env} {Q : Slot → Env → Prop} {E : Str → T → Env → Prop} (h : W (m ρ) (fun t ρ1 => ∃ C fs, t = .ins C fs ∧ C = "Sum" ∧ WF (F [.val t]) (fun r ps => ps.length = 1 ∧ Q r ρ1) E00) E) : W (un1S num F m ρ) Q E := by
  refine w_bind (h.mono fun t ρ1 ⟨C, fs, e, hC, q⟩ => ?_)
  subst e hC
  simp only [if_pos]
  cases e : F [.val (.ins "Sum" fs)] with
  | ok r ps =>
    rw [e] at q
    obtain ⟨hl, q⟩ := q
    match ps, hl with
    | [p], _ => exact q
  | ex c v ps => rw [e] at q; exact q.elim
  | bad => rw [e] at q; exact q.elim
section
variable {ρ : Env} {E : Str → T → Env → Prop} {P : Po} {m : M T} {n n2 : M (List T)}
theorem w_rdold {i : Nat} {t : T} {Q : T → Env → Prop} (e : ρ[i]? = some (.old t)) (h : Q t ρ) : W (rd i ρ) Q E := by unfold rd; rw [e]; exact h
theorem w_rdnl {i : Nat} {ts : List T} {Q : T → Env → Prop} (e : ρ[i]? = some (.nl ts)) (h : Q (.lst ts) ρ) : W (rd i ρ) Q E := by unfold rd; rw [e]; exact h
theorem w_ownO {m : M Slot} {Q : T → Env → Prop} (h : W (m ρ) (fun s ρ1 => ∃ t, s = .own t ∧ Q t ρ1) E) : W (ownO m ρ) Q E := by
  refine w_bind (h.mono fun s ρ1 ⟨t, e, q⟩ => ?_)
  subst e
  exact q
theorem ws_setNL {i : Nat} (ho : hasOld ρ = true) (h : W (n ρ) (fun ts ρ1 => P.nx (ρ1.set i (.nl ts))) P.ex) : WS (setNL i n ρ) P := by
  unfold setNL
  rw [if_pos ho]
  exact ws_thenS h
theorem ws_parNL {i j : Nat} (h : W (m ρ) (fun s ρ1 => hasOld ρ1 = true ∧ W (n ρ1) (fun ts ρ2 => P.nx ((ρ2.set i (.val s)).set j (.nl ts))) P.ex) P.ex) : WS (parNL i j m n ρ) P := by
  unfold parNL
  refine ws_thenS (h.mono fun s ρ1 ⟨ho, q⟩ => ?_)
  rw [if_pos ho]
  exact ws_thenS q
theorem w_nlD {Q : List T → Env → Prop} (h : W (n ρ) (fun ts ρ1 => ts.length ≤ 100000 ∧ Q ts ρ1) E) : W (nlD n ρ) Q E := w_bind (h.mono fun ts ρ1 ⟨l, q⟩ => w_lift (if_pos l) q)
theorem w_nlN {i : Nat} {ts : List T} {Q : List T → Env → Prop} (e : ρ[i]? = some (.nl ts)) (h : Q ts ρ) : W (nlN i ρ) Q E := by unfold nlN; rw [e]; exact h
theorem w_nlCat {Q : List T → Env → Prop} (h : W (n ρ) (fun ss ρ1 => W (n2 ρ1) (fun ts ρ2 => ss.length + ts.length ≤ 100000 ∧ Q (ss ++ ts) ρ2) E) E) : W (nlCat n n2 ρ) Q E :=
  w_bind (h.mono fun ss ρ1 h => w_bind (W.mono h fun ts ρ2 ⟨l, q⟩ => w_lift (if_pos l) q))
/-- a region -/
theorem ws_regS {pre post : S} {h i : Nat} {F : FT} {k : Str} {v : Int} (hp : WS (pre (olden ρ)) (Po.mk (fun ρ1 => ∃ ts, ρ1[h]? = some (.nl ts) ∧ LoopG F (.str k) (.int v) ts ∧ i < ρ1.length ∧
      WS (post ((young ρ1).set i .un)) (Po.mk (fun _ => False) (fun s ρ2 => ∃ b, s = .val (.bl b) ∧ P.rt s (strip ρ2)) (fun _ => False) (fun _ => False) (fun _ _ _ => False))) (fun s ρ1 => ∃ b, s = .val (.bl b) ∧ P.rt s (strip ρ1)) (fun _ => False) (fun _ => False) (fun _ _ _ => False))) : WS (regS pre h i F k v post ρ) P := by
  unfold regS
  cases q : pre (olden ρ) with
  | nx ρ1 =>
    rw [q] at hp
    obtain ⟨ts, e, lg, hi, hp⟩ := hp
    simp only [e]
    rw [if_pos ⟨lg, hi⟩]
    cases q2 : post ((young ρ1).set i .un) with
    | rt s ρ2 => rw [q2] at hp; obtain ⟨b, rfl, z⟩ := hp; exact z
    | nx _ => rw [q2] at hp; exact hp.elim
    | bk _ => rw [q2] at hp; exact hp.elim
    | ct _ => rw [q2] at hp; exact hp.elim
    | ex _ _ _ => rw [q2] at hp; exact hp.elim
    | bad => rw [q2] at hp; exact hp.elim
  | rt s ρ1 => rw [q] at hp; obtain ⟨b, rfl, z⟩ := hp; exact z
  | bk _ => rw [q] at hp; exact hp.elim
  | ct _ => rw [q] at hp; exact hp.elim
  | ex _ _ _ => rw [q] at hp; exact hp.elim
  | bad => rw [q] at hp; exact hp.elim
end
/-! ### what tabs and Sums stand for -/
def pairT (q : Rat) : T := .tup [.int q.num, .int q.den]
def tabT (l : RL) : T := .dic (encD pairT l)
def ratsT (l : RL) : T := .dic (encD .rat l)
def sumT (l : RL) (q : Rat) : T := .ins "Sum" [("table", ratsT l), ("last", .rat q)]
/-- unlike keys of ns, no noughts, at most k of them, sizes below b -/
structure Okl (ns : Str → Prop) (k b : Nat) (l : RL) : Prop where
  nd : (keysR l).Nodup
  nz : ∀ p ∈ l, p.2 ≠ 0
  nm : ∀ n ∈ keysR l, ns n
  len : l.length ≤ k
  sz : ∀ p ∈ l, Sz b p.2
theorem pow2_pos (b : Nat) : 0 < 2 ^ b := Nat.pow_pos (by decide)
theorem sz0 {b : Nat} (hb : 1 ≤ b) : Sz b 0 := ⟨by show (0 : Rat).num.natAbs < _; exact pow2_pos b, by show 1 < 2 ^ b; exact Nat.one_lt_two_pow (by omega)⟩
theorem Okl.szg {ns : Str → Prop} {k b : Nat} {l : RL} (h : Okl ns k b l) (hb : 1 ≤ b) (n : Str) : Sz b (getR l n) := by
  by_cases e : n ∈ keysR l
  · obtain ⟨p, hp, rfl⟩ := List.mem_map.mp e
    rw [getR_mem h.nd hp]
    exact h.sz p hp
  · rw [getR_not e]
    exact sz0 hb
end Dv
/-! XR: repr of any value that is covered; isinstance with errors and Ratios. -/
namespace Dv
open PySem PySem.Spec PyProof.Rows L2 Hv HvP HvE
def reprD (t : T) : Option T := (pdX t).bind fun d => if d.showable = true ∧ d.depth ≤ 60 ∧ d.shown.length ≤ sizeLine then some (.str d.shown) else none
def reprA : T → Option T
  | .non => some (.str "None")
  | .bl b => some (.str (if b then "True" else "False" : String))
  | .int i => if i.natAbs.log2 < 1920 then some (.str (toString i)) else none
  | .str z => if (reprText z).length ≤ sizeLine then some (.str (reprText z)) else none
  | .rat q => if q.num.natAbs < 2 ^ 1900 ∧ q.den < 2 ^ 1900 then some (.str (SX.S (reprL q))) else none
  | .tup ts => reprD (.tup ts)
  | .lst ts => reprD (.lst ts)
  | .dic kts => reprD (.dic kts)
  | _ => none
/-- what the written part says of the errors -/
structure ErrW (P : Program) (K : PySem.W.Frag) (es : List Str) : Prop where
  hov : HovT P K (He.ga K "HoverError") (He.ma K (He.ga K "HoverError") "__init__")
  exc : ∀ c, c ∈ es → ExcT K (He.ga K "HoverError") (He.ma K (He.ga K "HoverError") "__init__") (He.ga K c)
  isw : ExW K (fun c => decide (c ∈ es)) fun c c' => if c' ∈ es then some (decide (c = c' ∨ c' = "HoverError")) else none
  exm : ∀ c, c ∈ es → PySem.W.exmOne K (.ref (He.ga K c)) (.ref (He.ga K "HoverError")) = some true
  sd : SysD K
section
variable {X : Cx} {W : WX} {cs : List Addr} {a b : Expr} {pos p : Pos} {ma mb : M Rdr} {j : Nat}
theorem reprD_cv {β : Bc} {x : Sx} {t : T} {Q : VK} {c : Addr} (hr : RoomG j X.A) (sd : SysD X.K) (hs : St X.K β x) (r : RepP X.K x.F x.H (.ref c) t) (g : GoE X.K β W x (lift (reprD t) x.ρ) Q) : CV X (.builtin "repr") [.ref c] x.H Q := by
  unfold reprD at g
  cases e : pdX t with
  | none => rw [e] at g; exact g.elim
  | some d =>
    rw [e] at g
    simp only [Option.bind] at g
    obtain ⟨h, g⟩ := lift_if g
    exact ⟨_, call_reprX hr sd, c, t, d, x.F, rfl, r, e, h.1, h.2.1, h.2.2, GoE.out hs g (.str _)⟩
theorem und_reprA (V : RRe X.prog X.w X.K X.mg X.base) (sd : SysD X.K) (hr : RoomG j X.A) (hj : 2 ≤ j) : UnD X W reprA fun v H Q => CV X (.builtin "repr") [v] H Q := by
  intro β x v t Q hs r g
  cases t <;> first | exact g.elim | skip
  · cases r.non; exact ⟨_, call_reprF, .inl ⟨rfl, GoE.out hs g (.str _)⟩⟩
  · cases r.bl; exact ⟨_, call_reprF, .inr (.inl ⟨_, rfl, GoE.out hs g (.str _)⟩)⟩
  · cases r.int
    obtain ⟨h, g⟩ := lift_if g
    exact ⟨_, call_reprF, .inr (.inr (.inl ⟨_, rfl, h, GoE.out hs g (.str _)⟩))⟩
  · cases r.str
    obtain ⟨h, g⟩ := lift_if g
    exact ⟨_, call_reprF, .inr (.inr (.inr ⟨_, rfl, h, GoE.out hs g (.str _)⟩))⟩
  · obtain ⟨c, vs, rfl, _, _⟩ := r.tup
    exact reprD_cv hr sd hs r g
  · obtain ⟨c, vs, rfl, _, _⟩ := r.lst
    exact reprD_cv hr sd hs r g
  · obtain ⟨c, vs, rfl, _, _⟩ := r.dic
    exact reprD_cv hr sd hs r g
  · obtain ⟨h, g⟩ := lift_if g
    obtain ⟨g1, me, F⟩ := V.ex
    exact ⟨_, call_reprn (E := E0) me F hr hj passL, v, rfl, r.rat.isIn, v, _, rfl, r.rat, h.1, h.2, ⟨_, rfl⟩, GoE.out hs g (.str _)⟩
theorem den_reprA (B : Blt X.mg) (V : RRe X.prog X.w X.K X.mg X.base) (sd : SysD X.K) (hr : RoomG j X.A) (hj : 2 ≤ j) (ha : DenO X W a ma) (hg : Gl X "repr" := by rfl) (he : starEach [a] X.env = (false, eval a X.env) :: starEach [] X.env := by rfl) (hpl : (backTo pos (starEach [] X.env)).any (·.1) = false := by rfl) :
    Den X W (.Call (.Name "repr" p) [a] [] pos) (un1 reprA ma) := fun β x Q hs g => ev_repr B (av_cons (ev_mono (ha.then1 (und_reprA V sd hr hj) hs g) fun v H1 h => av_nil h) he) hg he hpl
theorem den_isX {es : Str → Bool} {sub : Str → Str → Option Bool} (B : Blt X.mg) (R : RW X.K X.mg cs) (E : ExW X.K es sub) (ha : DenO X W a ma) (hb : DenO X W b mb) (hg : Gl X "isinstance" := by rfl) (he : starEach [a, b] X.env = (false, eval a X.env) :: starEach [b] X.env := by rfl) (he2 : starEach [b] X.env = (false, eval b X.env) :: starEach [] X.env := by rfl)
    (hpl : (backTo pos (starEach [b] X.env)).any (·.1) = false := by rfl) : Den X W (.Call (.Name "isinstance" p) [a, b] [] pos) (op2 (isX es sub isiR) ma mb) :=
  fun β x Q hs g => ev_isinst B (av_cons (ev_mono (ha.then2 hb (opd_isX E (opd_isi R)) hs g) fun v H1 h => av_cons (ev_mono h fun w H2 h => av_nil h) he2) he) hg he hpl
theorem den_nVE (B : Blt X.mg) (hg : Gl X "ValueError" := by rfl) : Den X W (.Name "ValueError" pos) (cst (.ty "ValueError")) := fun β x Q hs g => ev_nVE B (GoE.out hs g (.ty _)) hg
end
end Dv
/-! XW: what functions on slots come to, where errors are made, raised, caught. Plain Lean. -/
namespace Dv
open PySem PySem.Spec PyProof.Rows L2 Hv
section
variable {ρ : Env} {E : Str → T → Env → Prop} {m : M T} {P : Po} {c : Str}
theorem w_xmk {Q : T → Env → Prop} (h : W (m ρ) (fun u ρ1 => Q (.exc c u) ρ1) E) : W (xmk c m ρ) Q E := w_bind h
theorem ws_raise (h : W (m ρ) (fun u ρ1 => P.ex c u ρ1) P.ex) : WS (raiseS c m ρ) P := by
  unfold raiseS
  cases q : m ρ with
  | ok u ρ1 => rw [q] at h; exact h
  | ex c' v ρ1 => rw [q] at h; exact h
  | bad => rw [q] at h; exact h
theorem ws_keep {cs : Str → Bool} {i j : Nat} {mb : S} (h : WS (mb ρ) { P with ex := fun c u ρ1 => cs c = true ∧ P.nx (((ρ1.set i (.val (.exc c u))).set j (.val (.exc c u))).set i .un) }) : WS (keepS cs i j mb ρ) P := by
  unfold keepS
  cases q : mb ρ with
  | nx ρ1 => rw [q] at h; exact h
  | rt s ρ1 => rw [q] at h; exact h
  | bk ρ1 => rw [q] at h; exact h
  | ct ρ1 => rw [q] at h; exact h
  | bad => rw [q] at h; exact h
  | ex c u ρ1 =>
    rw [q] at h
    obtain ⟨h1, h2⟩ := h
    simp only [h1, if_true]
    exact h2
theorem w_call1 {F : FT} {m : M Slot} {Q : Slot → Env → Prop} (h : W (m ρ) (fun s ρ1 => ∃ t, s = .own t ∧ WF (F [.bor t]) (fun r ps => ∃ u t', r = .val u ∧ ps = [.bor t'] ∧ Q (.val u) ρ1) (fun c u ps => ∃ t', ps = [.bor t'] ∧ E c u ρ1)) E) : W (call1M F m ρ) Q E := by
  refine w_bind (h.mono fun s ρ1 ⟨t, e, q⟩ => ?_)
  subst e
  show W (call1R F t ρ1) Q E
  unfold call1R
  cases e : F [.bor t] with
  | ok r ps =>
    rw [e] at q
    obtain ⟨u, t', rfl, rfl, q⟩ := q
    exact q
  | ex c u ps =>
    rw [e] at q
    obtain ⟨t', rfl, q⟩ := q
    exact q
  | bad => rw [e] at q; exact q.elim
theorem w_enuM {Q : List T → Env → Prop} (h : W (m ρ) (fun t ρ1 => ∃ ts, t = .lst ts ∧ Q (enuT ts) ρ1) E) : W (enuM m ρ) Q E := by
  refine w_bind (h.mono fun t ρ1 ⟨ts, e, q⟩ => ?_)
  subst e
  exact q
end
end Dv
namespace Dv
open PySem PySem.Spec PyProof.Rows L2 Hv HvT HvP HvE
abbrev esB : PySem.Str → Bool := fun c => decide (c ∈ errs)
abbrev subB : PySem.Str → PySem.Str → Option Bool := fun c c' => if c' ∈ errs then some (decide (c = c' ∨ c' = "HoverError")) else none
def F__law_pot : FT := denDef 5 (seqS (setS 2 (ifM (tst (op2 ltR (oN 1) (oE (un1 lenP (oN 0))))) (op2 ixA (oN 0) (oN 1)) (op2 addR (oE (op2 mulR (oE (cst (.int 53))) (oN 1))) (oE (cst (.int 23))))))
    (seqS (setS 3 (op2 mulR (oE (op2 modP (oE (un1 intP (oE (un1 absR (oN 2))))) (oE (op2 powP (oE (op2 powP (oE (cst (.int 10))) (oE (cst (.int 60))))) (oE (cst (.int 5))))))) (oE (un1 intP (oE (op2 geR (oE (un1 absR (oN 2))) (oE (op2 powP (oE (cst (.int 10))) (oE (cst (.int 18)))))))))))
    (seqS (setS 4 (op2 modP (oE (un1 intP (oN 2))) (oE (cst (.int 2305843009213693951)))))
    (retS (lstF (consA (rd 3) (consA (op2 modP (oE (un1 intP (oE (op2 addR (oE (op2 addR (oE (op2 mulR (oN 4) (oE (cst (.int 70979))))) (oE (op2 mulR (oE (op2 mulR (oE (cst (.int 8419))) (oN 1))) (oN 1))))) (oE (cst (.int 89))))))) (oE (cst (.int 2305843009213693921)))) (consA (cst (.int 0)) (nilA)))))))))
def F__law_take : FT := denDef 5 (seqS (ifS (tst (op2 gtR (oE (op2 ixA (oN 0) (oE (cst (.int 0))))) (oE (cst (.int 0))))) (seqS (setS 4 (op2 modP (oE (un1 intP (oE (op2 ixA (oN 0) (oE (cst (.int 0))))))) (oN 1)))
    (seqS (storeS 0 (op2 fdvP (oE (op2 ixA (oN 0) (oE (cst (.int 0))))) (oN 1)) (cst (.int 0)))
    (retS (hnd (rd 4))))) (fun ρ => .nx ρ))
    (seqS (storeS 0 (op2 addR (oE (op2 ixA (oN 0) (oE (cst (.int 2))))) (oE (cst (.int 1)))) (cst (.int 2)))
    (seqS (setS 2 (op2 ixA (oE (frz (lstF (consA (cst (.int 2147483647)) (consA (cst (.int 2147483629)) (consA (cst (.int 2147483587)) (consA (cst (.int 2147483579)) (consA (cst (.int 2147483563)) (nilA))))))))) (oE (op2 modP (oE (un1 intP (oE (op2 ixA (oN 0) (oE (cst (.int 2))))))) (oE (cst (.int 5)))))))
    (seqS (setS 3 (op2 modP (oE (un1 intP (oE (op2 powP (oE (un1 intP (oE (op2 addR (oE (op2 addR (oE (op2 ixA (oN 0) (oE (cst (.int 1))))) (oE (op2 mulR (oE (op2 mulR (oE (cst (.int 104743))) (oE (op2 ixA (oN 0) (oE (cst (.int 2))))))) (oE (op2 ixA (oN 0) (oE (cst (.int 2))))))))) (oE (cst (.int 37))))))) (oE (cst (.int 3))))))) (oN 2)))
    (seqS (setS 3 (op2 modP (oE (un1 intP (oE (op2 mulR (oN 3) (oE (op2 addR (oE (op2 modP (oE (un1 intP (oN 3))) (oE (cst (.int 10037))))) (oE (op2 mulR (oE (cst (.int 103))) (oE (op2 ixA (oN 0) (oE (cst (.int 2))))))))))))) (oE (cst (.int 2305843009213693907)))))
    (retS (hnd (op2 modP (oE (un1 intP (oE (op2 fdvP (oN 3) (oE (cst (.int 113))))))) (oN 1)))))))))
def F__law_of : FT := denDef 2 (retS (hnd (op2 ixA (oN 1) (oE (frz (callN 2 F__law_take (lenR 0 (consR (un1 lenP (oN 1)) (nilR)))))))))
def F__law_odd : FT := denDef 2 (seqS (setF 1 (lstF (consA (cst .non) (consA (cst (.bl true)) (consA (cst (.bl false)) (consA (cst (.str "")) (consA (cst (.str "A")) (consA (cst (.str "a b")) (consA (cst (.str "1")) (consA (cst (.str "t+")) (consA (cst (.str "abcdefghi")) (consA (cst (.str "t10")) (consA (cst (.str "0")) (consA (cst (.str "-")) (consA (cst (.str "1/0")) (consA (tupM (nilA)) (consA (frz (lstF (nilA))) (consA (frz (dic0)) (consA (tupM (consA (cst (.int 1)) (nilA))) (consA (frz (lstF (consA (cst (.int 1)) (nilA)))) (nilA)))))))))))))))))))))
    (retS (callN 2 F__law_of (lenR 0 (consR (op2 addR (oN 1) (oE (frz (lstF (consA (tupM (consA (tupM (nilA)) (nilA))) (consA (tupM (consA (tupM (consA (cst (.str "t")) (consA (cst (.int 1)) (nilA)))) (nilA))) (consA (frz (dicF (consP (cst (.str "t")) (cst (.int 1)) (nilP)))) (consA (tupM (consA (cst (.str "t")) (consA (cst (.int 1)) (nilA)))) (consA (tupM (consA (cst .non) (nilA))) (consA (frz (lstF (consA (cst (.str "t")) (nilA)))) (consA (tupM (consA (tupM (consA (cst (.bl true)) (consA (cst (.int 1)) (nilA)))) (nilA))) (consA (tupM (consA (cst (.int 1)) (consA (cst (.int 2)) (consA (cst (.int 3)) (nilA))))) (nilA))))))))))))) (nilR))))))
def F__law_value : FT := denDef 2 (seqS (setF 1 (lstF (consA (frz (callN 1 F__law_odd (lenR 0 (nilR)))) (consA (tupM (consA (frz (callN 1 F__law_odd (lenR 0 (nilR)))) (consA (frz (callN 1 F__law_odd (lenR 0 (nilR)))) (nilA)))) (consA (frz (lstF (consA (frz (callN 1 F__law_odd (lenR 0 (nilR)))) (nilA)))) (consA (frz (callN 2 F__law_take (lenR 0 (consR (cst (.int 99)) (nilR))))) (consA (cst (.str "page")) (consA (op2 mk2P (oE (cst (.int 1))) (oE (cst (.int 2)))) (nilA)))))))))
    (retS (callN 2 F__law_of (lenR 0 (consR (op2 addR (oN 1) (oE (frz (lstF (consA (frz (dicF (consP (cst (.str "a")) (frz (callN 1 F__law_odd (lenR 0 (nilR)))) (nilP)))) (consA (tupM (consA (tupM (consA (cst (.str "a")) (consA (cst (.int 1)) (nilA)))) (nilA))) (consA (un1 negP (oE (cst (.int 7)))) (consA (cst (.int 999999999)) (nilA))))))))) (nilR))))))
def F__law_all : FT := denDef 2 (seqS (setF 1 (lstF (consA (xmk "BadRatio" (rd 0)) (consA (xmk "BadText" (rd 0)) (consA (xmk "BadSum" (rd 0)) (consA (xmk "NoUnknown" (rd 0)) (consA (xmk "BadPoint" (rd 0)) (consA (xmk "Missing" (rd 0)) (nilA)))))))))
    (seqS (setS 1 (op2 addR (oN 1) (oE (frz (lstF (consA (xmk "BadClaim" (rd 0)) (consA (xmk "TooMany" (rd 0)) (consA (xmk "BadPage" (rd 0)) (consA (xmk "NoLine" (rd 0)) (consA (xmk "BadState" (rd 0)) (nilA)))))))))))
    (seqS (setS 1 (op2 addR (oN 1) (oE (frz (lstF (consA (xmk "BadContents" (rd 0)) (consA (xmk "BadPlace" (rd 0)) (consA (xmk "BadEvents" (rd 0)) (consA (xmk "BadRow" (rd 0)) (consA (xmk "NoWay" (rd 0)) (nilA)))))))))))
    (seqS (setS 1 (op2 addR (oN 1) (oE (frz (lstF (consA (xmk "BadCount" (rd 0)) (consA (xmk "Unlike" (rd 0)) (consA (xmk "BadLogs" (rd 0)) (consA (xmk "BadWishes" (rd 0)) (consA (xmk "BadOffers" (rd 0)) (nilA)))))))))))
    (seqS (setS 1 (op2 addR (oN 1) (oE (frz (lstF (consA (xmk "NotThere" (rd 0)) (consA (xmk "NoSize" (rd 0)) (consA (xmk "BadSize" (rd 0)) (consA (xmk "Nowhere" (rd 0)) (consA (xmk "NothingToUndo" (rd 0)) (nilA)))))))))))
    (retS (hnd (op2 addR (oN 1) (oE (frz (lstF (consA (xmk "NothingToRedo" (rd 0)) (consA (xmk "BadJournal" (rd 0)) (consA (xmk "BadLine" (rd 0)) (nilA)))))))))))))))
def F__law_kinds : FT := denDef 2 (seqS (setF 1 (lstF (consA (op2 (isX esB subB isiR) (oN 0) (oE (cst (.cls "BadRatio")))) (consA (op2 (isX esB subB isiR) (oN 0) (oE (cst (.cls "BadText")))) (consA (op2 (isX esB subB isiR) (oN 0) (oE (cst (.cls "BadSum")))) (nilA))))))
    (seqS (setS 1 (op2 addR (oN 1) (oE (frz (lstF (consA (op2 (isX esB subB isiR) (oN 0) (oE (cst (.cls "NoUnknown")))) (consA (op2 (isX esB subB isiR) (oN 0) (oE (cst (.cls "BadPoint")))) (consA (op2 (isX esB subB isiR) (oN 0) (oE (cst (.cls "Missing")))) (nilA)))))))))
    (seqS (setS 1 (op2 addR (oN 1) (oE (frz (lstF (consA (op2 (isX esB subB isiR) (oN 0) (oE (cst (.cls "BadClaim")))) (consA (op2 (isX esB subB isiR) (oN 0) (oE (cst (.cls "TooMany")))) (consA (op2 (isX esB subB isiR) (oN 0) (oE (cst (.cls "BadPage")))) (nilA)))))))))
    (seqS (setS 1 (op2 addR (oN 1) (oE (frz (lstF (consA (op2 (isX esB subB isiR) (oN 0) (oE (cst (.cls "NoLine")))) (consA (op2 (isX esB subB isiR) (oN 0) (oE (cst (.cls "BadState")))) (consA (op2 (isX esB subB isiR) (oN 0) (oE (cst (.cls "BadContents")))) (nilA)))))))))
    (seqS (setS 1 (op2 addR (oN 1) (oE (frz (lstF (consA (op2 (isX esB subB isiR) (oN 0) (oE (cst (.cls "BadPlace")))) (consA (op2 (isX esB subB isiR) (oN 0) (oE (cst (.cls "BadEvents")))) (consA (op2 (isX esB subB isiR) (oN 0) (oE (cst (.cls "BadRow")))) (nilA)))))))))
    (seqS (setS 1 (op2 addR (oN 1) (oE (frz (lstF (consA (op2 (isX esB subB isiR) (oN 0) (oE (cst (.cls "NoWay")))) (consA (op2 (isX esB subB isiR) (oN 0) (oE (cst (.cls "BadCount")))) (consA (op2 (isX esB subB isiR) (oN 0) (oE (cst (.cls "Unlike")))) (nilA)))))))))
    (seqS (setS 1 (op2 addR (oN 1) (oE (frz (lstF (consA (op2 (isX esB subB isiR) (oN 0) (oE (cst (.cls "BadLogs")))) (consA (op2 (isX esB subB isiR) (oN 0) (oE (cst (.cls "BadWishes")))) (consA (op2 (isX esB subB isiR) (oN 0) (oE (cst (.cls "BadOffers")))) (nilA)))))))))
    (seqS (setS 1 (op2 addR (oN 1) (oE (frz (lstF (consA (op2 (isX esB subB isiR) (oN 0) (oE (cst (.cls "NotThere")))) (consA (op2 (isX esB subB isiR) (oN 0) (oE (cst (.cls "NoSize")))) (consA (op2 (isX esB subB isiR) (oN 0) (oE (cst (.cls "BadSize")))) (nilA)))))))))
    (seqS (setS 1 (op2 addR (oN 1) (oE (frz (lstF (consA (op2 (isX esB subB isiR) (oN 0) (oE (cst (.cls "Nowhere")))) (consA (op2 (isX esB subB isiR) (oN 0) (oE (cst (.cls "NothingToUndo")))) (consA (op2 (isX esB subB isiR) (oN 0) (oE (cst (.cls "NothingToRedo")))) (nilA)))))))))
    (retS (hnd (op2 addR (oN 1) (oE (frz (lstF (consA (op2 (isX esB subB isiR) (oN 0) (oE (cst (.cls "BadJournal")))) (consA (op2 (isX esB subB isiR) (oN 0) (oE (cst (.cls "BadLine")))) (nilA))))))))))))))))))
def F__law_right : FT := denDef 10 (seqS (setF 1 (callN 1 F__law_value (lenR 0 (nilR))))
    (seqS (setF 2 (callN 1 F__law_all (consR (rd 1) (nilR))))
    (seqS (forS (enuM (rd 2)) (tgTup (tgCons (tgN 4) (tgCons (tgN 5) (tgNil))) 2) (seqS (ifS (orM (tst (op2 neP (oE (un1 reprA (oE (un1 (excV esB) (oN 5))))) (oE (un1 reprA (oN 1))))) (tst (op2 neP (oE (frz (callN 1 F__law_kinds (consR (rd 5) (nilR))))) (oE (frz (compF [9] (rng1 (un1 lenP (oN 2))) (tgN 9) (yesM) (op2 eqP (oN 9) (oN 4)))))))) (retS (hnd (cst (.bl false)))) (fun ρ => .nx ρ))
    (ifS (orM (notM (tst (op2 (isX esB subB isiR) (oN 5) (oE (cst (.cls "HoverError")))))) (notM (tst (op2 (isX esB subB isiR) (oN 5) (oE (cst (.ty "ValueError"))))))) (retS (hnd (cst (.bl false)))) (fun ρ => .nx ρ))))
    (seqS (par3S 6 7 8 (xmk "HoverError" (rd 1)) (cst .non) (frz (callN 2 F__law_take (lenR 0 (consR (cst (.int 4)) (nilR))))))
    (seqS (keepS esB 3 7 (seqS (ifS (tst (op2 eqP (oN 8) (oE (cst (.int 0))))) (raiseS "NoSize" (rd 1)) (fun ρ => .nx ρ))
    (seqS (ifS (tst (op2 eqP (oN 8) (oE (cst (.int 1))))) (raiseS "BadText" (rd 1)) (fun ρ => .nx ρ))
    (raiseS "BadJournal" (rd 1)))))
    (seqS (ifS (orM (tst (op2 isP (oN 7) (oE (cst .non)))) (tst (op2 neP (oE (un1 reprA (oE (un1 (excV esB) (oN 7))))) (oE (un1 reprA (oN 1)))))) (retS (hnd (cst (.bl false)))) (fun ρ => .nx ρ))
    (retS (hnd (andE (op2 eqP (oE (un1 reprA (oE (un1 (excV esB) (oN 6))))) (oE (un1 reprA (oN 1)))) (andE (op2 (isX esB subB isiR) (oN 6) (oE (cst (.ty "ValueError")))) (notE (un1 anyP (oE (frz (callN 1 F__law_kinds (consR (rd 6) (nilR)))))))))))))))))
def F_law : FT := denDef 2 (retS (hnd (un1 allP (oE (frz (compF [1] (rng1 (op2 maxP (oE (cst (.int 1))) (oE (op2 minP (oE (cst (.int 3))) (oE (un1 lenP (oN 0))))))) (tgN 1) (yesM) (frz (call1M F__law_right (callN 2 F__law_pot (consR (rd 0) (consR (rd 1) (nilR))))))))))))
end Dv
namespace Dv
open PySem PySem.Spec PyProof.Rows L2 Hv HvT HvP HvE
section
variable {P : Program} {w : World} {K : PySem.W.Frag} {mg : Str → Option Value} {base : Heap} {fd : FuncData} {cs : List Addr}
theorem em_BadClaim : ("BadClaim" : PySem.Str) ∈ errs := by decide +kernel
theorem em_BadContents : ("BadContents" : PySem.Str) ∈ errs := by decide +kernel
theorem em_BadCount : ("BadCount" : PySem.Str) ∈ errs := by decide +kernel
theorem em_BadEvents : ("BadEvents" : PySem.Str) ∈ errs := by decide +kernel
theorem em_BadJournal : ("BadJournal" : PySem.Str) ∈ errs := by decide +kernel
theorem em_BadLine : ("BadLine" : PySem.Str) ∈ errs := by decide +kernel
theorem em_BadLogs : ("BadLogs" : PySem.Str) ∈ errs := by decide +kernel
theorem em_BadOffers : ("BadOffers" : PySem.Str) ∈ errs := by decide +kernel
theorem em_BadPage : ("BadPage" : PySem.Str) ∈ errs := by decide +kernel
theorem em_BadPlace : ("BadPlace" : PySem.Str) ∈ errs := by decide +kernel
theorem em_BadPoint : ("BadPoint" : PySem.Str) ∈ errs := by decide +kernel
theorem em_BadRatio : ("BadRatio" : PySem.Str) ∈ errs := by decide +kernel
theorem em_BadRow : ("BadRow" : PySem.Str) ∈ errs := by decide +kernel
theorem em_BadSize : ("BadSize" : PySem.Str) ∈ errs := by decide +kernel
theorem em_BadState : ("BadState" : PySem.Str) ∈ errs := by decide +kernel
theorem em_BadSum : ("BadSum" : PySem.Str) ∈ errs := by decide +kernel
theorem em_BadText : ("BadText" : PySem.Str) ∈ errs := by decide +kernel
theorem em_BadWishes : ("BadWishes" : PySem.Str) ∈ errs := by decide +kernel
theorem em_HoverError : ("HoverError" : PySem.Str) ∈ errs := by decide +kernel
theorem em_Missing : ("Missing" : PySem.Str) ∈ errs := by decide +kernel
theorem em_NoLine : ("NoLine" : PySem.Str) ∈ errs := by decide +kernel
theorem em_NoSize : ("NoSize" : PySem.Str) ∈ errs := by decide +kernel
theorem em_NoUnknown : ("NoUnknown" : PySem.Str) ∈ errs := by decide +kernel
theorem em_NoWay : ("NoWay" : PySem.Str) ∈ errs := by decide +kernel
theorem em_NotThere : ("NotThere" : PySem.Str) ∈ errs := by decide +kernel
theorem em_NothingToRedo : ("NothingToRedo" : PySem.Str) ∈ errs := by decide +kernel
theorem em_NothingToUndo : ("NothingToUndo" : PySem.Str) ∈ errs := by decide +kernel
theorem em_Nowhere : ("Nowhere" : PySem.Str) ∈ errs := by decide +kernel
theorem em_TooMany : ("TooMany" : PySem.Str) ∈ errs := by decide +kernel
theorem em_Unlike : ("Unlike" : PySem.Str) ∈ errs := by decide +kernel
theorem ok__law_pot (B : Blt mg) (R : RW K mg cs) (O : ROps P w K mg base) (Oa : RMt P w K mg base "__abs__" fun p => if p < 0 then -p else p) (Fd : FD K d__law_pot fd) : FnG P w K mg base 8 (d__law_pot.at_ K) (spN K 2 F__law_pot) :=
  okD Fd s__law_pot (FunD.bindsN Fd fun _ _ _ _ _ _ us hl => match us, hl with | [_, _], _ => rfl) rfl fun cdv A outer s H E hr => by
  have S := s__law_pot
  exact denb_cons (dens_set 2 rfl S.nd (by first | exact .inl rfl | exact .inr rfl) (den_if (dent_cmp (deno_n 1 (pv 1)) (deno (den_len B (deno_n 0 (pv 0)))) (opd_ltR O.lt R hr (by decide))) (den_ix (deno_n 0 (pv 0)) (deno_n 1 (pv 1)) (opd_ixA hr)) (den_op (deno (den_op (deno (den_int)) (deno_n 1 (pv 1)) (opd_mulR O.mul R hr (by decide)))) (deno (den_int)) (opd_addR O.add R hr (by decide)))))
    (denb_cons (dens_set 3 rfl S.nd (by first | exact .inl rfl | exact .inr rfl) (den_op (deno (den_op (deno (den_intf B (deno (den_absR B Oa hr (by decide) (deno_n 2 (pv 2)))))) (deno (den_op (deno (den_op (deno (den_int)) (deno (den_int)) opd_pow)) (deno (den_int)) opd_pow)) opd_mod)) (deno (den_intf B (deno (den_cmp (deno (den_absR B Oa hr (by decide) (deno_n 2 (pv 2)))) (deno (den_op (deno (den_int)) (deno (den_int)) opd_pow)) (opd_geR O.ge R hr (by decide)))))) (opd_mulR O.mul R hr (by decide))))
    (denb_cons (dens_set 4 rfl S.nd (by first | exact .inl rfl | exact .inr rfl) (den_op (deno (den_intf B (deno_n 2 (pv 2)))) (deno (den_int)) opd_mod))
    (denb_one (dens_ret (denf_lst (dena_cons (den_rd 3 (pv 3)) (dena_cons (den_op (deno (den_intf B (deno (den_op (deno (den_op (deno (den_op (deno_n 4 (pv 4)) (deno (den_int)) (opd_mulR O.mul R hr (by decide)))) (deno (den_op (deno (den_op (deno (den_int)) (deno_n 1 (pv 1)) (opd_mulR O.mul R hr (by decide)))) (deno_n 1 (pv 1)) (opd_mulR O.mul R hr (by decide)))) (opd_addR O.add R hr (by decide)))) (deno (den_int)) (opd_addR O.add R hr (by decide)))))) (deno (den_int)) opd_mod) (dena_cons (den_int) (dena_nil)))))))))
theorem ok__law_take (B : Blt mg) (R : RW K mg cs) (O : ROps P w K mg base) (Fd : FD K d__law_take fd) : FnG P w K mg base 7 (d__law_take.at_ K) (spN K 2 F__law_take) :=
  okD Fd s__law_take (FunD.bindsN Fd fun _ _ _ _ _ _ us hl => match us, hl with | [_, _], _ => rfl) rfl fun cdv A outer s H E hr => by
  have S := s__law_take
  exact denb_cons (dens_if (dent_cmp (deno (den_ix (deno_n 0 (pv 0)) (deno (den_int)) (opd_ixA hr))) (deno (den_int)) (opd_gtR O.gt R hr (by decide))) (denb_cons (dens_set 4 rfl S.nd (by first | exact .inl rfl | exact .inr rfl) (den_op (deno (den_intf B (deno (den_ix (deno_n 0 (pv 0)) (deno (den_int)) (opd_ixA hr))))) (deno_n 1 (pv 1)) opd_mod))
    (denb_cons (dens_store 0 (pv 0) hr (den_op (deno (den_ix (deno_n 0 (pv 0)) (deno (den_int)) (opd_ixA hr))) (deno_n 1 (pv 1)) opd_fdv) (den_int))
    (denb_one (dens_ret (denf (den_rd 4 (pv 4))))))) (denb_nil))
    (denb_cons (dens_store 0 (pv 0) hr (den_op (deno (den_ix (deno_n 0 (pv 0)) (deno (den_int)) (opd_ixA hr))) (deno (den_int)) (opd_addR O.add R hr (by decide))) (den_int))
    (denb_cons (dens_set 2 rfl S.nd (by first | exact .inl rfl | exact .inr rfl) (den_ix (deno (den_frz (denf_lst (dena_cons (den_int) (dena_cons (den_int) (dena_cons (den_int) (dena_cons (den_int) (dena_cons (den_int) (dena_nil))))))))) (deno (den_op (deno (den_intf B (deno (den_ix (deno_n 0 (pv 0)) (deno (den_int)) (opd_ixA hr))))) (deno (den_int)) opd_mod)) (opd_ixA hr)))
    (denb_cons (dens_set 3 rfl S.nd (by first | exact .inl rfl | exact .inr rfl) (den_op (deno (den_intf B (deno (den_op (deno (den_intf B (deno (den_op (deno (den_op (deno (den_ix (deno_n 0 (pv 0)) (deno (den_int)) (opd_ixA hr))) (deno (den_op (deno (den_op (deno (den_int)) (deno (den_ix (deno_n 0 (pv 0)) (deno (den_int)) (opd_ixA hr))) (opd_mulR O.mul R hr (by decide)))) (deno (den_ix (deno_n 0 (pv 0)) (deno (den_int)) (opd_ixA hr))) (opd_mulR O.mul R hr (by decide)))) (opd_addR O.add R hr (by decide)))) (deno (den_int)) (opd_addR O.add R hr (by decide)))))) (deno (den_int)) opd_pow)))) (deno_n 2 (pv 2)) opd_mod))
    (denb_cons (dens_set 3 rfl S.nd (by first | exact .inl rfl | exact .inr rfl) (den_op (deno (den_intf B (deno (den_op (deno_n 3 (pv 3)) (deno (den_op (deno (den_op (deno (den_intf B (deno_n 3 (pv 3)))) (deno (den_int)) opd_mod)) (deno (den_op (deno (den_int)) (deno (den_ix (deno_n 0 (pv 0)) (deno (den_int)) (opd_ixA hr))) (opd_mulR O.mul R hr (by decide)))) (opd_addR O.add R hr (by decide)))) (opd_mulR O.mul R hr (by decide)))))) (deno (den_int)) opd_mod))
    (denb_one (dens_ret (denf (den_op (deno (den_intf B (deno (den_op (deno_n 3 (pv 3)) (deno (den_int)) opd_fdv)))) (deno_n 1 (pv 1)) opd_mod))))))))
theorem ok__law_of (B : Blt mg) (R : RW K mg cs) (O : ROps P w K mg base) (g__law_take : GF P w K mg base 7 "_law_take" (spN K 2 F__law_take)) (Fd : FD K d__law_of fd) : FnG P w K mg base 8 (d__law_of.at_ K) (spN K 2 F__law_of) :=
  okD Fd s__law_of (FunD.bindsN Fd fun _ _ _ _ _ _ us hl => match us, hl with | [_, _], _ => rfl) rfl fun cdv A outer s H E hr => by
  have S := s__law_of
  exact denb_one (dens_ret (denf (den_ix (deno_n 1 (pv 1)) (deno (den_frz (denf_call g__law_take hr (takes_of rfl rfl rfl rfl) (denr_lent 0 (pv 0) (denr_cons (den_len B (deno_n 1 (pv 1))) (denr_nil)))))) (opd_ixA hr))))
theorem ok__law_odd (B : Blt mg) (R : RW K mg cs) (O : ROps P w K mg base) (g__law_of : GF P w K mg base 8 "_law_of" (spN K 2 F__law_of)) (Fd : FD K d__law_odd fd) : FnG P w K mg base 9 (d__law_odd.at_ K) (spN K 1 F__law_odd) :=
  okD Fd s__law_odd (FunD.bindsN Fd fun _ _ _ _ _ _ us hl => match us, hl with | [_], _ => rfl) rfl fun cdv A outer s H E hr => by
  have S := s__law_odd
  exact denb_cons (dens_setF 1 rfl S.nd (by first | exact .inl rfl | exact .inr rfl) (denf_lst (dena_cons (den_non) (dena_cons (den_bl) (dena_cons (den_bl) (dena_cons (den_str) (dena_cons (den_str) (dena_cons (den_str) (dena_cons (den_str) (dena_cons (den_str) (dena_cons (den_str) (dena_cons (den_str) (dena_cons (den_str) (dena_cons (den_str) (dena_cons (den_str) (dena_cons (den_tup (dena_nil)) (dena_cons (den_frz (denf_lst (dena_nil))) (dena_cons (den_frz (denf_dic0)) (dena_cons (den_tup (dena_cons (den_int) (dena_nil))) (dena_cons (den_frz (denf_lst (dena_cons (den_int) (dena_nil)))) (dena_nil)))))))))))))))))))))
    (denb_one (dens_ret (denf_call g__law_of hr (takes_of rfl rfl rfl rfl) (denr_lent 0 (pv 0) (denr_cons (den_op (deno_n 1 (pv 1)) (deno (den_frz (denf_lst (dena_cons (den_tup (dena_cons (den_tup (dena_nil)) (dena_nil))) (dena_cons (den_tup (dena_cons (den_tup (dena_cons (den_str) (dena_cons (den_int) (dena_nil)))) (dena_nil))) (dena_cons (den_frz (denf_dic (denp_cons (den_str) (den_int) (denp_nil)))) (dena_cons (den_tup (dena_cons (den_str) (dena_cons (den_int) (dena_nil)))) (dena_cons (den_tup (dena_cons (den_non) (dena_nil))) (dena_cons (den_frz (denf_lst (dena_cons (den_str) (dena_nil)))) (dena_cons (den_tup (dena_cons (den_tup (dena_cons (den_bl) (dena_cons (den_int) (dena_nil)))) (dena_nil))) (dena_cons (den_tup (dena_cons (den_int) (dena_cons (den_int) (dena_cons (den_int) (dena_nil))))) (dena_nil)))))))))))) (opd_addR O.add R hr (by decide))) (denr_nil))))))
theorem ok__law_value (B : Blt mg) (R : RW K mg cs) (O : ROps P w K mg base) (g__law_take : GF P w K mg base 7 "_law_take" (spN K 2 F__law_take)) (g__law_odd : GF P w K mg base 9 "_law_odd" (spN K 1 F__law_odd)) (g__law_of : GF P w K mg base 8 "_law_of" (spN K 2 F__law_of)) (g2 : GM P w K mg base 2 "Ratio" (sp_mk2 K)) (Fd : FD K d__law_value fd) : FnG P w K mg base 10 (d__law_value.at_ K) (spN K 1 F__law_value) :=
  okD Fd s__law_value (FunD.bindsN Fd fun _ _ _ _ _ _ us hl => match us, hl with | [_], _ => rfl) rfl fun cdv A outer s H E hr => by
  have S := s__law_value
  exact denb_cons (dens_setF 1 rfl S.nd (by first | exact .inl rfl | exact .inr rfl) (denf_lst (dena_cons (den_frz (denf_call g__law_odd hr (takes_of rfl rfl rfl rfl) (denr_lent 0 (pv 0) (denr_nil)))) (dena_cons (den_tup (dena_cons (den_frz (denf_call g__law_odd hr (takes_of rfl rfl rfl rfl) (denr_lent 0 (pv 0) (denr_nil)))) (dena_cons (den_frz (denf_call g__law_odd hr (takes_of rfl rfl rfl rfl) (denr_lent 0 (pv 0) (denr_nil)))) (dena_nil)))) (dena_cons (den_frz (denf_lst (dena_cons (den_frz (denf_call g__law_odd hr (takes_of rfl rfl rfl rfl) (denr_lent 0 (pv 0) (denr_nil)))) (dena_nil)))) (dena_cons (den_frz (denf_call g__law_take hr (takes_of rfl rfl rfl rfl) (denr_lent 0 (pv 0) (denr_cons (den_int) (denr_nil))))) (dena_cons (den_str) (dena_cons (den_mk2 g2 hr (by decide) (deno (den_int)) (deno (den_int))) (dena_nil)))))))))
    (denb_one (dens_ret (denf_call g__law_of hr (takes_of rfl rfl rfl rfl) (denr_lent 0 (pv 0) (denr_cons (den_op (deno_n 1 (pv 1)) (deno (den_frz (denf_lst (dena_cons (den_frz (denf_dic (denp_cons (den_str) (den_frz (denf_call g__law_odd hr (takes_of rfl rfl rfl rfl) (denr_lent 0 (pv 0) (denr_nil)))) (denp_nil)))) (dena_cons (den_tup (dena_cons (den_tup (dena_cons (den_str) (dena_cons (den_int) (dena_nil)))) (dena_nil))) (dena_cons (den_un (deno (den_int)) und_neg) (dena_cons (den_int) (dena_nil)))))))) (opd_addR O.add R hr (by decide))) (denr_nil))))))
theorem ok__law_all (B : Blt mg) (R : RW K mg cs) (O : ROps P w K mg base) (c_BadClaim : mg "BadClaim" = some (.ref (He.ga K "BadClaim"))) (c_BadContents : mg "BadContents" = some (.ref (He.ga K "BadContents"))) (c_BadCount : mg "BadCount" = some (.ref (He.ga K "BadCount"))) (c_BadEvents : mg "BadEvents" = some (.ref (He.ga K "BadEvents"))) (c_BadJournal : mg "BadJournal" = some (.ref (He.ga K "BadJournal"))) (c_BadLine : mg "BadLine" = some (.ref (He.ga K "BadLine"))) (c_BadLogs : mg "BadLogs" = some (.ref (He.ga K "BadLogs"))) (c_BadOffers : mg "BadOffers" = some (.ref (He.ga K "BadOffers"))) (c_BadPage : mg "BadPage" = some (.ref (He.ga K "BadPage"))) (c_BadPlace : mg "BadPlace" = some (.ref (He.ga K "BadPlace"))) (c_BadPoint : mg "BadPoint" = some (.ref (He.ga K "BadPoint"))) (c_BadRatio : mg "BadRatio" = some (.ref (He.ga K "BadRatio"))) (c_BadRow : mg "BadRow" = some (.ref (He.ga K "BadRow"))) (c_BadSize : mg "BadSize" = some (.ref (He.ga K "BadSize"))) (c_BadState : mg "BadState" = some (.ref (He.ga K "BadState"))) (c_BadSum : mg "BadSum" = some (.ref (He.ga K "BadSum"))) (c_BadText : mg "BadText" = some (.ref (He.ga K "BadText"))) (c_BadWishes : mg "BadWishes" = some (.ref (He.ga K "BadWishes"))) (c_Missing : mg "Missing" = some (.ref (He.ga K "Missing"))) (c_NoLine : mg "NoLine" = some (.ref (He.ga K "NoLine"))) (c_NoSize : mg "NoSize" = some (.ref (He.ga K "NoSize"))) (c_NoUnknown : mg "NoUnknown" = some (.ref (He.ga K "NoUnknown"))) (c_NoWay : mg "NoWay" = some (.ref (He.ga K "NoWay"))) (c_NotThere : mg "NotThere" = some (.ref (He.ga K "NotThere"))) (c_NothingToRedo : mg "NothingToRedo" = some (.ref (He.ga K "NothingToRedo"))) (c_NothingToUndo : mg "NothingToUndo" = some (.ref (He.ga K "NothingToUndo"))) (c_Nowhere : mg "Nowhere" = some (.ref (He.ga K "Nowhere"))) (c_TooMany : mg "TooMany" = some (.ref (He.ga K "TooMany"))) (c_Unlike : mg "Unlike" = some (.ref (He.ga K "Unlike"))) (EW : ErrW P K errs) (Fd : FD K d__law_all fd) : FnG P w K mg base 7 (d__law_all.at_ K) (spN K 1 F__law_all) :=
  okD Fd s__law_all (FunD.bindsN Fd fun _ _ _ _ _ _ us hl => match us, hl with | [_], _ => rfl) rfl fun cdv A outer s H E hr => by
  have S := s__law_all
  exact denb_cons (dens_setF 1 rfl S.nd (by first | exact .inl rfl | exact .inr rfl) (denf_lst (dena_cons (den_xmk EW.hov (EW.exc _ em_BadRatio) c_BadRatio (hr.mono (by decide)) (den_rd 0 (pv 0))) (dena_cons (den_xmk EW.hov (EW.exc _ em_BadText) c_BadText (hr.mono (by decide)) (den_rd 0 (pv 0))) (dena_cons (den_xmk EW.hov (EW.exc _ em_BadSum) c_BadSum (hr.mono (by decide)) (den_rd 0 (pv 0))) (dena_cons (den_xmk EW.hov (EW.exc _ em_NoUnknown) c_NoUnknown (hr.mono (by decide)) (den_rd 0 (pv 0))) (dena_cons (den_xmk EW.hov (EW.exc _ em_BadPoint) c_BadPoint (hr.mono (by decide)) (den_rd 0 (pv 0))) (dena_cons (den_xmk EW.hov (EW.exc _ em_Missing) c_Missing (hr.mono (by decide)) (den_rd 0 (pv 0))) (dena_nil)))))))))
    (denb_cons (dens_set 1 rfl S.nd (by first | exact .inl rfl | exact .inr rfl) (den_op (deno_n 1 (pv 1)) (deno (den_frz (denf_lst (dena_cons (den_xmk EW.hov (EW.exc _ em_BadClaim) c_BadClaim (hr.mono (by decide)) (den_rd 0 (pv 0))) (dena_cons (den_xmk EW.hov (EW.exc _ em_TooMany) c_TooMany (hr.mono (by decide)) (den_rd 0 (pv 0))) (dena_cons (den_xmk EW.hov (EW.exc _ em_BadPage) c_BadPage (hr.mono (by decide)) (den_rd 0 (pv 0))) (dena_cons (den_xmk EW.hov (EW.exc _ em_NoLine) c_NoLine (hr.mono (by decide)) (den_rd 0 (pv 0))) (dena_cons (den_xmk EW.hov (EW.exc _ em_BadState) c_BadState (hr.mono (by decide)) (den_rd 0 (pv 0))) (dena_nil))))))))) (opd_addR O.add R hr (by decide))))
    (denb_cons (dens_set 1 rfl S.nd (by first | exact .inl rfl | exact .inr rfl) (den_op (deno_n 1 (pv 1)) (deno (den_frz (denf_lst (dena_cons (den_xmk EW.hov (EW.exc _ em_BadContents) c_BadContents (hr.mono (by decide)) (den_rd 0 (pv 0))) (dena_cons (den_xmk EW.hov (EW.exc _ em_BadPlace) c_BadPlace (hr.mono (by decide)) (den_rd 0 (pv 0))) (dena_cons (den_xmk EW.hov (EW.exc _ em_BadEvents) c_BadEvents (hr.mono (by decide)) (den_rd 0 (pv 0))) (dena_cons (den_xmk EW.hov (EW.exc _ em_BadRow) c_BadRow (hr.mono (by decide)) (den_rd 0 (pv 0))) (dena_cons (den_xmk EW.hov (EW.exc _ em_NoWay) c_NoWay (hr.mono (by decide)) (den_rd 0 (pv 0))) (dena_nil))))))))) (opd_addR O.add R hr (by decide))))
    (denb_cons (dens_set 1 rfl S.nd (by first | exact .inl rfl | exact .inr rfl) (den_op (deno_n 1 (pv 1)) (deno (den_frz (denf_lst (dena_cons (den_xmk EW.hov (EW.exc _ em_BadCount) c_BadCount (hr.mono (by decide)) (den_rd 0 (pv 0))) (dena_cons (den_xmk EW.hov (EW.exc _ em_Unlike) c_Unlike (hr.mono (by decide)) (den_rd 0 (pv 0))) (dena_cons (den_xmk EW.hov (EW.exc _ em_BadLogs) c_BadLogs (hr.mono (by decide)) (den_rd 0 (pv 0))) (dena_cons (den_xmk EW.hov (EW.exc _ em_BadWishes) c_BadWishes (hr.mono (by decide)) (den_rd 0 (pv 0))) (dena_cons (den_xmk EW.hov (EW.exc _ em_BadOffers) c_BadOffers (hr.mono (by decide)) (den_rd 0 (pv 0))) (dena_nil))))))))) (opd_addR O.add R hr (by decide))))
    (denb_cons (dens_set 1 rfl S.nd (by first | exact .inl rfl | exact .inr rfl) (den_op (deno_n 1 (pv 1)) (deno (den_frz (denf_lst (dena_cons (den_xmk EW.hov (EW.exc _ em_NotThere) c_NotThere (hr.mono (by decide)) (den_rd 0 (pv 0))) (dena_cons (den_xmk EW.hov (EW.exc _ em_NoSize) c_NoSize (hr.mono (by decide)) (den_rd 0 (pv 0))) (dena_cons (den_xmk EW.hov (EW.exc _ em_BadSize) c_BadSize (hr.mono (by decide)) (den_rd 0 (pv 0))) (dena_cons (den_xmk EW.hov (EW.exc _ em_Nowhere) c_Nowhere (hr.mono (by decide)) (den_rd 0 (pv 0))) (dena_cons (den_xmk EW.hov (EW.exc _ em_NothingToUndo) c_NothingToUndo (hr.mono (by decide)) (den_rd 0 (pv 0))) (dena_nil))))))))) (opd_addR O.add R hr (by decide))))
    (denb_one (dens_ret (denf (den_op (deno_n 1 (pv 1)) (deno (den_frz (denf_lst (dena_cons (den_xmk EW.hov (EW.exc _ em_NothingToRedo) c_NothingToRedo (hr.mono (by decide)) (den_rd 0 (pv 0))) (dena_cons (den_xmk EW.hov (EW.exc _ em_BadJournal) c_BadJournal (hr.mono (by decide)) (den_rd 0 (pv 0))) (dena_cons (den_xmk EW.hov (EW.exc _ em_BadLine) c_BadLine (hr.mono (by decide)) (den_rd 0 (pv 0))) (dena_nil))))))) (opd_addR O.add R hr (by decide))))))))))
theorem ok__law_kinds (B : Blt mg) (R : RW K mg cs) (O : ROps P w K mg base) (c_BadClaim : mg "BadClaim" = some (.ref (He.ga K "BadClaim"))) (c_BadContents : mg "BadContents" = some (.ref (He.ga K "BadContents"))) (c_BadCount : mg "BadCount" = some (.ref (He.ga K "BadCount"))) (c_BadEvents : mg "BadEvents" = some (.ref (He.ga K "BadEvents"))) (c_BadJournal : mg "BadJournal" = some (.ref (He.ga K "BadJournal"))) (c_BadLine : mg "BadLine" = some (.ref (He.ga K "BadLine"))) (c_BadLogs : mg "BadLogs" = some (.ref (He.ga K "BadLogs"))) (c_BadOffers : mg "BadOffers" = some (.ref (He.ga K "BadOffers"))) (c_BadPage : mg "BadPage" = some (.ref (He.ga K "BadPage"))) (c_BadPlace : mg "BadPlace" = some (.ref (He.ga K "BadPlace"))) (c_BadPoint : mg "BadPoint" = some (.ref (He.ga K "BadPoint"))) (c_BadRatio : mg "BadRatio" = some (.ref (He.ga K "BadRatio"))) (c_BadRow : mg "BadRow" = some (.ref (He.ga K "BadRow"))) (c_BadSize : mg "BadSize" = some (.ref (He.ga K "BadSize"))) (c_BadState : mg "BadState" = some (.ref (He.ga K "BadState"))) (c_BadSum : mg "BadSum" = some (.ref (He.ga K "BadSum"))) (c_BadText : mg "BadText" = some (.ref (He.ga K "BadText"))) (c_BadWishes : mg "BadWishes" = some (.ref (He.ga K "BadWishes"))) (c_Missing : mg "Missing" = some (.ref (He.ga K "Missing"))) (c_NoLine : mg "NoLine" = some (.ref (He.ga K "NoLine"))) (c_NoSize : mg "NoSize" = some (.ref (He.ga K "NoSize"))) (c_NoUnknown : mg "NoUnknown" = some (.ref (He.ga K "NoUnknown"))) (c_NoWay : mg "NoWay" = some (.ref (He.ga K "NoWay"))) (c_NotThere : mg "NotThere" = some (.ref (He.ga K "NotThere"))) (c_NothingToRedo : mg "NothingToRedo" = some (.ref (He.ga K "NothingToRedo"))) (c_NothingToUndo : mg "NothingToUndo" = some (.ref (He.ga K "NothingToUndo"))) (c_Nowhere : mg "Nowhere" = some (.ref (He.ga K "Nowhere"))) (c_TooMany : mg "TooMany" = some (.ref (He.ga K "TooMany"))) (c_Unlike : mg "Unlike" = some (.ref (He.ga K "Unlike"))) (EW : ErrW P K errs) (Fd : FD K d__law_kinds fd) : FnG P w K mg base 7 (d__law_kinds.at_ K) (spN K 1 F__law_kinds) :=
  okD Fd s__law_kinds (FunD.bindsN Fd fun _ _ _ _ _ _ us hl => match us, hl with | [_], _ => rfl) rfl fun cdv A outer s H E hr => by
  have S := s__law_kinds
  exact denb_cons (dens_setF 1 rfl S.nd (by first | exact .inl rfl | exact .inr rfl) (denf_lst (dena_cons (den_isX B R EW.isw (deno_n 0 (pv 0)) (deno (den_cls c_BadRatio))) (dena_cons (den_isX B R EW.isw (deno_n 0 (pv 0)) (deno (den_cls c_BadText))) (dena_cons (den_isX B R EW.isw (deno_n 0 (pv 0)) (deno (den_cls c_BadSum))) (dena_nil))))))
    (denb_cons (dens_set 1 rfl S.nd (by first | exact .inl rfl | exact .inr rfl) (den_op (deno_n 1 (pv 1)) (deno (den_frz (denf_lst (dena_cons (den_isX B R EW.isw (deno_n 0 (pv 0)) (deno (den_cls c_NoUnknown))) (dena_cons (den_isX B R EW.isw (deno_n 0 (pv 0)) (deno (den_cls c_BadPoint))) (dena_cons (den_isX B R EW.isw (deno_n 0 (pv 0)) (deno (den_cls c_Missing))) (dena_nil))))))) (opd_addR O.add R hr (by decide))))
    (denb_cons (dens_set 1 rfl S.nd (by first | exact .inl rfl | exact .inr rfl) (den_op (deno_n 1 (pv 1)) (deno (den_frz (denf_lst (dena_cons (den_isX B R EW.isw (deno_n 0 (pv 0)) (deno (den_cls c_BadClaim))) (dena_cons (den_isX B R EW.isw (deno_n 0 (pv 0)) (deno (den_cls c_TooMany))) (dena_cons (den_isX B R EW.isw (deno_n 0 (pv 0)) (deno (den_cls c_BadPage))) (dena_nil))))))) (opd_addR O.add R hr (by decide))))
    (denb_cons (dens_set 1 rfl S.nd (by first | exact .inl rfl | exact .inr rfl) (den_op (deno_n 1 (pv 1)) (deno (den_frz (denf_lst (dena_cons (den_isX B R EW.isw (deno_n 0 (pv 0)) (deno (den_cls c_NoLine))) (dena_cons (den_isX B R EW.isw (deno_n 0 (pv 0)) (deno (den_cls c_BadState))) (dena_cons (den_isX B R EW.isw (deno_n 0 (pv 0)) (deno (den_cls c_BadContents))) (dena_nil))))))) (opd_addR O.add R hr (by decide))))
    (denb_cons (dens_set 1 rfl S.nd (by first | exact .inl rfl | exact .inr rfl) (den_op (deno_n 1 (pv 1)) (deno (den_frz (denf_lst (dena_cons (den_isX B R EW.isw (deno_n 0 (pv 0)) (deno (den_cls c_BadPlace))) (dena_cons (den_isX B R EW.isw (deno_n 0 (pv 0)) (deno (den_cls c_BadEvents))) (dena_cons (den_isX B R EW.isw (deno_n 0 (pv 0)) (deno (den_cls c_BadRow))) (dena_nil))))))) (opd_addR O.add R hr (by decide))))
    (denb_cons (dens_set 1 rfl S.nd (by first | exact .inl rfl | exact .inr rfl) (den_op (deno_n 1 (pv 1)) (deno (den_frz (denf_lst (dena_cons (den_isX B R EW.isw (deno_n 0 (pv 0)) (deno (den_cls c_NoWay))) (dena_cons (den_isX B R EW.isw (deno_n 0 (pv 0)) (deno (den_cls c_BadCount))) (dena_cons (den_isX B R EW.isw (deno_n 0 (pv 0)) (deno (den_cls c_Unlike))) (dena_nil))))))) (opd_addR O.add R hr (by decide))))
    (denb_cons (dens_set 1 rfl S.nd (by first | exact .inl rfl | exact .inr rfl) (den_op (deno_n 1 (pv 1)) (deno (den_frz (denf_lst (dena_cons (den_isX B R EW.isw (deno_n 0 (pv 0)) (deno (den_cls c_BadLogs))) (dena_cons (den_isX B R EW.isw (deno_n 0 (pv 0)) (deno (den_cls c_BadWishes))) (dena_cons (den_isX B R EW.isw (deno_n 0 (pv 0)) (deno (den_cls c_BadOffers))) (dena_nil))))))) (opd_addR O.add R hr (by decide))))
    (denb_cons (dens_set 1 rfl S.nd (by first | exact .inl rfl | exact .inr rfl) (den_op (deno_n 1 (pv 1)) (deno (den_frz (denf_lst (dena_cons (den_isX B R EW.isw (deno_n 0 (pv 0)) (deno (den_cls c_NotThere))) (dena_cons (den_isX B R EW.isw (deno_n 0 (pv 0)) (deno (den_cls c_NoSize))) (dena_cons (den_isX B R EW.isw (deno_n 0 (pv 0)) (deno (den_cls c_BadSize))) (dena_nil))))))) (opd_addR O.add R hr (by decide))))
    (denb_cons (dens_set 1 rfl S.nd (by first | exact .inl rfl | exact .inr rfl) (den_op (deno_n 1 (pv 1)) (deno (den_frz (denf_lst (dena_cons (den_isX B R EW.isw (deno_n 0 (pv 0)) (deno (den_cls c_Nowhere))) (dena_cons (den_isX B R EW.isw (deno_n 0 (pv 0)) (deno (den_cls c_NothingToUndo))) (dena_cons (den_isX B R EW.isw (deno_n 0 (pv 0)) (deno (den_cls c_NothingToRedo))) (dena_nil))))))) (opd_addR O.add R hr (by decide))))
    (denb_one (dens_ret (denf (den_op (deno_n 1 (pv 1)) (deno (den_frz (denf_lst (dena_cons (den_isX B R EW.isw (deno_n 0 (pv 0)) (deno (den_cls c_BadJournal))) (dena_cons (den_isX B R EW.isw (deno_n 0 (pv 0)) (deno (den_cls c_BadLine))) (dena_nil)))))) (opd_addR O.add R hr (by decide))))))))))))))
theorem ok__law_right (B : Blt mg) (R : RW K mg cs) (O : ROps P w K mg base) (g__law_value : GF P w K mg base 10 "_law_value" (spN K 1 F__law_value)) (g__law_all : GF P w K mg base 7 "_law_all" (spN K 1 F__law_all)) (g__law_kinds : GF P w K mg base 7 "_law_kinds" (spN K 1 F__law_kinds)) (g__law_take : GF P w K mg base 7 "_law_take" (spN K 2 F__law_take)) (c_BadJournal : mg "BadJournal" = some (.ref (He.ga K "BadJournal"))) (c_BadText : mg "BadText" = some (.ref (He.ga K "BadText"))) (c_HoverError : mg "HoverError" = some (.ref (He.ga K "HoverError"))) (c_NoSize : mg "NoSize" = some (.ref (He.ga K "NoSize"))) (EW : ErrW P K errs) (VR : RRe P w K mg base) (Fd : FD K d__law_right fd) : FnG P w K mg base 11 (d__law_right.at_ K) (spN K 1 F__law_right) :=
  okD Fd s__law_right (FunD.bindsN Fd fun _ _ _ _ _ _ us hl => match us, hl with | [_], _ => rfl) rfl fun cdv A outer s H E hr => by
  have S := s__law_right
  exact denb_cons (dens_setF 1 rfl S.nd (by first | exact .inl rfl | exact .inr rfl) (denf_call g__law_value hr (takes_of rfl rfl rfl rfl) (denr_lent 0 (pv 0) (denr_nil))))
    (denb_cons (dens_setF 2 rfl S.nd (by first | exact .inl rfl | exact .inr rfl) (denf_call g__law_all hr (takes_of rfl rfl rfl rfl) (denr_cons (den_rd 1 (pv 1)) (denr_nil))))
    (denb_cons (dens_for (passes_of rfl) rfl (deni_enum B (den_rd 2 (pv 2))) (deng_tupC rfl (dengs_cons (deng_n 4 (pg_name S.nd rfl (by first | exact .inl rfl | exact .inr rfl))) (dengs_cons (deng_n 5 (pg_name S.nd rfl (by first | exact .inl rfl | exact .inr rfl))) (dengs_nil))) 2) (denb_cons (dens_if (dent_w (denw_or (dent_cmp (deno (den_reprA B VR EW.sd hr (by decide) (deno (den_excv (fun c h => EW.exc c (of_decide_eq_true h)) (deno_n 5 (pv 5)))))) (deno (den_reprA B VR EW.sd hr (by decide) (deno_n 1 (pv 1)))) (opd_ne hr)) (denw_or1 (dent_cmp (deno (den_frz (denf_call g__law_kinds hr (takes_of rfl rfl rfl rfl) (denr_cons (den_rd 5 (pv 5)) (denr_nil))))) (deno (den_frz (denf_lc (own := [("_law_k", 9)]) rfl S.nd (deni_rng1 B (den_len B (deno_n 2 (pv 2)))) (blkOk_by (by kernel_rfl)) (fun _ _ _ _ _ => deng_n 9 (pg_name S.nd rfl (by first | exact .inl rfl | exact .inr rfl))) (by decide) denifs_nil (fun _ _ _ _ _ => den_cmp (deno_n 9 (pv 9)) (deno_n 4 (pv 4)) (opd_eq hr))))) (opd_ne hr))))) (denb_one (dens_ret (denf (den_bl)))) (denb_nil))
    (denb_one (dens_if (dent_w (denw_or (dent_not (den_tst (den_isX B R EW.isw (deno_n 5 (pv 5)) (deno (den_cls c_HoverError))))) (denw_or1 (dent_not (den_tst (den_isX B R EW.isw (deno_n 5 (pv 5)) (deno (den_nVE B)))))))) (denb_one (dens_ret (denf (den_bl)))) (denb_nil)))))
    (denb_cons (dens_par3 6 7 8 rfl S.nd rfl rfl rfl (by decide) (by decide) (by decide) rfl rfl rfl (den_xmk EW.hov (EW.exc _ em_HoverError) c_HoverError (hr.mono (by decide)) (den_rd 1 (pv 1))) (den_non) (den_frz (denf_call g__law_take hr (takes_of rfl rfl rfl rfl) (denr_lent 0 (pv 0) (denr_cons (den_int) (denr_nil))))))
    (denb_cons (dens_keep rfl rfl rfl S.nd rfl rfl rfl (.inl rfl) (.inl rfl) (.inl rfl) ⟨rfl, by decide, .inl c_HoverError⟩ (fun c h => EW.exm c (of_decide_eq_true h)) (fun W pn xe tk ps => denb_cons (dens_if (dent_cmp (deno_n 8 (pv 8)) (deno (den_int)) (opd_eq hr)) (denb_one (dens_raise EW.hov (EW.exc _ em_NoSize) c_NoSize (hr.mono (by decide)) rfl tk (den_rd 1 (pv 1)))) (denb_nil))
    (denb_cons (dens_if (dent_cmp (deno_n 8 (pv 8)) (deno (den_int)) (opd_eq hr)) (denb_one (dens_raise EW.hov (EW.exc _ em_BadText) c_BadText (hr.mono (by decide)) rfl tk (den_rd 1 (pv 1)))) (denb_nil))
    (denb_one (dens_raise EW.hov (EW.exc _ em_BadJournal) c_BadJournal (hr.mono (by decide)) rfl tk (den_rd 1 (pv 1)))))))
    (denb_cons (dens_if (dent_w (denw_or (dent_cmp (deno_n 7 (pv 7)) (deno (den_non)) opd_is) (denw_or1 (dent_cmp (deno (den_reprA B VR EW.sd hr (by decide) (deno (den_excv (fun c h => EW.exc c (of_decide_eq_true h)) (deno_n 7 (pv 7)))))) (deno (den_reprA B VR EW.sd hr (by decide) (deno_n 1 (pv 1)))) (opd_ne hr))))) (denb_one (dens_ret (denf (den_bl)))) (denb_nil))
    (denb_one (dens_ret (denf (den_and (den_cmp (deno (den_reprA B VR EW.sd hr (by decide) (deno (den_excv (fun c h => EW.exc c (of_decide_eq_true h)) (deno_n 6 (pv 6)))))) (deno (den_reprA B VR EW.sd hr (by decide) (deno_n 1 (pv 1)))) (opd_eq hr)) (den_and (den_isX B R EW.isw (deno_n 6 (pv 6)) (deno (den_nVE B))) (den_one (den_not (den_any B rfl (deno (den_frz (denf_call g__law_kinds hr (takes_of rfl rfl rfl rfl) (denr_cons (den_rd 6 (pv 6)) (denr_nil))))))))))))))))))
theorem ok_law (B : Blt mg) (R : RW K mg cs) (O : ROps P w K mg base) (g__law_pot : GF P w K mg base 8 "_law_pot" (spN K 2 F__law_pot)) (g__law_right : GF P w K mg base 11 "_law_right" (spN K 1 F__law_right)) (Fd : FD K d_law fd) : FnG P w K mg base 12 (d_law.at_ K) (spN K 1 F_law) :=
  okD Fd s_law (FunD.bindsN Fd fun _ _ _ _ _ _ us hl => match us, hl with | [_], _ => rfl) rfl fun cdv A outer s H E hr => by
  have S := s_law
  exact denb_one (dens_ret (denf (den_all B rfl (deno (den_frz (denf_lc (own := [("_law_k", 1)]) rfl S.nd (deni_rng1 B (den_max B rfl (deno (den_int)) (deno (den_min B rfl (deno (den_int)) (deno (den_len B (deno_n 0 (pv 0)))))))) (blkOk_by (by kernel_rfl)) (fun _ _ _ _ _ => deng_n 1 (pg_name S.nd rfl (by first | exact .inl rfl | exact .inr rfl))) (by decide) denifs_nil (fun _ _ _ _ _ => den_frz (denf_call1 g__law_right hr takes0 (denf_call g__law_pot hr takes0 (denr_cons (den_rd 0 (pv 0)) (denr_cons (den_rd 1 (pv 1)) (denr_nil))))))))))))
end
end Dv
namespace Dv
open PySem PySem.Spec PyProof.Rows L2 Hv HvT HvP
local macro_rules | `(tactic| walk_at "dw ev") => `(tactic| first | assumption | rfl | (refine mulR_ii ?_; (walk_at "dw side")) | (refine modP_ii ?_; (walk_at "dw side")) | (refine powP_ii ?_ ?_ <;> (walk_at "dw side")) | (refine fdvP_ii ?_ ?_ <;> (walk_at "dw side")) | (refine mk2P_ii ?_ <;> (walk_at "dw side")) | (refine mk1P_ii ?_ <;> (walk_at "dw side")))
local macro_rules | `(tactic| walk_at "dw side") => `(tactic| first | assumption | omega | decide)
local macro_rules | `(tactic| walk_at "dw one") => `(tactic| first
  | with_reducible refine ws_seq ?_ | with_reducible refine ws_nx ?_ | with_reducible refine ws_ret ?_ | with_reducible refine ws_if ?_ | with_reducible refine ws_set ?_ | with_reducible refine ws_setF ?_ | with_reducible refine ws_ex ?_ | with_reducible refine ws_par ?_ | with_reducible refine ws_asg ?_ | with_reducible refine ws_store ?_
  | with_reducible refine w_op2 ?_ | with_reducible refine w_un1 ?_ | with_reducible refine w_oE ?_ | ((with_reducible refine' w_oN ?h ?_); (case h => rfl)) | with_reducible refine w_cst ?_ | ((with_reducible refine' w_rdv ?h ?_); (case h => rfl)) | ((with_reducible refine' w_rdo ?h ?_); (case h => rfl))
  | with_reducible refine w_andE ?_ | with_reducible refine w_orE ?_ | with_reducible refine w_notE ?_ | with_reducible refine w_ifM ?_ | with_reducible refine w_tst ?_ | with_reducible refine w_notM ?_ | with_reducible refine w_andM ?_ | with_reducible refine w_orM ?_ | with_reducible refine w_yes ?_
  | with_reducible refine w_nilA ?_ | with_reducible refine w_consA ?_ | with_reducible refine w_tupM ?_ | with_reducible refine w_lstF ?_ | with_reducible refine w_frz ?_ | with_reducible refine w_hnd ?_ | with_reducible refine w_nilR ?_ | with_reducible refine w_consR ?_ | ((with_reducible refine' w_lenR ?h ?_); (case h => rfl)) | with_reducible refine w_callN ?_ | with_reducible refine w_un1F ?_
  | with_reducible refine w_slM ?_ | with_reducible refine w_noO ?_ | with_reducible refine w_soO ?_ | with_reducible refine w_itA ?_
  | with_reducible refine iteT ?_ | with_reducible refine iteF ?_ | with_reducible refine iteNF ?_ | with_reducible refine iteNT ?_
  | ((with_reducible refine ite_dec1 ?h ?_); (case h => walk_at "hv dec")) | ((with_reducible refine ite_dec0 ?h ?_); (case h => walk_at "hv dec"))
  | ((with_reducible refine ite_decN1 ?h ?_); (case h => walk_at "hv dec")) | ((with_reducible refine ite_decN0 ?h ?_); (case h => walk_at "hv dec"))
  | (refine And.intro (Nat.le_of_ble_eq_true rfl) ?_)
  | (refine' ex_op2 ?h1 ?h2 ?e ?_; (case h1 => rfl); (case h2 => rfl); (case e => walk_at "dw ev")) | (refine' ex_un1 ?h1 ?e ?_; (case h1 => rfl); (case e => walk_at "dw ev")) | (refine' ex_slT ?h1 ?_; (case h1 => rfl)) | (refine' ex_args ?h1 ?h2 ?h3 ?_; (case h1 => rfl); (case h2 => rfl); (case h3 => rfl))
  | ((with_reducible refine' Or.inl (Exists.intro _ (And.intro ?h ?_))); (case h => rfl)) | ((with_reducible refine' Or.inr (Exists.intro _ (And.intro ?h ?_))); (case h => rfl)) | ((with_reducible refine' Exists.intro _ (And.intro ?h ?_)); (case h => rfl))
  | dsimp only [List.set_cons_zero, List.set_cons_succ, List.length_cons, List.length_nil, List.replicate, List.cons_append, List.nil_append])
local macro_rules | `(tactic| walk_at "hv dec") => `(tactic| first | assumption | rfl | exact beq_self_eq_true _ | omega | decide | (intro hz; cases hz; done))
local macro_rules | `(tactic| walk_at "dw") => `(tactic| (repeat (walk_at "dw one")))
local macro_rules | `(tactic| walk_at "dw def") => `(tactic| (refine wf_def ?_; simp only [List.length_cons, List.length_nil, Nat.reduceAdd, Nat.reduceSub, List.replicate_succ, List.replicate_zero, List.cons_append, List.nil_append, Nat.zero_add]; walk_at "dw"))
local macro_rules | `(tactic| walk_at "dw one") => `(tactic| first
  | with_reducible refine w_lenS ?_ | with_reducible refine w_op2S ?_ | with_reducible refine w_un1S ?_ | with_reducible refine iteB ?_ | with_reducible refine iteNB ?_ | with_reducible refine w_dic0 ?_ | with_reducible refine w_nilP ?_ | with_reducible refine w_consP ?_ | with_reducible refine w_dicF ?_ | ((with_reducible refine' w_get2N ?h ?_); (case h => rfl)) | with_reducible refine w_chM ?_ | with_reducible refine w_itemsM ?_ | with_reducible refine w_zipM ?_ | with_reducible refine w_starA ?_ | with_reducible refine ws_par3 ?_ | with_reducible refine w_rng1 ?_)
local macro_rules | `(tactic| walk_at "dw side") => `(tactic| first | exact m11 (by assumption) (by assumption) | exact m22 (by assumption) (by assumption) | exact m33 (by assumption) (by assumption))
local macro_rules | `(tactic| walk_at "dw one") => `(tactic| first
  | ((with_reducible refine' w_rdold ?h ?_); (case h => rfl)) | ((with_reducible refine' w_rdnl ?h ?_); (case h => rfl)) | with_reducible refine w_ownO ?_ | ((with_reducible refine' ws_setNL ?h ?_); (case h => rfl)) | with_reducible refine ws_parNL ?_ | with_reducible refine w_nlD ?_ | ((with_reducible refine' w_nlN ?h ?_); (case h => rfl)) | with_reducible refine w_nlCat ?_ | with_reducible refine w_chM ?_)
theorem lo_of {i : Int} {b : Nat} (h0 : 0 ≤ i) (h : i < 2 ^ b) (hb : 0 < b) : i.natAbs.log2 < b := PySem.Flt.log2_lt_of hb (by
  have : ((i.natAbs : Nat) : Int) < ((2 ^ b : Nat) : Int) := by
    rw [Int.natCast_pow]
    show ((i.natAbs : Nat) : Int) < (2 : Int) ^ b
    omega
  omega)
theorem mulw {i j : Int} {a b : Nat} (hi0 : 0 ≤ i) (hi : i < 2 ^ a) (hj0 : 0 ≤ j) (hj : j < 2 ^ b) (ha : 0 < a) (hb : 0 < b) (h : a + b ≤ 1000000) : CMulW i j := by
  have h1 := lo_of hi0 hi ha
  have h2 := lo_of hj0 hj hb
  unfold CMulW
  omega
/-- a pot: what its own cell has left, the mixing number, the turns -/
def potT (a b k : Int) : T := .lst [.int a, .int b, .int k]
def PotP (c : Nat) (t : T) : Prop := ∃ a b k : Int, t = potT a b k ∧ 0 ≤ a ∧ 0 ≤ b ∧ b < 2305843009213693951 ∧ 0 ≤ k ∧ k ≤ c
theorem PotP.mono {c d : Nat} {t : T} (h : PotP c t) (l : c ≤ d) : PotP d t := by
  obtain ⟨a, b, n, h1, h2, h3, h4, h5, h6⟩ := h
  exact ⟨a, b, n, h1, h2, h3, h4, h5, by omega⟩
theorem prime_at (n : Int) : ∃ v : Int, ixP (.lst [.int 2147483647, .int 2147483629, .int 2147483587, .int 2147483579, .int 2147483563]) (.int (n % 5)) = some (.int v) ∧ 2147483563 ≤ v ∧ v ≤ 2147483647 := by
  have h : n % 5 = 0 ∨ n % 5 = 1 ∨ n % 5 = 2 ∨ n % 5 = 3 ∨ n % 5 = 4 := by omega
  rcases h with h | h | h | h | h <;> rw [h]
  · exact ⟨_, rfl, by decide, by decide⟩
  · exact ⟨_, rfl, by decide, by decide⟩
  · exact ⟨_, rfl, by decide, by decide⟩
  · exact ⟨_, rfl, by decide, by decide⟩
  · exact ⟨_, rfl, by decide, by decide⟩
section
variable {Q : Slot → Env → Prop} {E : Str → T → Env → Prop}
theorem take_w {c : Nat} {u : Int} {pt : T} (h : PotP c pt) (u0 : 0 < u) (u1 : u < 2 ^ 1000) (hc : c < 1000000) (k : ∀ r pt', 0 ≤ r → r < u → PotP (c + 1) pt' → Q (.val (.int r)) [.bor pt', .val (.int u)]) : WF (F__law_take [.bor pt, .val (.int u)]) Q E := by
  obtain ⟨a, b, n, rfl, o0, s0, s1, n0, n1⟩ := h
  unfold F__law_take potT
  walk_at "dw def"
  have ul : u.natAbs.log2 < 9000 := Nat.lt_trans (lo_of (b := 1000) (by omega) u1 (by decide)) (by decide)
  refine ite_dec (fun h => ?_) (fun h => ?_)
  · walk_at "dw"
    have e : a.fdiv u = a / u := Int.fdiv_eq_ediv_of_nonneg _ (by omega)
    refine k _ _ (Int.emod_nonneg _ (by omega)) (Int.emod_lt_of_pos _ u0) ⟨a.fdiv u, b, n, rfl, ?_, s0, s1, n0, by omega⟩
    rw [e]
    exact Int.ediv_nonneg o0 (by omega)
  · have n2 : n + 1 < 2 ^ 20 := by omega
    obtain ⟨pr, hpr, pr0, pr1⟩ := prime_at (n + 1)
    have n0' : 0 ≤ n + 1 := by omega
    have m1 : CMulW 104743 (n + 1) := mulw (a := 17) (b := 20) (by decide) (by decide) n0' n2 (by decide) (by decide) (by decide)
    have a0 : 0 ≤ 104743 * (n + 1) := by omega
    have a1 : 104743 * (n + 1) < 2 ^ 40 := by omega
    have m2 : CMulW (104743 * (n + 1)) (n + 1) := mulw a0 a1 n0' n2 (by decide) (by decide) (by decide)
    have b0 : 0 ≤ 104743 * (n + 1) * (n + 1) := Int.mul_nonneg a0 n0'
    have b1 : 104743 * (n + 1) * (n + 1) < 2 ^ 60 := Int.lt_of_le_of_lt (Int.mul_le_mul (show _ ≤ (2 : Int) ^ 40 - 1 by omega) (show n + 1 ≤ 2 ^ 20 - 1 by omega) n0' (by decide)) (by decide)
    have hb : (Builtin.Int.intBits (b + 104743 * (n + 1) * (n + 1) + 37) : Int) * 3 ≤ 2 ^ 27 := by
      have lo := lo_of (i := b + 104743 * (n + 1) * (n + 1) + 37) (b := 63) (by omega) (by omega) (by decide)
      have : Builtin.Int.intBits (b + 104743 * (n + 1) * (n + 1) + 37) ≤ (b + 104743 * (n + 1) * (n + 1) + 37).natAbs.log2 + 1 := by
        unfold Builtin.Int.intBits
        split <;> omega
      omega
    have hp : 0 < pr := by omega
    walk_at "dw"
    generalize (b + 104743 * (n + 1) * (n + 1) + 37) ^ (3 : Int).toNat = X3
    have x0 : 0 ≤ X3 % pr := Int.emod_nonneg _ (by omega)
    have x1 : X3 % pr < 2147483647 := Int.lt_of_lt_of_le (Int.emod_lt_of_pos _ (by omega)) pr1
    generalize X3 % pr = X4 at x0 x1
    have y0 : 0 ≤ X4 % 10037 := Int.emod_nonneg _ (by decide)
    have y1 : X4 % 10037 < 10037 := Int.emod_lt_of_pos _ (by decide)
    have m3 : CMulW 103 (n + 1) := mulw (a := 7) (b := 20) (by decide) (by decide) n0' n2 (by decide) (by decide) (by decide)
    have m4 : CMulW X4 (X4 % 10037 + 103 * (n + 1)) := mulw (a := 31) (b := 40) x0 (by omega) (by omega) (by omega) (by decide) (by decide) (by decide)
    walk_at "dw"
    exact k _ _ (Int.emod_nonneg _ (by omega)) (Int.emod_lt_of_pos _ u0) ⟨a, b, n + 1, rfl, o0, s0, s1, by omega, by omega⟩
theorem of_w {c : Nat} {ts : List T} {pt : T} (h : PotP c pt) (l0 : 0 < ts.length) (l1 : ts.length ≤ 1000) (hc : c < 1000000) (k : ∀ t pt', t ∈ ts → PotP (c + 1) pt' → Q (.val t) [.bor pt', .val (.lst ts)]) : WF (F__law_of [.bor pt, .val (.lst ts)]) Q E := by
  unfold F__law_of
  walk_at "dw def"
  have hb : (ts.length : Int) < 2 ^ 1000 := Int.lt_of_lt_of_le (b := 2 ^ 11) (by omega) (by decide)
  refine take_w h (by omega) hb hc fun r pt' h1 h2 hp => ⟨_, rfl, ?_⟩
  walk_at "dw"
  have hi : r.toNat < ts.length := by omega
  have e : ixP (.lst ts) (.int r) = some ts[r.toNat] := by
    have := ixP_lst (List.getElem?_eq_getElem hi)
    rwa [show ((r.toNat : Nat) : Int) = r by omega] at this
  refine ⟨_, _, _, rfl, rfl, e, ?_⟩
  walk_at "dw"
  exact k _ _ (List.getElem_mem hi) hp
end
theorem big_mod : (0 : Int) < (10 ^ (60 : Int).toNat) ^ (5 : Int).toNat ∧ (((10 : Int) ^ (60 : Int).toNat) ^ (5 : Int).toNat : Int) < 2 ^ 1000 := by decide +kernel
theorem pw60 : powP (.int 10) (.int 60) = some (.int ((10 : Int) ^ (60 : Int).toNat)) := powP_ii (by decide) (by decide +kernel)
theorem pw5 : powP (.int ((10 : Int) ^ (60 : Int).toNat)) (.int 5) = some (.int (((10 : Int) ^ (60 : Int).toNat) ^ (5 : Int).toNat)) := powP_ii (by decide) (by decide +kernel)
theorem pw18 : powP (.int 10) (.int 18) = some (.int ((10 : Int) ^ (18 : Int).toNat)) := powP_ii (by decide) (by decide +kernel)
section
variable {Q : Slot → Env → Prop} {E : Str → T → Env → Prop}
theorem ws_cut {a b : S} {ρ : Env} {P : Po} (J : Env → Prop) (h : WS (a ρ) { P with nx := J }) (h2 : ∀ ρ, J ρ → WS (b ρ) P) : WS (seqS a b ρ) P :=
  ws_seq (h.mono h2 (fun _ _ z => z) (fun _ z => z) (fun _ z => z) (fun _ _ _ z => z))
theorem pot_w {k : Nat} {ki : Int} {ns : List Int} (eki : ki = k) (hk : k < 64) (hn : ns.length ≤ 63) (kk : ∀ pt, PotP 0 pt → Q (.own pt) [.val (.scr (ns.map .int)), .val (.int ki)]) : WF (F__law_pot [.val (.scr (ns.map .int)), .val (.int ki)]) Q E := by
  unfold F__law_pot
  have el : lenP (.scr (ns.map .int)) = some (.int (ns.length : Nat)) := by show some (T.int ((ns.map T.int).length : Nat)) = _; rw [List.length_map]
  have q1 := pw60
  have q2 := pw5
  have q3 := pw18
  obtain ⟨b0, b1⟩ := big_mod
  generalize ((10 : Int) ^ (60 : Int).toNat) ^ (5 : Int).toNat = BM at b0 b1 q2
  generalize (10 : Int) ^ (60 : Int).toNat = B60 at q1 q2
  generalize (10 : Int) ^ (18 : Int).toNat = B18 at q3
  have m0 : CMulW 53 ki := mulw (a := 6) (b := 7) (by decide) (by decide) (by omega) (by omega) (by decide) (by decide) (by decide)
  have m3 : CMulW 8419 ki := mulw (a := 14) (b := 7) (by decide) (by decide) (by omega) (by omega) (by decide) (by decide) (by decide)
  have m4 : CMulW (8419 * ki) ki := mulw (a := 30) (b := 7) (by omega) (by omega) (by omega) (by omega) (by decide) (by decide) (by decide)
  refine wf_def ?_
  simp only [List.length_cons, List.length_nil, Nat.reduceAdd, Nat.reduceSub, List.replicate_succ, List.replicate_zero, List.cons_append, List.nil_append, Nat.zero_add]
  refine ws_cut (fun ρ => ∃ z : Int, ρ = [.val (.scr (ns.map .int)), .val (.int ki), .val (.int z), .un, .un]) ?_ ?_
  · walk_at "dw"
    refine ite_dec (fun d1 => ?_) (fun d1 => ?_)
    · have hlt : k < ns.length := by omega
      have e1 : ixA (.scr (ns.map .int)) (.int ki) = some (.int ns[k]) := by
        subst eki
        show (seqT (.scr (ns.map .int))).bind (fun ts => L2.atI ts (k : Int)) = _
        rw [show seqT (.scr (ns.map T.int)) = some (ns.map .int) from rfl, Option.bind_some]
        exact atI_nat (by rw [List.getElem?_map, List.getElem?_eq_getElem hlt]; rfl)
      walk_at "dw"
      exact ⟨_, rfl⟩
    · walk_at "dw"
      exact ⟨_, rfl⟩
  · rintro ρ ⟨z, rfl⟩
    walk_at "dw"
    have x0 : 0 ≤ (z.natAbs : Int) % BM := Int.emod_nonneg _ (by omega)
    have x1 : (z.natAbs : Int) % BM < BM := Int.emod_lt_of_pos _ b0
    obtain ⟨y0, y1⟩ : 0 ≤ (if decide (B18 ≤ (z.natAbs : Int)) = true then (1 : Int) else 0) ∧ (if decide (B18 ≤ (z.natAbs : Int)) = true then (1 : Int) else 0) ≤ 1 := by split <;> decide
    generalize (z.natAbs : Int) % BM = X1 at x0 x1 ⊢
    generalize (if decide (B18 ≤ (z.natAbs : Int)) = true then (1 : Int) else 0) = Y at y0 y1 ⊢
    have m1 : CMulW X1 Y := mulw (a := 1000) (b := 2) x0 (by omega) y0 (by omega) (by decide) (by decide) (by decide)
    have o0 : 0 ≤ X1 * Y := Int.mul_nonneg x0 y0
    have s0 : 0 ≤ z % 2305843009213693951 := Int.emod_nonneg _ (by decide)
    have s1 : z % 2305843009213693951 < 2305843009213693951 := Int.emod_lt_of_pos _ (by decide)
    have m2 : CMulW (z % 2305843009213693951) 70979 := mulw (a := 61) (b := 17) s0 (by omega) (by decide) (by decide) (by decide) (by decide) (by decide)
    walk_at "dw"
    exact kk _ ⟨_, _, 0, rfl, o0, Int.emod_nonneg _ (by decide), Int.lt_trans (Int.emod_lt_of_pos _ (by decide)) (by decide), by decide, by decide⟩
end
end Dv
namespace Dv
open PySem PySem.Spec PyProof.Rows L2 Hv HvT HvP
local macro_rules | `(tactic| walk_at "dw ev") => `(tactic| first | assumption | rfl | (refine mulR_ii ?_; (walk_at "dw side")) | (refine modP_ii ?_; (walk_at "dw side")) | (refine powP_ii ?_ ?_ <;> (walk_at "dw side")) | (refine fdvP_ii ?_ ?_ <;> (walk_at "dw side")) | (refine mk2P_ii ?_ <;> (walk_at "dw side")) | (refine mk1P_ii ?_ <;> (walk_at "dw side")))
local macro_rules | `(tactic| walk_at "dw side") => `(tactic| first | assumption | omega | decide)
local macro_rules | `(tactic| walk_at "dw one") => `(tactic| first
  | with_reducible refine ws_seq ?_ | with_reducible refine ws_nx ?_ | with_reducible refine ws_ret ?_ | with_reducible refine ws_if ?_ | with_reducible refine ws_set ?_ | with_reducible refine ws_setF ?_ | with_reducible refine ws_ex ?_ | with_reducible refine ws_par ?_ | with_reducible refine ws_asg ?_ | with_reducible refine ws_store ?_
  | with_reducible refine w_op2 ?_ | with_reducible refine w_un1 ?_ | with_reducible refine w_oE ?_ | ((with_reducible refine' w_oN ?h ?_); (case h => rfl)) | with_reducible refine w_cst ?_ | ((with_reducible refine' w_rdv ?h ?_); (case h => rfl)) | ((with_reducible refine' w_rdo ?h ?_); (case h => rfl))
  | with_reducible refine w_andE ?_ | with_reducible refine w_orE ?_ | with_reducible refine w_notE ?_ | with_reducible refine w_ifM ?_ | with_reducible refine w_tst ?_ | with_reducible refine w_notM ?_ | with_reducible refine w_andM ?_ | with_reducible refine w_orM ?_ | with_reducible refine w_yes ?_
  | with_reducible refine w_nilA ?_ | with_reducible refine w_consA ?_ | with_reducible refine w_tupM ?_ | with_reducible refine w_lstF ?_ | with_reducible refine w_frz ?_ | with_reducible refine w_hnd ?_ | with_reducible refine w_nilR ?_ | with_reducible refine w_consR ?_ | ((with_reducible refine' w_lenR ?h ?_); (case h => rfl)) | with_reducible refine w_callN ?_ | with_reducible refine w_un1F ?_
  | with_reducible refine w_slM ?_ | with_reducible refine w_noO ?_ | with_reducible refine w_soO ?_ | with_reducible refine w_itA ?_
  | with_reducible refine iteT ?_ | with_reducible refine iteF ?_ | with_reducible refine iteNF ?_ | with_reducible refine iteNT ?_
  | ((with_reducible refine ite_dec1 ?h ?_); (case h => walk_at "hv dec")) | ((with_reducible refine ite_dec0 ?h ?_); (case h => walk_at "hv dec"))
  | ((with_reducible refine ite_decN1 ?h ?_); (case h => walk_at "hv dec")) | ((with_reducible refine ite_decN0 ?h ?_); (case h => walk_at "hv dec"))
  | (refine And.intro (Nat.le_of_ble_eq_true rfl) ?_)
  | (refine' ex_op2 ?h1 ?h2 ?e ?_; (case h1 => rfl); (case h2 => rfl); (case e => walk_at "dw ev")) | (refine' ex_un1 ?h1 ?e ?_; (case h1 => rfl); (case e => walk_at "dw ev")) | (refine' ex_slT ?h1 ?_; (case h1 => rfl)) | (refine' ex_args ?h1 ?h2 ?h3 ?_; (case h1 => rfl); (case h2 => rfl); (case h3 => rfl))
  | ((with_reducible refine' Or.inl (Exists.intro _ (And.intro ?h ?_))); (case h => rfl)) | ((with_reducible refine' Or.inr (Exists.intro _ (And.intro ?h ?_))); (case h => rfl)) | ((with_reducible refine' Exists.intro _ (And.intro ?h ?_)); (case h => rfl))
  | dsimp only [List.set_cons_zero, List.set_cons_succ, List.length_cons, List.length_nil, List.replicate, List.cons_append, List.nil_append])
local macro_rules | `(tactic| walk_at "hv dec") => `(tactic| first | assumption | rfl | exact beq_self_eq_true _ | omega | decide | (intro hz; cases hz; done))
local macro_rules | `(tactic| walk_at "dw") => `(tactic| (repeat (walk_at "dw one")))
local macro_rules | `(tactic| walk_at "dw def") => `(tactic| (refine wf_def ?_; simp only [List.length_cons, List.length_nil, Nat.reduceAdd, Nat.reduceSub, List.replicate_succ, List.replicate_zero, List.cons_append, List.nil_append, Nat.zero_add]; walk_at "dw"))
local macro_rules | `(tactic| walk_at "dw one") => `(tactic| first
  | with_reducible refine w_lenS ?_ | with_reducible refine w_op2S ?_ | with_reducible refine w_un1S ?_ | with_reducible refine iteB ?_ | with_reducible refine iteNB ?_ | with_reducible refine w_dic0 ?_ | with_reducible refine w_nilP ?_ | with_reducible refine w_consP ?_ | with_reducible refine w_dicF ?_ | ((with_reducible refine' w_get2N ?h ?_); (case h => rfl)) | with_reducible refine w_chM ?_ | with_reducible refine w_itemsM ?_ | with_reducible refine w_zipM ?_ | with_reducible refine w_starA ?_ | with_reducible refine ws_par3 ?_ | with_reducible refine w_rng1 ?_)
local macro_rules | `(tactic| walk_at "dw side") => `(tactic| first | exact m11 (by assumption) (by assumption) | exact m22 (by assumption) (by assumption) | exact m33 (by assumption) (by assumption))
local macro_rules | `(tactic| walk_at "dw one") => `(tactic| first
  | ((with_reducible refine' w_rdold ?h ?_); (case h => rfl)) | ((with_reducible refine' w_rdnl ?h ?_); (case h => rfl)) | with_reducible refine w_ownO ?_ | ((with_reducible refine' ws_setNL ?h ?_); (case h => rfl)) | with_reducible refine ws_parNL ?_ | with_reducible refine w_nlD ?_ | ((with_reducible refine' w_nlN ?h ?_); (case h => rfl)) | with_reducible refine w_nlCat ?_ | with_reducible refine w_chM ?_)
local macro_rules | `(tactic| walk_at "dw one") => `(tactic| first
  | with_reducible refine w_xmk ?_ | with_reducible refine ws_raise ?_ | with_reducible refine ws_keep ?_ | with_reducible refine w_call1 ?_ | with_reducible refine w_enuM ?_)
/-- the errors below the base class, in the law's sequence -/
def errL : List Str := ["BadRatio", "BadText", "BadSum", "NoUnknown", "BadPoint", "Missing", "BadClaim", "TooMany", "BadPage", "NoLine", "BadState", "BadContents", "BadPlace", "BadEvents", "BadRow", "NoWay", "BadCount", "Unlike", "BadLogs", "BadWishes", "BadOffers", "NotThere", "NoSize", "BadSize", "Nowhere", "NothingToUndo", "NothingToRedo", "BadJournal", "BadLine"]
/-- what is no number, no unknown, no sum -/
def oddL : List T := [.non, .bl true, .bl false, .str "", .str "A", .str "a b", .str "1", .str "t+", .str "abcdefghi", .str "t10", .str "0", .str "-", .str "1/0", .tup [], .lst [], .dic [], .tup [.int 1], .lst [.int 1],
  .tup [.tup []], .tup [.tup [.str "t", .int 1]], .dic [(.inr "t", .int 1)], .tup [.str "t", .int 1], .tup [.non], .lst [.str "t"], .tup [.tup [.bl true, .int 1]], .tup [.int 1, .int 2, .int 3]]
/-- repr has an answer -/
def rep1 (t : T) : Bool := match reprA t with
  | some (.str _) => true
  | _ => false
theorem rep1_ok {t : T} (h : rep1 t = true) : ∃ z, reprA t = some (.str z) := by
  unfold rep1 at h
  split at h
  · exact ⟨_, by assumption⟩
  · cases h
theorem odd1 : oddL.all rep1 = true := by decide +kernel
theorem odd2 : (oddL.all fun t => oddL.all fun u => rep1 (.tup [t, u])) = true := by decide +kernel
theorem odd3 : (oddL.all fun t => rep1 (.lst [t]) && rep1 (.dic [(.inr "a", t)])) = true := by decide +kernel
theorem fix1 : ([.str "page", .rat (Rat.divInt 1 2), .tup [.tup [.str "a", .int 1]], .int (-7), .int 999999999] : List T).all rep1 = true := by decide +kernel
theorem mulc (a b : Int) : True := trivial
theorem neq_str (z : Str) : neP (.str z) (.str z) = some (.bl false) := by
  show some (T.bl (!decide (z = z))) = _
  rw [decide_eq_true rfl]; rfl
theorem eqq_str (z : Str) : eqP (.str z) (.str z) = some (.bl true) := by
  show some (T.bl (decide (z = z))) = _
  rw [decide_eq_true rfl]
/-- which of them is the one at i -/
def bitsT (i : Nat) : T := .lst ((List.range 29).map fun k => .bl (decide (k = i)))
def isF : Option T → Bool
  | some (.bl false) => true
  | _ => false
theorem isF_ok {o : Option T} (h : isF o = true) : o = some (.bl false) := by
  unfold isF at h
  split at h
  · rfl
  · cases h
theorem bits_ne : ((List.range 29).all fun i => isF (neP (bitsT i) (bitsT i))) = true := by decide +kernel
theorem bits_err : ((List.range 29).all fun i => decide (errL.map (fun c => decide (errL[i]? = some c)) = (List.range 29).map fun k => decide (k = i))) = true := by decide +kernel
theorem err_in : (errL.all fun c => esB c) = true := by decide +kernel
theorem base_no : (errL.all fun c => decide (("HoverError" : Str) ≠ c)) = true := by decide +kernel
theorem none_any : anyP (.lst (List.replicate 29 (.bl false))) = some (.bl false) := isF_ok (by decide +kernel)
theorem isX_at {c c' : Str} {v : T} (h : esB c = true) (h1 : esB c' = true) (h2 : c' ≠ "HoverError") : isX esB subB isiR (.exc c v) (.cls c') = some (.bl (decide (c = c'))) := by
  show (if esB c = true then (subB c c').map T.bl else none) = _
  rw [if_pos h]
  show (if c' ∈ errs then some (decide (c = c' ∨ c' = "HoverError")) else none).map T.bl = _
  rw [if_pos (of_decide_eq_true h1)]
  have e : decide (c = c' ∨ c' = "HoverError") = decide (c = c') := decide_eq_decide.mpr ⟨fun z => z.resolve_right h2, .inl⟩
  rw [e]; rfl
theorem isX_base {c : Str} {v : T} (h : esB c = true) : isX esB subB isiR (.exc c v) (.cls "HoverError") = some (.bl true) := by
  show (if esB c = true then (subB c "HoverError").map T.bl else none) = _
  rw [if_pos h]
  show (if (("HoverError" : Str) ∈ errs) then some (decide (c = "HoverError" ∨ ("HoverError" : Str) = "HoverError")) else none).map T.bl = _
  rw [if_pos (by decide +kernel), decide_eq_true (.inr rfl)]; rfl
theorem isX_ve {c : Str} {v : T} (h : esB c = true) : isX esB subB isiR (.exc c v) (.ty "ValueError") = some (.bl true) := by
  show (if esB c = true ∧ ("ValueError" : String) = "ValueError" then some (T.bl true) else none) = _
  rw [if_pos ⟨h, rfl⟩]
theorem exc_at {c : Str} {v : T} (h : esB c = true) : excV esB (.exc c v) = some v := by
  show (if esB c = true then some v else none) = _
  rw [if_pos h]
section
variable {Q : Slot → Env → Prop} {E : Str → T → Env → Prop}
theorem all_eq (v : T) : F__law_all [.val v] = .ok (.val (.lst (errL.map fun c => .exc c v))) [.val v] := by kernel_rfl
theorem all_w {v : T} (k : Q (.val (.lst (errL.map fun c => .exc c v))) [.val v]) : WF (F__law_all [.val v]) Q E := by
  rw [all_eq]
  exact k
theorem kinds_w {c : Str} {v : T} (h : esB c = true) (k : Q (.val (.lst (errL.map fun c2 => .bl (decide (c = c2))))) [.val (.exc c v)]) : WF (F__law_kinds [.val (.exc c v)]) Q E := by
  unfold F__law_kinds
  have e0 := isX_at (v := v) (c' := "BadRatio") h (by decide +kernel) (by decide +kernel)
  have e1 := isX_at (v := v) (c' := "BadText") h (by decide +kernel) (by decide +kernel)
  have e2 := isX_at (v := v) (c' := "BadSum") h (by decide +kernel) (by decide +kernel)
  have e3 := isX_at (v := v) (c' := "NoUnknown") h (by decide +kernel) (by decide +kernel)
  have e4 := isX_at (v := v) (c' := "BadPoint") h (by decide +kernel) (by decide +kernel)
  have e5 := isX_at (v := v) (c' := "Missing") h (by decide +kernel) (by decide +kernel)
  have e6 := isX_at (v := v) (c' := "BadClaim") h (by decide +kernel) (by decide +kernel)
  have e7 := isX_at (v := v) (c' := "TooMany") h (by decide +kernel) (by decide +kernel)
  have e8 := isX_at (v := v) (c' := "BadPage") h (by decide +kernel) (by decide +kernel)
  have e9 := isX_at (v := v) (c' := "NoLine") h (by decide +kernel) (by decide +kernel)
  have e10 := isX_at (v := v) (c' := "BadState") h (by decide +kernel) (by decide +kernel)
  have e11 := isX_at (v := v) (c' := "BadContents") h (by decide +kernel) (by decide +kernel)
  have e12 := isX_at (v := v) (c' := "BadPlace") h (by decide +kernel) (by decide +kernel)
  have e13 := isX_at (v := v) (c' := "BadEvents") h (by decide +kernel) (by decide +kernel)
  have e14 := isX_at (v := v) (c' := "BadRow") h (by decide +kernel) (by decide +kernel)
  have e15 := isX_at (v := v) (c' := "NoWay") h (by decide +kernel) (by decide +kernel)
  have e16 := isX_at (v := v) (c' := "BadCount") h (by decide +kernel) (by decide +kernel)
  have e17 := isX_at (v := v) (c' := "Unlike") h (by decide +kernel) (by decide +kernel)
  have e18 := isX_at (v := v) (c' := "BadLogs") h (by decide +kernel) (by decide +kernel)
  have e19 := isX_at (v := v) (c' := "BadWishes") h (by decide +kernel) (by decide +kernel)
  have e20 := isX_at (v := v) (c' := "BadOffers") h (by decide +kernel) (by decide +kernel)
  have e21 := isX_at (v := v) (c' := "NotThere") h (by decide +kernel) (by decide +kernel)
  have e22 := isX_at (v := v) (c' := "NoSize") h (by decide +kernel) (by decide +kernel)
  have e23 := isX_at (v := v) (c' := "BadSize") h (by decide +kernel) (by decide +kernel)
  have e24 := isX_at (v := v) (c' := "Nowhere") h (by decide +kernel) (by decide +kernel)
  have e25 := isX_at (v := v) (c' := "NothingToUndo") h (by decide +kernel) (by decide +kernel)
  have e26 := isX_at (v := v) (c' := "NothingToRedo") h (by decide +kernel) (by decide +kernel)
  have e27 := isX_at (v := v) (c' := "BadJournal") h (by decide +kernel) (by decide +kernel)
  have e28 := isX_at (v := v) (c' := "BadLine") h (by decide +kernel) (by decide +kernel)
  walk_at "dw def"
  exact k
theorem odd_w {c : Nat} {pt : T} (h : PotP c pt) (hc : c < 1000000) (k : ∀ t pt', t ∈ oddL → PotP (c + 1) pt' → Q (.val t) [.bor pt']) : WF (F__law_odd [.bor pt]) Q E := by
  unfold F__law_odd
  walk_at "dw def"
  refine of_w h (by decide) (by decide) hc fun t pt' ht hp => ?_
  walk_at "dw"
  exact k t pt' ht hp
end
theorem all_reps : ∀ n : Nat, blsTs (List.replicate n (.bl true)) = some (List.replicate n true)
  | 0 => rfl
  | n + 1 => by
    rw [List.replicate_succ, List.replicate_succ]
    show (blsT (.bl true)).bind _ = _
    rw [show blsT (.bl true) = some true from rfl, Option.bind_some, all_reps n]
    rfl
theorem all_true3 {ts : List T} : allP (.lst (ts.map fun _ => .bl true)) = some (.bl true) := by
  have e : (ts.map fun _ => T.bl true) = List.replicate ts.length (.bl true) := by
    induction ts with
    | nil => rfl
    | cons t ts ih => rw [List.map_cons, ih, List.length_cons, List.replicate_succ]
  unfold allP
  rw [e]
  rw [show lstT (.lst (List.replicate ts.length (.bl true))) = some (List.replicate ts.length (.bl true)) from rfl, Option.bind_some, all_reps, Option.map_some]
  congr 2
  simp
theorem mk_half : mk2P (.int 1) (.int 2) = some (.rat (Rat.divInt 1 2)) := mk2P_ii ⟨by decide, by decide +kernel, by decide +kernel⟩
theorem enu_get {ts : List T} {i : Nat} {t : T} (h : (enuT ts)[i]? = some t) : ∃ u, ts[i]? = some u ∧ t = .tup [.int (i : Nat), u] := by
  unfold enuT at h
  rw [List.getElem?_map, List.getElem?_zipIdx] at h
  cases q : ts[i]? with
  | none => rw [q] at h; cases h
  | some u =>
    rw [q] at h
    refine ⟨u, rfl, ?_⟩
    have h := Option.some.inj h
    rw [← h]
    simp
theorem bits_rng (i : Nat) : T.lst ((rngT 0 29).map fun t => (eqP t (.int (i : Nat))).getD .non) = bitsT i := by
  unfold bitsT
  congr 1
  unfold rngT
  rw [List.map_map]
  refine List.map_congr_left fun k _ => ?_
  show T.bl (decide ((0 + (k : Nat) : Int) = (i : Nat))) = _
  have e : decide ((0 + (k : Nat) : Int) = (i : Nat)) = decide (k = i) := decide_eq_decide.mpr (by omega)
  rw [e]
theorem bits_cls {i : Nat} {c : Str} (h : errL[i]? = some c) : T.lst (errL.map fun c2 => .bl (decide (c = c2))) = bitsT i := by
  have hi : i < 29 := (List.getElem?_eq_some_iff.mp h).1
  have z := of_decide_eq_true (List.all_eq_true.mp bits_err i (List.mem_range.mpr hi))
  rw [h] at z
  have e : ∀ c2, decide (some c = some c2) = decide (c = c2) := fun c2 => decide_eq_decide.mpr ⟨Option.some.inj, fun e => by rw [e]⟩
  simp only [e] at z
  unfold bitsT
  congr 1
  have z2 := congrArg (List.map T.bl) z
  rw [List.map_map, List.map_map] at z2
  exact z2
section
variable {Q : Slot → Env → Prop} {E : Str → T → Env → Prop}
theorem value_w {c : Nat} {pt : T} (h : PotP c pt) (hc : c + 10 < 1000000) (k : ∀ t z pt', reprA t = some (.str z) → PotP (c + 7) pt' → Q (.val t) [.bor pt']) : WF (F__law_value [.bor pt]) Q E := by
  unfold F__law_value
  have em := mk_half
  walk_at "dw def"
  refine odd_w h (by omega) fun o1 pt1 h1 hp1 => ⟨_, rfl, ?_⟩
  walk_at "dw"
  refine odd_w hp1 (by omega) fun o2 pt2 h2 hp2 => ⟨_, rfl, ?_⟩
  walk_at "dw"
  refine odd_w hp2 (by omega) fun o3 pt3 h3 hp3 => ⟨_, rfl, ?_⟩
  walk_at "dw"
  refine odd_w hp3 (by omega) fun o4 pt4 h4 hp4 => ⟨_, rfl, ?_⟩
  walk_at "dw"
  refine take_w hp4 (by decide) (by decide +kernel) (by omega) fun r pt5 r0 r1 hp5 => ⟨_, rfl, ?_⟩
  walk_at "dw"
  refine odd_w hp5 (by omega) fun o5 pt6 h5 hp6 => ⟨_, rfl, ?_⟩
  walk_at "dw"
  refine of_w hp6 (by simp) (by simp) (by omega) fun t pt7 ht hp7 => ⟨_, rfl, ?_⟩
  have hz : ∃ z, reprA t = some (.str z) := by
    have f := fix1
    simp only [List.all_cons, List.all_nil, Bool.and_true, Bool.and_eq_true] at f
    obtain ⟨f1, f2, f3, f4, f5⟩ := f
    simp only [List.mem_append, List.mem_cons, List.not_mem_nil, or_false] at ht
    rcases ht with e | e | e | e | e | e | e | e | e | e <;> subst e
    · exact rep1_ok (List.all_eq_true.mp odd1 _ h1)
    · exact rep1_ok (List.all_eq_true.mp (List.all_eq_true.mp odd2 _ h2) _ h3)
    · exact rep1_ok (Bool.and_eq_true_iff.mp (List.all_eq_true.mp odd3 _ h4)).1
    · refine ⟨toString r, ?_⟩
      show (if r.natAbs.log2 < 1920 then some (T.str (toString r)) else none) = _
      rw [if_pos (lo_of (b := 1920) r0 (by have : (99 : Int) < 2 ^ 1920 := by decide +kernel
                                           omega) (by decide))]
    · exact rep1_ok f1
    · exact rep1_ok f2
    · exact rep1_ok (Bool.and_eq_true_iff.mp (List.all_eq_true.mp odd3 _ h5)).2
    · exact rep1_ok f3
    · exact rep1_ok f4
    · exact rep1_ok f5
  obtain ⟨z, hz⟩ := hz
  walk_at "dw"
  exact k t z pt7 hz hp7
end
end Dv
namespace Dv
open PySem PySem.Spec PyProof.Rows L2 Hv HvT HvP
local macro_rules | `(tactic| walk_at "dw ev") => `(tactic| first | assumption | rfl | (refine mulR_ii ?_; (walk_at "dw side")) | (refine modP_ii ?_; (walk_at "dw side")) | (refine powP_ii ?_ ?_ <;> (walk_at "dw side")) | (refine fdvP_ii ?_ ?_ <;> (walk_at "dw side")) | (refine mk2P_ii ?_ <;> (walk_at "dw side")) | (refine mk1P_ii ?_ <;> (walk_at "dw side")))
local macro_rules | `(tactic| walk_at "dw side") => `(tactic| first | assumption | omega | decide)
local macro_rules | `(tactic| walk_at "dw one") => `(tactic| first
  | with_reducible refine ws_seq ?_ | with_reducible refine ws_nx ?_ | with_reducible refine ws_ret ?_ | with_reducible refine ws_if ?_ | with_reducible refine ws_set ?_ | with_reducible refine ws_setF ?_ | with_reducible refine ws_ex ?_ | with_reducible refine ws_par ?_ | with_reducible refine ws_asg ?_ | with_reducible refine ws_store ?_
  | with_reducible refine w_op2 ?_ | with_reducible refine w_un1 ?_ | with_reducible refine w_oE ?_ | ((with_reducible refine' w_oN ?h ?_); (case h => rfl)) | with_reducible refine w_cst ?_ | ((with_reducible refine' w_rdv ?h ?_); (case h => rfl)) | ((with_reducible refine' w_rdo ?h ?_); (case h => rfl))
  | with_reducible refine w_andE ?_ | with_reducible refine w_orE ?_ | with_reducible refine w_notE ?_ | with_reducible refine w_ifM ?_ | with_reducible refine w_tst ?_ | with_reducible refine w_notM ?_ | with_reducible refine w_andM ?_ | with_reducible refine w_orM ?_ | with_reducible refine w_yes ?_
  | with_reducible refine w_nilA ?_ | with_reducible refine w_consA ?_ | with_reducible refine w_tupM ?_ | with_reducible refine w_lstF ?_ | with_reducible refine w_frz ?_ | with_reducible refine w_hnd ?_ | with_reducible refine w_nilR ?_ | with_reducible refine w_consR ?_ | ((with_reducible refine' w_lenR ?h ?_); (case h => rfl)) | with_reducible refine w_callN ?_ | with_reducible refine w_un1F ?_
  | with_reducible refine w_slM ?_ | with_reducible refine w_noO ?_ | with_reducible refine w_soO ?_ | with_reducible refine w_itA ?_
  | with_reducible refine iteT ?_ | with_reducible refine iteF ?_ | with_reducible refine iteNF ?_ | with_reducible refine iteNT ?_
  | ((with_reducible refine ite_dec1 ?h ?_); (case h => walk_at "hv dec")) | ((with_reducible refine ite_dec0 ?h ?_); (case h => walk_at "hv dec"))
  | ((with_reducible refine ite_decN1 ?h ?_); (case h => walk_at "hv dec")) | ((with_reducible refine ite_decN0 ?h ?_); (case h => walk_at "hv dec"))
  | (refine And.intro (Nat.le_of_ble_eq_true rfl) ?_)
  | (refine' ex_op2 ?h1 ?h2 ?e ?_; (case h1 => rfl); (case h2 => rfl); (case e => walk_at "dw ev")) | (refine' ex_un1 ?h1 ?e ?_; (case h1 => rfl); (case e => walk_at "dw ev")) | (refine' ex_slT ?h1 ?_; (case h1 => rfl)) | (refine' ex_args ?h1 ?h2 ?h3 ?_; (case h1 => rfl); (case h2 => rfl); (case h3 => rfl))
  | ((with_reducible refine' Or.inl (Exists.intro _ (And.intro ?h ?_))); (case h => rfl)) | ((with_reducible refine' Or.inr (Exists.intro _ (And.intro ?h ?_))); (case h => rfl)) | ((with_reducible refine' Exists.intro _ (And.intro ?h ?_)); (case h => rfl))
  | dsimp only [List.set_cons_zero, List.set_cons_succ, List.length_cons, List.length_nil, List.replicate, List.cons_append, List.nil_append])
local macro_rules | `(tactic| walk_at "hv dec") => `(tactic| first | assumption | rfl | exact beq_self_eq_true _ | omega | decide | (intro hz; cases hz; done))
local macro_rules | `(tactic| walk_at "dw") => `(tactic| (repeat (walk_at "dw one")))
local macro_rules | `(tactic| walk_at "dw def") => `(tactic| (refine wf_def ?_; simp only [List.length_cons, List.length_nil, Nat.reduceAdd, Nat.reduceSub, List.replicate_succ, List.replicate_zero, List.cons_append, List.nil_append, Nat.zero_add]; walk_at "dw"))
local macro_rules | `(tactic| walk_at "dw one") => `(tactic| first
  | with_reducible refine w_lenS ?_ | with_reducible refine w_op2S ?_ | with_reducible refine w_un1S ?_ | with_reducible refine iteB ?_ | with_reducible refine iteNB ?_ | with_reducible refine w_dic0 ?_ | with_reducible refine w_nilP ?_ | with_reducible refine w_consP ?_ | with_reducible refine w_dicF ?_ | ((with_reducible refine' w_get2N ?h ?_); (case h => rfl)) | with_reducible refine w_chM ?_ | with_reducible refine w_itemsM ?_ | with_reducible refine w_zipM ?_ | with_reducible refine w_starA ?_ | with_reducible refine ws_par3 ?_ | with_reducible refine w_rng1 ?_)
local macro_rules | `(tactic| walk_at "dw side") => `(tactic| first | exact m11 (by assumption) (by assumption) | exact m22 (by assumption) (by assumption) | exact m33 (by assumption) (by assumption))
local macro_rules | `(tactic| walk_at "dw one") => `(tactic| first
  | ((with_reducible refine' w_rdold ?h ?_); (case h => rfl)) | ((with_reducible refine' w_rdnl ?h ?_); (case h => rfl)) | with_reducible refine w_ownO ?_ | ((with_reducible refine' ws_setNL ?h ?_); (case h => rfl)) | with_reducible refine ws_parNL ?_ | with_reducible refine w_nlD ?_ | ((with_reducible refine' w_nlN ?h ?_); (case h => rfl)) | with_reducible refine w_nlCat ?_ | with_reducible refine w_chM ?_)
local macro_rules | `(tactic| walk_at "dw one") => `(tactic| first
  | with_reducible refine w_xmk ?_ | with_reducible refine ws_raise ?_ | with_reducible refine ws_keep ?_ | with_reducible refine w_call1 ?_ | with_reducible refine w_enuM ?_)
theorem rNoSize : esB "NoSize" = true := by decide +kernel
theorem rBadText : esB "BadText" = true := by decide +kernel
theorem rBadJournal : esB "BadJournal" = true := by decide +kernel
theorem rBase : esB "HoverError" = true := by decide +kernel
section
variable {Q : Slot → Env → Prop} {E : Str → T → Env → Prop}
theorem right_w {c : Nat} {pt : T} (h : PotP c pt) (hc : c + 20 < 1000000) (kk : ∀ pt', Q (.val (.bl true)) [.bor pt']) : WF (F__law_right [.bor pt]) Q E := by
  unfold F__law_right
  refine wf_def ?_
  simp only [List.length_cons, List.length_nil, Nat.reduceAdd, Nat.reduceSub, List.replicate_succ, List.replicate_zero, List.cons_append, List.nil_append, Nat.zero_add]
  refine ws_cut (fun ρ => ∃ v z pt', ρ = [.bor pt', .val v, .un, .un, .un, .un, .un, .un, .un, .un] ∧ reprA v = some (.str z) ∧ PotP (c + 7) pt') ?_ ?_
  · walk_at "dw"
    refine value_w h (by omega) fun t z pt' hz hp => ⟨_, rfl, ?_⟩
    walk_at "dw"
    exact ⟨_, _, _, rfl, hz, hp⟩
  rintro ρ ⟨v, z, pt', rfl, hz, hp⟩
  have ez := neq_str z
  have eq := eqq_str z
  refine ws_cut (fun ρ => ρ = [.bor pt', .val v, .val (.lst (errL.map fun c => .exc c v)), .un, .un, .un, .un, .un, .un, .un]) ?_ ?_
  · walk_at "dw"
    refine all_w ⟨_, rfl, ?_⟩
    walk_at "dw"
  rintro ρ rfl
  refine ws_cut (fun ρ => ∃ x y, ρ = [.bor pt', .val v, .val (.lst (errL.map fun c => .exc c v)), .un, x, y, .un, .un, .un, .un]) ?_ ?_
  · refine ws_for (w_enuM (w_rdv rfl ⟨_, rfl, fun i ρ => ∃ x y, ρ = [.bor pt', .val v, .val (.lst (errL.map fun c => .exc c v)), .un, x, y, .un, .un, .un, .un], ⟨_, _, rfl⟩, ?_, fun ρ h => h⟩))
    rintro i t ρ ht ⟨x, y, rfl⟩
    obtain ⟨u, hu, rfl⟩ := enu_get ht
    rw [List.getElem?_map] at hu
    obtain ⟨c1, hc1, rfl⟩ := Option.map_eq_some_iff.mp hu
    have hes : esB c1 = true := List.all_eq_true.mp err_in c1 (List.mem_of_getElem? hc1)
    have hi : i < 29 := (List.getElem?_eq_some_iff.mp hc1).1
    have e1 := exc_at (v := v) hes
    have e2 := isX_base (v := v) hes
    have e3 := isX_ve (v := v) hes
    have e4 : neP (.lst (errL.map fun c2 => .bl (decide (c1 = c2)))) (.lst ((rngT 0 29).map fun t => (eqP t (.int (i : Nat))).getD .non)) = some (.bl false) := by
      rw [bits_cls hc1, bits_rng]
      exact isF_ok (List.all_eq_true.mp bits_ne i (List.mem_range.mpr hi))
    have e5 : lenP (.lst (errL.map fun c => .exc c v)) = some (.int (29 : Nat)) := rfl
    refine ⟨_, rfl, ?_⟩
    walk_at "dw"
    refine kinds_w hes ⟨_, rfl, ?_⟩
    walk_at "dw one"
    walk_at "dw one"
    with_reducible refine w_frz ?_
    with_reducible refine w_compY (fun t => (eqP t (.int (i : Nat))).getD .non) ?_
    with_reducible refine w_rng1 ?_
    walk_at "dw"
    refine And.intro (fun t ht => ?_) ?_
    · obtain ⟨k, hk, rfl⟩ : ∃ k : Nat, k < 29 ∧ t = .int (0 + (k : Nat)) := by
        unfold rngT at ht
        obtain ⟨k, hk, rfl⟩ := List.mem_map.mp ht
        exact ⟨k, List.mem_range.mp hk, rfl⟩
      refine ⟨_, rfl, ?_⟩
      walk_at "dw"
      exact ⟨rfl, rfl⟩
    · refine ⟨_, rfl, _, _, _, rfl, rfl, e4, _, rfl, ?_⟩
      walk_at "dw"
      exact ⟨_, _, rfl⟩
  rintro ρ ⟨x, y, rfl⟩
  refine ws_cut (fun ρ => ∃ r pt2, ρ = [.bor pt2, .val v, .val (.lst (errL.map fun c => .exc c v)), .un, x, y, .val (.exc "HoverError" v), .val .non, .val (.int r), .un]) ?_ ?_
  · walk_at "dw"
    refine take_w hp (by decide) (by decide +kernel) (by omega) fun r pt2 r0 r1 hp2 => ⟨_, rfl, ?_⟩
    walk_at "dw"
    exact ⟨_, _, rfl⟩
  rintro ρ ⟨r, pt2, rfl⟩
  refine ws_cut (fun ρ => ∃ c1, esB c1 = true ∧ ρ = [.bor pt2, .val v, .val (.lst (errL.map fun c => .exc c v)), .un, x, y, .val (.exc "HoverError" v), .val (.exc c1 v), .val (.int r), .un]) ?_ ?_
  · refine ws_keep ?_
    walk_at "dw"
    refine ite_dec (fun d => ?_) (fun d => ?_)
    · walk_at "dw"
      exact ⟨rNoSize, _, rNoSize, rfl⟩
    walk_at "dw"
    refine ite_dec (fun d => ?_) (fun d => ?_)
    · walk_at "dw"
      exact ⟨rBadText, _, rBadText, rfl⟩
    walk_at "dw"
    exact ⟨rBadJournal, _, rBadJournal, rfl⟩
  rintro ρ ⟨c1, hes, rfl⟩
  have hb := rBase
  have e1 := exc_at (v := v) hes
  have e2 := exc_at (v := v) hb
  have e3 := isX_ve (v := v) hb
  have e4 : anyP (.lst (errL.map fun c2 => .bl (decide (("HoverError" : Str) = c2)))) = some (.bl false) := by
    have q : (errL.map fun c2 => T.bl (decide (("HoverError" : Str) = c2))) = List.replicate 29 (.bl false) := by
      have z : (errL.map fun c2 => T.bl (decide (("HoverError" : Str) = c2))) = errL.map fun _ => T.bl false := List.map_congr_left fun c2 h2 => by
        have w := of_decide_eq_true (List.all_eq_true.mp base_no c2 h2)
        rw [decide_eq_false w]
      rw [z]; rfl
    rw [q]
    exact none_any
  walk_at "dw"
  refine kinds_w hb ⟨_, rfl, ?_⟩
  walk_at "dw"
  exact kk _
theorem law_w {ns : List Int} (hn : ns.length ≤ 63) (k : ∀ ps, Q (.val (.bl true)) ps) : WF (F_law [.val (.scr (ns.map .int))]) Q E := by
  unfold F_law
  have el : lenP (.scr (ns.map .int)) = some (.int (ns.length : Nat)) := by show some (T.int ((ns.map T.int).length : Nat)) = _; rw [List.length_map]
  obtain ⟨m, em, hm⟩ : ∃ m : Nat, (max 1 (min 3 (ns.length : Int))) = m ∧ m ≤ 3 := ⟨(max 1 (min 3 (ns.length : Int))).toNat, by omega, by omega⟩
  have e1 : minP (.int 3) (.int (ns.length : Nat)) = some (.int (min 3 (ns.length : Int))) := rfl
  have e2 : maxP (.int 1) (.int (min 3 (ns.length : Int))) = some (.int m) := by rw [← em]; rfl
  have ea := all_true3 (ts := rngT 0 m)
  walk_at "dw def"
  refine w_compY (fun _ => .bl true) (w_rng1 ?_)
  walk_at "dw"
  refine And.intro (Nat.lt_of_le_of_lt hm (by decide)) (And.intro (by simp [rngT]; omega) (And.intro (fun t ht => ?_) ?_))
  · obtain ⟨i, hi, rfl⟩ : ∃ i : Nat, i < m ∧ t = .int (0 + (i : Nat)) := by
      unfold rngT at ht
      obtain ⟨i, hi, rfl⟩ := List.mem_map.mp ht
      exact ⟨i, List.mem_range.mp hi, rfl⟩
    refine ⟨_, rfl, ?_⟩
    walk_at "dw"
    refine pot_w (k := i) (by omega) (by omega) hn fun pt hp => ⟨_, rfl, _, rfl, ?_⟩
    refine right_w hp (by omega) fun pt2 => ⟨_, _, rfl, rfl, ?_⟩
    walk_at "dw"
    exact ⟨rfl, rfl⟩
  · walk_at "dw"
    exact k _
end
def sp_law (K : PySem.W.Frag) : Sp := fun vs H Q _ => ∃ (a : Addr) (ns : List Int), vs = [.ref a] ∧ SqL K H a (ns.map V.int) ∧ ns.length ≤ 63 ∧ ∀ H', Q (.bl true) H'
theorem reps_ints {K : PySem.W.Frag} {F : Addr → Prop} {H : Hp} : ∀ ns : List Int, Reps K F H (ns.map V.int) (ns.map T.int)
  | [] => .nil
  | n :: ns => .cons (.int n) (reps_ints ns)
theorem law_sp {K : PySem.W.Frag} (vs : List V) (H : Hp) (Q : VK) (E : XK) (h : sp_law K vs H Q E) : spN K 1 F_law vs H Q E := by
  obtain ⟨a, ns, rfl, hS, hl, q⟩ := h
  have z := law_w (Q := fun s _ => s = .val (.bl true)) (E := E00) hl fun _ => rfl
  have go : ∀ (Fz : Addr → Prop), GoD K ⟨fun _ => none, fun _ => False⟩ ⟨Fz, H, [V.ref a].map some, [.val (.scr (ns.map .int))]⟩ (F_law [.val (.scr (ns.map .int))]) Q E := fun Fz => by
    cases e : F_law [.val (.scr (ns.map .int))] with
    | ok s ps =>
      rw [e] at z
      have z : s = .val (.bl true) := z
      subst z
      intro F' H' v n r
      have r : Rep K F' H' v (.bl true) := r
      cases RepP.bl (.inl r)
      exact q H'
    | ex c v ps => rw [e] at z; exact z.elim
    | bad => rw [e] at z; exact z.elim
  have mk : ∀ (Fz : Addr → Prop), Rep K Fz H (.ref a) (.scr (ns.map .int)) → (∀ b, Fz b → ∃ o, H b = some o) → spN K 1 F_law [.ref a] H Q E := fun Fz r tr => by
    refine ⟨rfl, ⟨fun _ => none, fun _ => False⟩, Fz, [.val (.scr (ns.map .int))], ⟨rfl, fun i o s e1 e2 => ?_, fun i j b w _ => ?_, tr⟩, rfl, go Fz⟩
    · match i with
      | 0 => cases e1; cases e2; exact ⟨_, rfl, r⟩
      | i + 1 => cases e2
    · obtain ⟨_, t, q⟩ := w
      match i with
      | 0 => rcases q with q | q <;> cases q
      | i + 1 => rcases q with q | q <;> cases q
  rcases hS with hS | hS
  · refine mk (fun b => b = a) (.obj rfl (.scr hS (reps_ints ns))) fun b hb => ?_
    subst hb
    rcases hS with hS | ⟨o, hS⟩
    · exact ⟨_, hS⟩
    · exact ⟨_, hS⟩
  · exact mk (fun _ => False) (.wl (fun H => .inr hS) (reps_ints ns)) fun b hb => hb.elim
end Dv
namespace Dv
open PySem PySem.Spec PyProof.Rows L2 Hv HvT HvP SlX HvE
theorem e_add : PySem.dunder (Operator.info .Add).2 = ("__add__" : Str) := by kernel_rfl
theorem e_radd : dunderR (Operator.info .Add).2 = ("__radd__" : Str) := by kernel_rfl
theorem e_sub : PySem.dunder (Operator.info .Sub).2 = ("__sub__" : Str) := by kernel_rfl
theorem e_rsub : dunderR (Operator.info .Sub).2 = ("__rsub__" : Str) := by kernel_rfl
theorem e_mul : PySem.dunder (Operator.info .Mult).2 = ("__mul__" : Str) := by kernel_rfl
theorem e_rmul : dunderR (Operator.info .Mult).2 = ("__rmul__" : Str) := by kernel_rfl
theorem sp_ratn_congr {K : PySem.W.Frag} {g g' : Rat → Rat → Rat} (e : ∀ p q, g p q = g' p q) : sp_ratn K g = sp_ratn K g' := by
  have : g = g' := funext fun p => funext fun q => e p q
  rw [this]
section
variable {P : Program} {w : World} {K : PySem.W.Frag} {mg : Str → Option Value} {h : Heap}
theorem err_ok (c : Says ex fn K) : ErrW HvT.R.prog K errs := by
  obtain ⟨_, c2⟩ := He.ba c.more
  obtain ⟨_, c3⟩ := He.ba c2
  obtain ⟨c4, c5⟩ := He.ba c3
  obtain ⟨c6, c7⟩ := He.ba c4
  obtain ⟨oc, od, osl, cc, dV, kV, doc, pm, an, cdv, ct, hl, hcode, _, _, _⟩ := c.defC 18
  have hl : K.lookup (He.ma K (He.ga K "HoverError") "__init__") = some ⟨oc, od, .func (PySem.W.fnX "__init__" "HoverError.__init__" (HvE.iA ⟨7, 17, 7, 21⟩ ⟨7, 23, 7, 28⟩) (HvE.iB ⟨8, 8, 8, 13⟩ ⟨8, 8, 8, 15⟩ ⟨8, 8, 8, 24⟩ ⟨8, 25, 8, 30⟩ ⟨8, 8, 8, 31⟩ ⟨8, 8, 8, 31⟩ ⟨9, 8, 9, 12⟩ ⟨9, 8, 9, 18⟩ ⟨9, 21, 9, 26⟩ ⟨9, 8, 9, 26⟩) (defScope d_HoverError___init__.st) [("__class__", cc)] dV kV doc pm an cdv ct), osl⟩ := hl
  exact ⟨hov_ok hl hcode c6 (by decide +kernel) (by decide +kernel) (by decide +kernel) (by decide +kernel) (by decide +kernel) (by decide +kernel) (by decide +kernel) (by decide +kernel) (by decide +kernel) (fun e => ⟨_, rfl⟩), fun _ h => errs_t c7 h, errs_w c7, fun _ h => errs_exm c7 h List.mem_cons_self (.inr rfl), sysB_ok c5⟩
theorem law_okP (EW : ErrW P K errs) (X : K.In h) (G : h.Ns mainGlobals mg) (c : Says ex fn K) (base : Heap) : FnG P w K mg base 12 (d_law.at_ K) (sp_law K) := by
  obtain ⟨c1, c2⟩ := He.ba c.more
  have B : Blt mg := blt_ok X G c1 rfl
  let CS : List Addr := [CR K]
  obtain ⟨c2, _⟩ := He.ba c2
  have R : RW K mg CS := ⟨B, num_ok (allB_at c1 46 (f := .num "Ratio")), He.glo_ok X G (show (He.Fa.glo "Ratio").ok K = true from allB_at c1 45 (f := .fa (.glo "Ratio"))), slot_ok (allB_at c1 47 (f := .slot "Ratio" "above" 0)), slot_ok (allB_at c1 48 (f := .slot "Ratio" "below" 1)), He.mkr_ok (show (He.Fa.mkr "Ratio").ok K = true from allB_at c1 49 (f := .fa (.mkr "Ratio"))), csB_ok c2, List.mem_cons_self⟩
  obtain ⟨_, f1⟩ := c.def_ 0
  have gi : GF P w K mg base 1 "is_integer" (sp_is_integer K CS) := gf f1 (He.glo_ok X G (show (He.Fa.glo "is_integer").ok K = true from allB_at c1 25 (f := .fa (.glo "is_integer")))) (HvP.ok_is_integer B R.csk f1)
  obtain ⟨_, f2⟩ := c.def_ 1
  have gc : GF P w K mg base 1 "common_divisor" sp_common_divisor := gf f2 (He.glo_ok X G (show (He.Fa.glo "common_divisor").ok K = true from allB_at c1 26 (f := .fa (.glo "common_divisor")))) (HvP.ok_common_divisor f2)
  obtain ⟨_, f3⟩ := c.def_ 19
  have g2 : GM P w K mg base 2 "Ratio" (sp_mk2 K) := gm_mk2 R (HvP.ok_init2 B R gi gc f3)
  have g1 : GM P w K mg base 2 "Ratio" (sp_mk1 K) := gm_mk1 R (HvP.ok_init1 B R gi gc f3)
  obtain ⟨_, f4⟩ := c.def_ 3
  have gn : GF P w K mg base 2 "is_number" (sp_is_number K CS) := gf f4 (He.glo_ok X G (show (He.Fa.glo "is_number").ok K = true from allB_at c1 28 (f := .fa (.glo "is_number")))) (HvP.ok_is_number B R gi f4)
  obtain ⟨_, f5⟩ := c.def_ 4
  have gr : GF P w K mg base 4 "ratio_of" (sp_ratio_of K) := gf f5 (He.glo_ok X G (show (He.Fa.glo "ratio_of").ok K = true from allB_at c1 29 (f := .fa (.glo "ratio_of")))) (HvP.ok_ratio_of B R g1 f5)
  obtain ⟨_, f6⟩ := c.def_ 6
  have gplus : GF P w K mg base 4 "plus" (sp_rat2 K fun p q => p + q) := gf f6 (He.glo_ok X G (show (He.Fa.glo "plus").ok K = true from allB_at c1 31 (f := .fa (.glo "plus")))) (HvP.ok_plus R g2 f6)
  obtain ⟨_, f7⟩ := c.def_ 7
  have gminus : GF P w K mg base 4 "minus" (sp_rat2 K fun p q => p - q) := gf f7 (He.glo_ok X G (show (He.Fa.glo "minus").ok K = true from allB_at c1 32 (f := .fa (.glo "minus")))) (HvP.ok_minus R g2 f7)
  obtain ⟨_, f8⟩ := c.def_ 8
  have gtimes : GF P w K mg base 4 "times" (sp_rat2 K fun p q => p * q) := gf f8 (He.glo_ok X G (show (He.Fa.glo "times").ok K = true from allB_at c1 33 (f := .fa (.glo "times")))) (HvP.ok_times R g2 f8)
  obtain ⟨_, f9⟩ := c.def_ 5
  have gs : GF P w K mg base 5 "spacing" (sp_spacing K) := gf f9 (He.glo_ok X G (show (He.Fa.glo "spacing").ok K = true from allB_at c1 30 (f := .fa (.glo "spacing")))) (HvP.ok_spacing R gr f9)
  obtain ⟨_, m1⟩ := c.def_ 32
  have n1 := He.meth_ok (K := K) (show (He.Fa.meth "Ratio" "__add__").ok K = true from allB_at c1 63 (f := .fa (.meth "Ratio" "__add__")))
  obtain ⟨_, m2⟩ := c.def_ 33
  have n2 := He.meth_ok (K := K) (show (He.Fa.meth "Ratio" "__radd__").ok K = true from allB_at c1 64 (f := .fa (.meth "Ratio" "__radd__")))
  obtain ⟨_, m3⟩ := c.def_ 34
  have n3 := He.meth_ok (K := K) (show (He.Fa.meth "Ratio" "__sub__").ok K = true from allB_at c1 65 (f := .fa (.meth "Ratio" "__sub__")))
  obtain ⟨_, m4⟩ := c.def_ 35
  have n4 := He.meth_ok (K := K) (show (He.Fa.meth "Ratio" "__rsub__").ok K = true from allB_at c1 66 (f := .fa (.meth "Ratio" "__rsub__")))
  obtain ⟨_, m5⟩ := c.def_ 36
  have n5 := He.meth_ok (K := K) (show (He.Fa.meth "Ratio" "__mul__").ok K = true from allB_at c1 67 (f := .fa (.meth "Ratio" "__mul__")))
  obtain ⟨_, m6⟩ := c.def_ 37
  have n6 := He.meth_ok (K := K) (show (He.Fa.meth "Ratio" "__rmul__").ok K = true from allB_at c1 68 (f := .fa (.meth "Ratio" "__rmul__")))
  obtain ⟨_, m7⟩ := c.def_ 26
  have n7 := He.meth_ok (K := K) (show (He.Fa.meth "Ratio" "__lt__").ok K = true from allB_at c1 57 (f := .fa (.meth "Ratio" "__lt__")))
  obtain ⟨_, m8⟩ := c.def_ 27
  have n8 := He.meth_ok (K := K) (show (He.Fa.meth "Ratio" "__le__").ok K = true from allB_at c1 58 (f := .fa (.meth "Ratio" "__le__")))
  obtain ⟨_, m9⟩ := c.def_ 28
  have n9 := He.meth_ok (K := K) (show (He.Fa.meth "Ratio" "__gt__").ok K = true from allB_at c1 59 (f := .fa (.meth "Ratio" "__gt__")))
  obtain ⟨_, m10⟩ := c.def_ 29
  have n10 := He.meth_ok (K := K) (show (He.Fa.meth "Ratio" "__ge__").ok K = true from allB_at c1 60 (f := .fa (.meth "Ratio" "__ge__")))
  obtain ⟨_, m11⟩ := c.def_ 30
  have n11 := He.meth_ok (K := K) (show (He.Fa.meth "Ratio" "__neg__").ok K = true from allB_at c1 61 (f := .fa (.meth "Ratio" "__neg__")))
  have O : ROps P w K mg base := by
    refine ⟨⟨_, _, e_add ▸ n1, e_radd ▸ n2, HvP.ok_Ratio___add__ R gn gr gplus m1, ?_⟩, ⟨_, _, e_sub ▸ n3, e_rsub ▸ n4, HvP.ok_Ratio___sub__ R gn gr gminus m3, HvP.ok_Ratio___rsub__ R gn gr gminus m4⟩, ⟨_, _, e_mul ▸ n5, e_rmul ▸ n6, HvP.ok_Ratio___mul__ R gn gr gtimes m5, ?_⟩,
      ⟨_, _, n7, n9, HvP.ok_Ratio___lt__ R gn gs m7, HvP.ok_Ratio___gt__ R gn gs m9⟩, ⟨_, _, n8, n10, HvP.ok_Ratio___le__ R gn gs m8, HvP.ok_Ratio___ge__ R gn gs m10⟩, ⟨_, _, n9, n7, HvP.ok_Ratio___gt__ R gn gs m9, HvP.ok_Ratio___lt__ R gn gs m7⟩, ⟨_, _, n10, n8, HvP.ok_Ratio___ge__ R gn gs m10, HvP.ok_Ratio___le__ R gn gs m8⟩⟩
    · rw [sp_ratn_congr (g' := fun p q => p + q) fun p q => Rat.add_comm q p]
      exact HvP.ok_Ratio___radd__ R gn gr gplus m2
    · rw [sp_ratn_congr (g' := fun p q => p * q) fun p q => Rat.mul_comm q p]
      exact HvP.ok_Ratio___rmul__ R gn gr gtimes m6
  obtain ⟨_, p_abs⟩ := c.def_ 31
  have Oa : RMt P w K mg base "__abs__" fun p => if p < 0 then -p else p := ⟨_, He.meth_ok (K := K) (show (He.Fa.meth "Ratio" "__abs__").ok K = true from allB_at c1 62 (f := .fa (.meth "Ratio" "__abs__"))), HvP.ok_Ratio___abs__ R g2 p_abs⟩
  have c_BadClaim : mg "BadClaim" = some (.ref (He.ga K "BadClaim")) := He.glo_ok X G (show (He.Fa.glo "BadClaim").ok K = true from allB_at c1 76 (f := .fa (.glo "BadClaim")))
  have c_BadContents : mg "BadContents" = some (.ref (He.ga K "BadContents")) := He.glo_ok X G (show (He.Fa.glo "BadContents").ok K = true from allB_at c1 81 (f := .fa (.glo "BadContents")))
  have c_BadCount : mg "BadCount" = some (.ref (He.ga K "BadCount")) := He.glo_ok X G (show (He.Fa.glo "BadCount").ok K = true from allB_at c1 86 (f := .fa (.glo "BadCount")))
  have c_BadEvents : mg "BadEvents" = some (.ref (He.ga K "BadEvents")) := He.glo_ok X G (show (He.Fa.glo "BadEvents").ok K = true from allB_at c1 83 (f := .fa (.glo "BadEvents")))
  have c_BadJournal : mg "BadJournal" = some (.ref (He.ga K "BadJournal")) := He.glo_ok X G (show (He.Fa.glo "BadJournal").ok K = true from allB_at c1 97 (f := .fa (.glo "BadJournal")))
  have c_BadLine : mg "BadLine" = some (.ref (He.ga K "BadLine")) := He.glo_ok X G (show (He.Fa.glo "BadLine").ok K = true from allB_at c1 98 (f := .fa (.glo "BadLine")))
  have c_BadLogs : mg "BadLogs" = some (.ref (He.ga K "BadLogs")) := He.glo_ok X G (show (He.Fa.glo "BadLogs").ok K = true from allB_at c1 88 (f := .fa (.glo "BadLogs")))
  have c_BadOffers : mg "BadOffers" = some (.ref (He.ga K "BadOffers")) := He.glo_ok X G (show (He.Fa.glo "BadOffers").ok K = true from allB_at c1 90 (f := .fa (.glo "BadOffers")))
  have c_BadPage : mg "BadPage" = some (.ref (He.ga K "BadPage")) := He.glo_ok X G (show (He.Fa.glo "BadPage").ok K = true from allB_at c1 78 (f := .fa (.glo "BadPage")))
  have c_BadPlace : mg "BadPlace" = some (.ref (He.ga K "BadPlace")) := He.glo_ok X G (show (He.Fa.glo "BadPlace").ok K = true from allB_at c1 82 (f := .fa (.glo "BadPlace")))
  have c_BadPoint : mg "BadPoint" = some (.ref (He.ga K "BadPoint")) := He.glo_ok X G (show (He.Fa.glo "BadPoint").ok K = true from allB_at c1 74 (f := .fa (.glo "BadPoint")))
  have c_BadRatio : mg "BadRatio" = some (.ref (He.ga K "BadRatio")) := He.glo_ok X G (show (He.Fa.glo "BadRatio").ok K = true from allB_at c1 70 (f := .fa (.glo "BadRatio")))
  have c_BadRow : mg "BadRow" = some (.ref (He.ga K "BadRow")) := He.glo_ok X G (show (He.Fa.glo "BadRow").ok K = true from allB_at c1 84 (f := .fa (.glo "BadRow")))
  have c_BadSize : mg "BadSize" = some (.ref (He.ga K "BadSize")) := He.glo_ok X G (show (He.Fa.glo "BadSize").ok K = true from allB_at c1 93 (f := .fa (.glo "BadSize")))
  have c_BadState : mg "BadState" = some (.ref (He.ga K "BadState")) := He.glo_ok X G (show (He.Fa.glo "BadState").ok K = true from allB_at c1 80 (f := .fa (.glo "BadState")))
  have c_BadSum : mg "BadSum" = some (.ref (He.ga K "BadSum")) := He.glo_ok X G (show (He.Fa.glo "BadSum").ok K = true from allB_at c1 72 (f := .fa (.glo "BadSum")))
  have c_BadText : mg "BadText" = some (.ref (He.ga K "BadText")) := He.glo_ok X G (show (He.Fa.glo "BadText").ok K = true from allB_at c1 71 (f := .fa (.glo "BadText")))
  have c_BadWishes : mg "BadWishes" = some (.ref (He.ga K "BadWishes")) := He.glo_ok X G (show (He.Fa.glo "BadWishes").ok K = true from allB_at c1 89 (f := .fa (.glo "BadWishes")))
  have c_HoverError : mg "HoverError" = some (.ref (He.ga K "HoverError")) := He.glo_ok X G (show (He.Fa.glo "HoverError").ok K = true from allB_at c1 69 (f := .fa (.glo "HoverError")))
  have c_Missing : mg "Missing" = some (.ref (He.ga K "Missing")) := He.glo_ok X G (show (He.Fa.glo "Missing").ok K = true from allB_at c1 75 (f := .fa (.glo "Missing")))
  have c_NoLine : mg "NoLine" = some (.ref (He.ga K "NoLine")) := He.glo_ok X G (show (He.Fa.glo "NoLine").ok K = true from allB_at c1 79 (f := .fa (.glo "NoLine")))
  have c_NoSize : mg "NoSize" = some (.ref (He.ga K "NoSize")) := He.glo_ok X G (show (He.Fa.glo "NoSize").ok K = true from allB_at c1 92 (f := .fa (.glo "NoSize")))
  have c_NoUnknown : mg "NoUnknown" = some (.ref (He.ga K "NoUnknown")) := He.glo_ok X G (show (He.Fa.glo "NoUnknown").ok K = true from allB_at c1 73 (f := .fa (.glo "NoUnknown")))
  have c_NoWay : mg "NoWay" = some (.ref (He.ga K "NoWay")) := He.glo_ok X G (show (He.Fa.glo "NoWay").ok K = true from allB_at c1 85 (f := .fa (.glo "NoWay")))
  have c_NotThere : mg "NotThere" = some (.ref (He.ga K "NotThere")) := He.glo_ok X G (show (He.Fa.glo "NotThere").ok K = true from allB_at c1 91 (f := .fa (.glo "NotThere")))
  have c_NothingToRedo : mg "NothingToRedo" = some (.ref (He.ga K "NothingToRedo")) := He.glo_ok X G (show (He.Fa.glo "NothingToRedo").ok K = true from allB_at c1 96 (f := .fa (.glo "NothingToRedo")))
  have c_NothingToUndo : mg "NothingToUndo" = some (.ref (He.ga K "NothingToUndo")) := He.glo_ok X G (show (He.Fa.glo "NothingToUndo").ok K = true from allB_at c1 95 (f := .fa (.glo "NothingToUndo")))
  have c_Nowhere : mg "Nowhere" = some (.ref (He.ga K "Nowhere")) := He.glo_ok X G (show (He.Fa.glo "Nowhere").ok K = true from allB_at c1 94 (f := .fa (.glo "Nowhere")))
  have c_TooMany : mg "TooMany" = some (.ref (He.ga K "TooMany")) := He.glo_ok X G (show (He.Fa.glo "TooMany").ok K = true from allB_at c1 77 (f := .fa (.glo "TooMany")))
  have c_Unlike : mg "Unlike" = some (.ref (He.ga K "Unlike")) := He.glo_ok X G (show (He.Fa.glo "Unlike").ok K = true from allB_at c1 87 (f := .fa (.glo "Unlike")))
  obtain ⟨_, p_repr⟩ := c.def_ 24
  have VR : RRe P w K mg base := ⟨⟨_, He.meth_ok (K := K) (show (He.Fa.meth "Ratio" "__repr__").ok K = true from allB_at c1 55 (f := .fa (.meth "Ratio" "__repr__"))), HvP.ok_Ratio___repr__ R p_repr⟩⟩
  obtain ⟨_, d__law_pot_⟩ := c.def_ 9
  have o__law_pot := ok__law_pot (P := P) (w := w) (base := base) B R O Oa d__law_pot_
  have g__law_pot : GF P w K mg base 8 "_law_pot" (spN K 2 F__law_pot) := gf d__law_pot_ (He.glo_ok X G (show (He.Fa.glo "_law_pot").ok K = true from allB_at c1 34 (f := .fa (.glo "_law_pot")))) o__law_pot
  obtain ⟨_, d__law_take_⟩ := c.def_ 10
  have o__law_take := ok__law_take (P := P) (w := w) (base := base) B R O d__law_take_
  have g__law_take : GF P w K mg base 7 "_law_take" (spN K 2 F__law_take) := gf d__law_take_ (He.glo_ok X G (show (He.Fa.glo "_law_take").ok K = true from allB_at c1 35 (f := .fa (.glo "_law_take")))) o__law_take
  obtain ⟨_, d__law_of_⟩ := c.def_ 11
  have o__law_of := ok__law_of (P := P) (w := w) (base := base) B R O g__law_take d__law_of_
  have g__law_of : GF P w K mg base 8 "_law_of" (spN K 2 F__law_of) := gf d__law_of_ (He.glo_ok X G (show (He.Fa.glo "_law_of").ok K = true from allB_at c1 36 (f := .fa (.glo "_law_of")))) o__law_of
  obtain ⟨_, d__law_odd_⟩ := c.def_ 12
  have o__law_odd := ok__law_odd (P := P) (w := w) (base := base) B R O g__law_of d__law_odd_
  have g__law_odd : GF P w K mg base 9 "_law_odd" (spN K 1 F__law_odd) := gf d__law_odd_ (He.glo_ok X G (show (He.Fa.glo "_law_odd").ok K = true from allB_at c1 37 (f := .fa (.glo "_law_odd")))) o__law_odd
  obtain ⟨_, d__law_value_⟩ := c.def_ 13
  have o__law_value := ok__law_value (P := P) (w := w) (base := base) B R O g__law_take g__law_odd g__law_of g2 d__law_value_
  have g__law_value : GF P w K mg base 10 "_law_value" (spN K 1 F__law_value) := gf d__law_value_ (He.glo_ok X G (show (He.Fa.glo "_law_value").ok K = true from allB_at c1 38 (f := .fa (.glo "_law_value")))) o__law_value
  obtain ⟨_, d__law_all_⟩ := c.def_ 14
  have o__law_all := ok__law_all (P := P) (w := w) (base := base) B R O c_BadClaim c_BadContents c_BadCount c_BadEvents c_BadJournal c_BadLine c_BadLogs c_BadOffers c_BadPage c_BadPlace c_BadPoint c_BadRatio c_BadRow c_BadSize c_BadState c_BadSum c_BadText c_BadWishes c_Missing c_NoLine c_NoSize c_NoUnknown c_NoWay c_NotThere c_NothingToRedo c_NothingToUndo c_Nowhere c_TooMany c_Unlike EW d__law_all_
  have g__law_all : GF P w K mg base 7 "_law_all" (spN K 1 F__law_all) := gf d__law_all_ (He.glo_ok X G (show (He.Fa.glo "_law_all").ok K = true from allB_at c1 39 (f := .fa (.glo "_law_all")))) o__law_all
  obtain ⟨_, d__law_kinds_⟩ := c.def_ 15
  have o__law_kinds := ok__law_kinds (P := P) (w := w) (base := base) B R O c_BadClaim c_BadContents c_BadCount c_BadEvents c_BadJournal c_BadLine c_BadLogs c_BadOffers c_BadPage c_BadPlace c_BadPoint c_BadRatio c_BadRow c_BadSize c_BadState c_BadSum c_BadText c_BadWishes c_Missing c_NoLine c_NoSize c_NoUnknown c_NoWay c_NotThere c_NothingToRedo c_NothingToUndo c_Nowhere c_TooMany c_Unlike EW d__law_kinds_
  have g__law_kinds : GF P w K mg base 7 "_law_kinds" (spN K 1 F__law_kinds) := gf d__law_kinds_ (He.glo_ok X G (show (He.Fa.glo "_law_kinds").ok K = true from allB_at c1 40 (f := .fa (.glo "_law_kinds")))) o__law_kinds
  obtain ⟨_, d__law_right_⟩ := c.def_ 16
  have o__law_right := ok__law_right (P := P) (w := w) (base := base) B R O g__law_value g__law_all g__law_kinds g__law_take c_BadJournal c_BadText c_HoverError c_NoSize EW VR d__law_right_
  have g__law_right : GF P w K mg base 11 "_law_right" (spN K 1 F__law_right) := gf d__law_right_ (He.glo_ok X G (show (He.Fa.glo "_law_right").ok K = true from allB_at c1 41 (f := .fa (.glo "_law_right")))) o__law_right
  obtain ⟨_, d_law_⟩ := c.def_ 17
  have o_law := ok_law (P := P) (w := w) (base := base) B R O g__law_pot g__law_right d_law_
  have g_law : GF P w K mg base 12 "law" (spN K 1 F_law) := gf d_law_ (He.glo_ok X G (show (He.Fa.glo "law").ok K = true from allB_at c1 42 (f := .fa (.glo "law")))) o_law
  exact o_law.imp law_sp
theorem law_ok (X : K.In h) (G : h.Ns mainGlobals mg) (c : Says ex fn K) (base : Heap) : FnG HvT.R.prog w K mg base 12 (d_law.at_ K) (sp_law K) := law_okP (err_ok c) X G c base
end
end Dv
open PySem PySem.W PySem.Calls PyProof.Rows
theorem PySem.Challenge.cw_hoverrest_k00_errors_by_themselves_holds : PySem.Challenge.rw_hoverrest_k00_errors_by_themselves.Holds := by
  w_on; o_law
  refine HandSHeadRun.head_any (r := OpenLaw.row PySem.Challenge.rw_hoverrest_k00_errors_by_themselves) (q := view (OpenLaw.row PySem.Challenge.rw_hoverrest_k00_errors_by_themselves).prog [54]) (H := HvT.hk) (ob := HvT.ob) (M := 40000) (loose := HvT.loose) (d := HandSHeadRun.topDef (OpenLaw.row PySem.Challenge.rw_hoverrest_k00_errors_by_themselves).prog 54) (kwd := []) HvT.ob_eq
    (by kernel_rfl) (fun s => by kernel_rfl) HvT.run (by kernel_rfl) (by kernel_rfl) (by kernel_rfl) (by rfl) (by first | assumption | decide +kernel) (by decide +kernel) ⟨rfl, rfl, rfl, rfl, rfl, by decide +kernel⟩ ?hw ?hc
  case hw => w_witness2
  case hc =>
    refine Hv.walk_end (l := PySem.Challenge.rw_hoverrest_k00_errors_by_themselves) (n := 63) (k := 12) rfl (by decide) (by kernel_rfl) ⟨rfl, by decide, by decide⟩ ?_
    intro w mg fa h Y G hmg0
    obtain ⟨K, KX, c⟩ := Y
    have hmg : mg ("law" : PySem.Str) = some (.ref fa) := by
      have e : (HandSHeadRun.topDef (OpenLaw.row PySem.Challenge.rw_hoverrest_k00_errors_by_themselves).prog 54).name = ("law" : PySem.Str) := by kernel_rfl
      rw [← e]
      exact hmg0
    have hfa : fa = HvT.d_law.at_ K := by
      have z := hmg.symm.trans (He.glo_ok KX G (x := "law") (show (He.Fa.glo "law").ok K = true from Hv.allB_at (He.ba c.more).1 42 (f := .fa (.glo "law"))))
      exact Value.ref.inj (Option.some.inj z)
    subst hfa
    exact ⟨K, Dv.sp_law K, KX, fun H a ns hl hS => ⟨a, ns, rfl, hS, hl, fun _ => rfl⟩, fun base _ _ => Dv.law_ok KX G c base⟩
