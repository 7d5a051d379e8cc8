import PyProof.Rows.All
import Wide.All
import OpenK.AllK
import Wide.FinOn
import PyProof.EqAt
import PyProof.EqKinds
import PyProof.TupleCall
import KE.KOpsOwn
import HandS.ForMost
import HandS.Exc
import HandS.WordsExc
import HandS.Defaults
import HandS.Wide
import HandS.Slots
import HandS.SlotsOwn
import HandS.IsInst
import HandS.Zip
import PyProof.FactsAll.int_1
import HandS.Flow
import HandS.Walk
import HandS.FStr
import KE.KUnpackStar
import HandS.Star
import HandS.ClsMeth
import HandS.Codes
import HandS.Text
import HandS.Iter
import HandS.More
import KE.KStateDown
import KE.KSuper
import Lean
import HandS.Head0
import HandS.Head1
import HandS.Head2
import HandS.HeadEnd
import HandS.HeadHook1
import HandS.HeadHook2
import HandS.Ends
import PySem.Challenge.RW_hoverrest_k11_whole_ratios_in_sequence
set_option Elab.async false
set_option linter.all false
set_option maxRecDepth 100000
set_option maxHeartbeats 0
/-! HA: calls that know that no repr is under way (the room bears it); a def by its body; calls by name; makers; methods, properties of slotted instances. -/
namespace Hv
open PySem PySem.Spec PyProof.Rows L2
structure RoomG (k : Nat) (A : Around) : Prop where
  r : Room k A
  g : A.guards = some []
theorem RoomG.mono {j k : Nat} {A : Around} (x : RoomG k A) (h : j ≤ k) : RoomG j A := ⟨x.r.mono h, x.g⟩
theorem RoomG.deeper {k : Nat} {A : Around} (x : RoomG (k + 1) A) (env : Env) : RoomG k (A.deeper env) := ⟨x.r.deeper env, x.g⟩
theorem RoomG.in1 {k : Nat} {A : Around} (x : RoomG (k + 1) A) : RoomG k A.in1 := ⟨x.r.in1, x.g⟩
theorem RoomG.make {k : Nat} {A : Around} (x : RoomG (k + 1) A) (C : Addr) (us : List Value) (kw : List (Str × Value)) :
    RoomG k (A.under (.builtin "type.__call__" ⟨.ref C :: us, kw⟩)) := by
  refine ⟨x.r.make C us kw, ?_⟩
  have h : (Code.builtin "type.__call__" ⟨.ref C :: us, kw⟩).isGuard = false := by
    show guardIds.contains "type.__call__" = false
    decide +kernel
  simp [Around.under, Code.guards, h, pushGuards, x.g]
/-- a promise by positional values, of a callee that runs while no repr is under way -/
def FnG (P : Program) (w : World) (K : PySem.W.Frag) (mg : Str → Option Value) (base : Heap) (k : Nat) (f : Addr) (sp : Sp) : Prop :=
  ∀ (A : Around) (outer : List Env) (s : Shared) (H : Hp) (us : List Value) (vs : List V) (Q : VK) (E : XK),
    RoomG k A → Env0 P w K mg base A outer s H → Vals vs us → sp vs H Q E →
    codeAny (model P w) A (.call (.ref f) ⟨us, []⟩) (CR (L2.CX P w) outer P w H s Q E) s
section
variable {P : Program} {w : World} {K : PySem.W.Frag} {mg : Str → Option Value} {base : Heap} {j k : Nat} {f : Addr} {sp sp' : Sp}
theorem FnG.mono (F : FnG P w K mg base j f sp) (h : j ≤ k) : FnG P w K mg base k f sp :=
  fun A outer s H us vs Q E hr => F A outer s H us vs Q E (hr.mono h)
theorem FnG.imp (F : FnG P w K mg base k f sp) (h : ∀ vs H Q E, sp' vs H Q E → sp vs H Q E) : FnG P w K mg base k f sp' :=
  fun A outer s H us vs Q E hr e0 r hs => F A outer s H us vs Q E hr e0 r (h _ _ _ _ hs)
/-- a def by its body; dv: the defaults that fill up -/
theorem okG {x qual : Str} {params : Arguments} {body : List Stmt} {scope : Scope} {dvs : List V} {kws : List (Str × V)} {fd : FuncData}
    {N ps : List Str} {dv : List V} {ds : List Value}
    (F : FunD K x qual params body scope dvs kws f fd) (S : FnScope N ps scope) (hb : Binds K fd ps ds) (hd : Vals dv ds)
    (len : ∀ vs H Q E, sp vs H Q E → (vs ++ dv).length = ps.length)
    (hbody : ∀ (cdv : Value) (A : Around) (outer : List Env) (s : Shared) (H : Hp) (vs : List V) (Q : VK) (E : XK),
      RoomG k (A.deeper (envOfC qual scope s.heap.objs.size f cdv)) → sp vs H Q E →
      ∃ t, PSs (cxOf (L2.CX P w) P w K mg base N qual scope f cdv A outer s H E) body t ∧
        t { nx := fun _ H' => Q .non H', rt := Q } (start N (vs ++ dv)) H) :
    FnG P w K mg base (k + 1) f sp := by
  intro A outer s H us vs Q E hr e0 r hs
  obtain ⟨oc, od, dV, kV, doc, pm, an, cdv, ct, osl, rfl, lk, hcd, _, _⟩ := F.ex
  have hl := len _ _ _ _ hs
  have r2 : Vals (vs ++ dv) (us ++ ds) := r.append hd
  have hl2 : (us ++ ds).length = ps.length := by rw [← r2.length]; exact hl
  have KX : K.In s.heap := e0.mod.kin.keeps fun b o e => (e0.bs b o e).1
  have lim : s.heap.NoLimit := e0.mod.nolimit.keeps fun b o e => (e0.bs b o e).1
  refine Att.call_fn KX lim lk hcd hr.r.depth (hb s us KX hl2) ?_ (fun s1 x1 => ?_) S.co S.gen S.kind
  · refine List.all_eq_true.mpr fun y hy => ?_
    rcases S.par y.1 (List.of_mem_zip (a := y.1) (b := y.2) hy).1 with q | q
    · simp [q]
    · simp [q]
  · obtain ⟨t, ht, hq⟩ := hbody cdv A outer s H vs Q E (hr.deeper _) hs
    have I := inv_start (CX := L2.CX P w) (P := P) (w := w) (K := K) (mg := mg) (base := base) (E := E) S hr.r.hd e0 hl r2 x1
    refine wpAny_mono (ht.run [] s1 _ H _ I hq) (fun fl s' z => ?_) fun e s' z => z
    cases fl with
    | ret u =>
      obtain ⟨v, σ', H', J, rv, q⟩ := z
      exact ⟨v, H', J.os, J.bare, J.base, J.hok, rv, q⟩
    | next =>
      obtain ⟨σ', H', J, q⟩ := z
      exact ⟨V.non, H', J.os, J.bare, J.base, J.hok, rfl, q⟩
    | brk =>
      obtain ⟨_, _, _, q⟩ := z
      exact False.elim q
    | cont =>
      obtain ⟨_, _, _, q⟩ := z
      exact False.elim q
end
section
variable {X : Cx} {pins : List (Addr × Obj)} {σ : L2.St} {H : Hp} {s : Shared} {j k n : Nat} {f g C : Addr} {sp spC : Sp} {E : XK} {Q : VK} {us : List Value} {vs : List V}
abbrev PassX (X : Cx) (E : XK) : Prop := Passes (L2.CX X.prog X.w) X E
abbrev FnX (X : Cx) (k : Nat) (f : Addr) (sp : Sp) : Prop := FnG X.prog X.w X.K X.mg X.base k f sp
/-- the callee runs below the running body -/
theorem run_at {A : Around} (F : FnX X k f sp) (hr : RoomG k A) (e0 : Env0 X.prog X.w X.K X.mg X.base A X.stack s H) (hx : PassX X E) (I : Inv X pins σ H s) (r : Vals vs us) (h : sp vs H Q E) :
    codeAny (model X.prog X.w) A (.call (.ref f) ⟨us, []⟩) (fun r s' => match r with | .ok (.ret v) => EP X pins σ Q v s' | .ok _ => False | .error e => X.xe e s') s := by
  refine codeAny_mono (F A X.stack s H us vs Q E hr e0 r h) fun r s' z => ?_
  cases r with
  | error e => exact hx pins σ H s e s' I z
  | ok fl =>
    cases fl with
    | ret u => exact I.after z
    | next => exact False.elim z
    | brk => exact False.elim z
    | cont => exact False.elim z
theorem run_g (F : FnX X k f sp) (hr : RoomG k X.A) (hx : PassX X E) (I : Inv X pins σ H s) (r : Vals vs us) (h : sp vs H Q E) :
    codeAny (model X.prog X.w) X.A (.call (.ref f) ⟨us, []⟩) (fun r s' => match r with | .ok (.ret v) => EP X pins σ Q v s' | .ok _ => False | .error e => X.xe e s') s :=
  run_at F hr I.env0 hx I r h
theorem noX {P : Program} {w : World} {outer : List Env} {H : Hp} {s s' : Shared} {e : Value} (h : L2.CX P w outer H s E0 e s') : False := by
  obtain ⟨_, _, _, _, _, _, _, _, _, _, _, _, z⟩ := h
  exact z
/-- the module's name x is a def with a promise -/
structure GF (P : Program) (w : World) (K : PySem.W.Frag) (mg : Str → Option Value) (base : Heap) (k : Nat) (x : Str) (sp : Sp) : Prop where
  ex : ∃ f, mg x = some (.ref f) ∧ PySem.W.keepIn K (.ref f) = true ∧ FnG P w K mg base k f sp
abbrev GFX (X : Cx) (k : Nat) (x : Str) (sp : Sp) : Prop := GF X.prog X.w X.K X.mg X.base k x sp
def tCal (sp : Sp) (E : XK) (t : TA) : TE := fun σ H Q => t σ H fun vs H1 => sp vs H1 Q E
variable {x m : Str} {p pos apos : Pos} {e o : Expr} {es : List Expr} {ta : TE} {t : TA}
theorem pg_call (c : GFX X k x sp) (hr : RoomG j X.A) (hj : k ≤ j) (hg : Gl X x) (hx : PassX X E) (ha : PA X (e :: es) t)
    (hdb : (x == ("__debug__" : Str)) = false := by decide) (he : starEach (e :: es) X.env = (false, eval e X.env) :: starEach es X.env := by rfl)
    (hpl : (backTo pos (starEach es X.env)).any (·.1) = false := by rfl) : PE X (.Call (.Name x p) (e :: es) [] pos) (tCal sp E t) := by
  obtain ⟨f, hm, hk, F⟩ := c.ex
  refine ⟨fun pins s σ H Q I h => ?_⟩
  refine wpAny_Call_Name_kw (ld_glob I hg hm ?_ hdb)
  refine PySem.W.callWith_K (h₀ := X.base) I.ok.mod.kin hk (thn (ha.run pos pins s σ H _ I h) fun us s1 ⟨vs, H1, I1, r, q⟩ => ⟨I1.kIn, ?_⟩) he hpl
  exact wpAny_call (run_g F (hr.mono hj) hx I1 r q)
theorem pg_call0 (c : GFX X k x sp) (hr : RoomG j X.A) (hj : k ≤ j) (hg : Gl X x) (hx : PassX X E) (hdb : (x == ("__debug__" : Str)) = false := by decide) :
    PE X (.Call (.Name x p) [] [] pos) (tCal sp E tNil) := by
  obtain ⟨f, hm, hk, F⟩ := c.ex
  refine ⟨fun pins s σ H Q I h => ?_⟩
  refine wpAny_Call_Name_kw (ld_glob I hg hm ?_ hdb)
  exact PySem.W.callWith_K0 I.kIn hk (wpAny_call (run_g (us := []) F (hr.mono hj) hx I .nil h))
/-- the module's name x is a class; spC: what making an instance promises -/
structure GM (P : Program) (w : World) (K : PySem.W.Frag) (mg : Str → Option Value) (base : Heap) (k : Nat) (x : Str) (spC : Sp) : Prop where
  ex : ∃ C f sp, mg x = some (.ref C) ∧ Mk K C f ∧ FnG P w K mg base k f sp ∧ ∀ vs H Q E, spC vs H Q E →
    ∀ a dx, H a = none → H dx = none → dx ≠ a → sp (.ref a :: vs) (upd (upd H dx (.own a)) a (.ins C dx [])) (fun v H2 => v = .non ∧ Q (.ref a) H2) E
abbrev GMX (X : Cx) (k : Nat) (x : Str) (sp : Sp) : Prop := GM X.prog X.w X.K X.mg X.base k x sp
theorem run_mk {C f : Addr} {sp : Sp} (M : Mk X.K C f) (F : FnX X k f sp) (hr : RoomG (k + 1) X.A) (hx : PassX X E) (I : Inv X pins σ H s) (r : Vals vs us)
    (h : ∀ a dx, H a = none → H dx = none → dx ≠ a → sp (.ref a :: vs) (upd (upd H dx (.own a)) a (.ins C dx [])) (fun v H2 => v = .non ∧ Q (.ref a) H2) E) :
    wpAny (model X.prog X.w) X.A (call (.ref C) us) (EP X pins σ Q) X.xe s := by
  have q := h (s.heap.objs.size + 1) s.heap.objs.size (I.hok.fresh (Nat.le_succ _)) (I.hok.fresh (Nat.le_refl _)) (Nat.ne_of_lt (Nat.lt_succ_self _))
  have I2 := Inv.made (C := C) I
  refine wpAny_call (make_map (f := f) I.kIn M.makes M.init (beq_iff_eq.mp M.fn) (codeAny_mono
    (run_at (us := Value.ref (s.heap.objs.size + 1) :: us) (vs := V.ref (s.heap.objs.size + 1) :: vs) F (hr.make C us []) (I2.env0.make C us []) hx I2 (.cons rfl r) q) fun r s' z => ?_))
  cases r with
  | error e => exact z
  | ok fl =>
    cases fl with
    | ret u =>
      obtain ⟨v, H', I3, rv, ev, q3⟩ := z
      subst ev
      exact ⟨rv, ⟨V.ref (s.heap.objs.size + 1), H', I3, rfl, q3⟩⟩
    | next => exact False.elim z
    | brk => exact False.elim z
    | cont => exact False.elim z
theorem pg_make (c : GMX X k x spC) (hr : RoomG j X.A) (hj : k + 1 ≤ j) (hg : Gl X x) (hx : PassX X E) (ha : PA X (e :: es) t)
    (hdb : (x == ("__debug__" : Str)) = false := by decide) (he : starEach (e :: es) X.env = (false, eval e X.env) :: starEach es X.env := by rfl)
    (hpl : (backTo pos (starEach es X.env)).any (·.1) = false := by rfl) : PE X (.Call (.Name x p) (e :: es) [] pos) (tCal spC E t) := by
  obtain ⟨C, f, sp, hm, M, F, imp⟩ := c.ex
  refine ⟨fun pins s σ H Q I h => ?_⟩
  refine wpAny_Call_Name_kw (ld_glob I hg hm ?_ hdb)
  refine PySem.W.callWith_K (h₀ := X.base) I.ok.mod.kin M.kp (thn (ha.run pos pins s σ H _ I h) fun us s1 ⟨vs, H1, I1, r, q⟩ => ⟨I1.kIn, ?_⟩) he hpl
  exact run_mk M F (hr.mono hj) hx I1 r (imp _ _ _ _ q)
theorem pg_make0 (c : GMX X k x spC) (hr : RoomG j X.A) (hj : k + 1 ≤ j) (hg : Gl X x) (hx : PassX X E) (hdb : (x == ("__debug__" : Str)) = false := by decide) :
    PE X (.Call (.Name x p) [] [] pos) (tCal spC E tNil) := by
  obtain ⟨C, f, sp, hm, M, F, imp⟩ := c.ex
  refine ⟨fun pins s σ H Q I h => ?_⟩
  refine wpAny_Call_Name_kw (ld_glob I hg hm ?_ hdb)
  exact PySem.W.callWith_K0 I.kIn M.kp (run_mk (us := []) M F (hr.mono hj) hx I .nil (imp _ _ _ _ h))
/-! ### methods and properties of instances with slots -/
open SlX
theorem pg_meth {pl : Sem Bool} (he : PE X o ta) (c : SCls X.K C) (hm : Meth X.K C m g) (F : FnX X k g sp) (hr : RoomG j X.A) (hj : k ≤ j) (hx : PassX X E) (ha : PA X (e :: es) t)
    (hst : starEach (e :: es) X.env = (false, eval e X.env) :: starEach es X.env := by rfl) (hpl : (backTo pos (starEach es X.env)).any (·.1) = false := by rfl)
    (ht : eval (.Call (.Attribute o m apos) (e :: es) [] pos) X.env = (do
      let ov ← eval o X.env
      standAt apos.atName
      let (f, first) ← holding [ov] (getMethod ov m pl)
      callWith pos f first (backTo pos (starEach (e :: es) X.env)) (backToKw pos (keywordEach [] X.env))) := by rfl) :
    PE X (.Call (.Attribute o m apos) (e :: es) [] pos) (tMethSl C sp E ta t) := by
  refine ⟨fun pins s σ H Q I h => ?_⟩
  refine PySem.W.methodCall_KW (pl := pl) (thn (he.run pins s σ H _ I h) fun u s1 ⟨x, H1, I1, rx, a, dx, vs, ex, hsl, q⟩ => ?_) ht
  subst ex
  obtain rfl : u = Value.ref a := rx
  refine getmethsl_ok I1 hsl c hm ?_
  refine PySem.W.callWith_K (first := [.ref a]) (h₀ := X.base) I.ok.mod.kin hm.kp (thn (ha.run pos pins s1 σ H1 _ I1 q) fun us s2 ⟨ws, H2, I2, r, q2⟩ => ⟨I2.kIn, ?_⟩) hst hpl
  exact wpAny_call (run_g (us := .ref a :: us) (vs := .ref a :: ws) F (hr.mono hj) hx I2 (.cons rfl r) q2)
theorem pg_meth0 {pl : Sem Bool} (he : PE X o ta) (c : SCls X.K C) (hm : Meth X.K C m g) (F : FnX X k g sp) (hr : RoomG j X.A) (hj : k ≤ j) (hx : PassX X E)
    (ht : eval (.Call (.Attribute o m apos) [] [] pos) X.env = (do
      let ov ← eval o X.env
      standAt apos.atName
      let (f, first) ← holding [ov] (getMethod ov m pl)
      callWith pos f first (backTo pos (starEach [] X.env)) (backToKw pos (keywordEach [] X.env))) := by rfl) :
    PE X (.Call (.Attribute o m apos) [] [] pos) (tMethSl C sp E ta tNil) := by
  refine ⟨fun pins s σ H Q I h => ?_⟩
  refine PySem.W.methodCall_KW (pl := pl) (thn (he.run pins s σ H _ I h) fun u s1 ⟨x, H1, I1, rx, a, dx, vs, ex, hsl, q⟩ => ?_) ht
  subst ex
  obtain rfl : u = Value.ref a := rx
  refine getmethsl_ok I1 hsl c hm ?_
  exact PySem.W.callWith_K0 (first := [.ref a]) I1.kIn hm.kp (wpAny_call (run_g (us := [.ref a]) (vs := [.ref a]) F (hr.mono hj) hx I1 (.cons rfl .nil) q))
/-- the class has the name as a property at pr whose getter is the def at g -/
structure PropG (K : PySem.W.Frag) (C : Addr) (f : Str) (pr g : Addr) : Prop where
  at_ : PySem.W.findIn K (.ref C) f = some (some (.ref pr))
  get : PySem.W.specialIn K (.ref pr) "__get__" = some (some (.builtin "property.__get__"))
  tk : PySem.W.takesIn K (.ref pr) = some true
  rc : ∃ rest, PySem.W.recIn K pr "property" = some (.ref g :: rest)
theorem getprop {b : Bool} {a dx pr : Addr} {ws : List (Option V)} {nm : Str} (I : Inv X pins σ H s) (h : Slt H a C dx ws) (c : SCls X.K C) (hp : PropG X.K C nm pr g) (F : FnX X n g sp) (hr : RoomG (n + 1) X.A)
    (q : sp [.ref a] H Q E0) : wpAny (model X.prog X.w) X.A (getAttr (.ref a) nm b) (EP X pins σ Q) X.xe s := by
  obtain ⟨sl, od, _, J, _⟩ := slt_inst I h
  obtain ⟨rest, hrec⟩ := hp.rc
  have I1 : Inv X pins σ H { s with toks := s.toks + 1 } := I.tok (s.toks + 1)
  refine PySem.W.get_bind I.kIn J (PySem.W.plainGet_of (c.get nm)).1 (PySem.W.findObj_data c.ic hp.at_ hp.get hp.tk) (PySem.W.plainGet_of (c.get nm)).2
    (wpAny_call (PySem.W.prop_get (s := { s with toks := s.toks + 1 }) I.kIn hrec ?_))
  refine codeAny_mono (F X.A.in1 X.stack { s with toks := s.toks + 1 } H [.ref a] [.ref a] Q E0 hr.in1 I1.env0.in1 (.cons rfl .nil) q) fun r s' z => ?_
  cases r with
  | error e => exact (noX z).elim
  | ok fl =>
    cases fl with
    | ret u =>
      obtain ⟨v, H', I2, rv, q⟩ := I1.after z
      exact wpAny_of_eq (PySem.W.handedOut_of (handed_of rv)) ⟨v, H', I2, rv, q⟩
    | next => exact False.elim z
    | brk => exact False.elim z
    | cont => exact False.elim z
def tPr (C : Addr) (sp : Sp) (ta : TE) : TE := fun σ H Q => ta σ H fun x H1 => ∃ a dx vs, x = .ref a ∧ Slt H1 a C dx vs ∧ sp [.ref a] H1 Q E0
theorem pg_prop {pr : Addr} {nm : Str} (he : PE X e ta) (c : SCls X.K C) (hp : PropG X.K C nm pr g) (F : FnX X n g sp) (hr : RoomG j X.A) (hj : n + 1 ≤ j)
    (hb : attributeBase e nm X.env (eval e X.env) = eval e X.env := by rfl) : PE X (.Attribute e nm pos) (tPr C sp ta) := by
  refine ⟨fun pins s σ H Q I h => ?_⟩
  refine attr_of hb (thn (he.run pins s σ H _ I h) fun w s1 ⟨x, H1, I1, rx, a, dx, vs, ex, hs, q⟩ => ?_)
  subst ex
  obtain rfl : w = Value.ref a := rx
  exact getprop I1 hs c hp F (hr.mono hj) q
end
end Hv
/-! HB: operators between slotted instances and ints, on either side; abs; powers of great ints. -/
namespace Hv
open PySem PySem.Spec PyProof.Rows L2
open Builtin
abbrev OwnAt (h : Heap) (x C dx : Addr) (sl : Array (Option Value)) : Prop := h.get? x = some { PySem.W.instObj C dx with slots := sl }
abbrev Decl (B : Builtin) : Prop := ∀ (a : Int) (t : Tok) (x C dx : Addr) (sl : Array (Option Value)),
  Meets (B ⟨[.int a t, .ref x], []⟩) (fun _ R s => OwnAt s.heap x C dx sl ∧ R (.ok (.ret Value.notImplemented)) s)
theorem decl_add : Decl Builtin.«int.__add__» := fun _ _ _ _ _ _ =>
  .of_wp fun prog w A R s h => by obtain ⟨hp, g, d, tk, os⟩ := s; obtain ⟨hl, h⟩ := h; wp_walk; exact ⟨_, rfl, h⟩
theorem decl_sub : Decl Builtin.«int.__sub__» := fun _ _ _ _ _ _ =>
  .of_wp fun prog w A R s h => by obtain ⟨hp, g, d, tk, os⟩ := s; obtain ⟨hl, h⟩ := h; wp_walk; exact ⟨_, rfl, h⟩
theorem decl_mul : Decl Builtin.«int.__mul__» := fun _ _ _ _ _ _ =>
  .of_wp fun prog w A R s h => by obtain ⟨hp, g, d, tk, os⟩ := s; obtain ⟨hl, h⟩ := h; wp_walk; exact ⟨_, rfl, h⟩
theorem decl_lt : Decl Builtin.«int.__lt__» := fun _ _ _ _ _ _ =>
  .of_wp fun prog w A R s h => by obtain ⟨hp, g, d, tk, os⟩ := s; obtain ⟨hl, h⟩ := h; wp_walk; exact ⟨_, rfl, h⟩
theorem decl_le : Decl Builtin.«int.__le__» := fun _ _ _ _ _ _ =>
  .of_wp fun prog w A R s h => by obtain ⟨hp, g, d, tk, os⟩ := s; obtain ⟨hl, h⟩ := h; wp_walk; exact ⟨_, rfl, h⟩
theorem decl_gt : Decl Builtin.«int.__gt__» := fun _ _ _ _ _ _ =>
  .of_wp fun prog w A R s h => by obtain ⟨hp, g, d, tk, os⟩ := s; obtain ⟨hl, h⟩ := h; wp_walk; exact ⟨_, rfl, h⟩
theorem decl_ge : Decl Builtin.«int.__ge__» := fun _ _ _ _ _ _ =>
  .of_wp fun prog w A R s h => by obtain ⟨hp, g, d, tk, os⟩ := s; obtain ⟨hl, h⟩ := h; wp_walk; exact ⟨_, rfl, h⟩
theorem decl_eq : Decl Builtin.«int.__eq__» := fun _ _ _ _ _ _ =>
  .of_wp fun prog w A R s h => by obtain ⟨hp, g, d, tk, os⟩ := s; obtain ⟨hl, h⟩ := h; wp_walk; exact ⟨_, rfl, h⟩
theorem decl_ne : Decl Builtin.«int.__ne__» := fun _ _ _ _ _ _ =>
  .of_wp fun prog w A R s h => by obtain ⟨hp, g, d, tk, os⟩ := s; obtain ⟨hl, h⟩ := h; wp_walk; exact ⟨_, rfl, h⟩
/-- what the table says of an int's operator -/
structure IntOp (name : Str) (id : String) (B : Builtin) : Prop where
  slot : Slot "int" name id
  entry : entryFor table id = some B
  args : ∀ a b : Value, argsOk id ⟨[a, b], []⟩
  decl : Decl B
theorem io_add : IntOp (dunder "add") "int.__add__" Builtin.«int.__add__» := ⟨F.slot_int_add, F.entry_int_add, F.args_int_add_2, decl_add⟩
theorem io_sub : IntOp (dunder "sub") "int.__sub__" Builtin.«int.__sub__» := ⟨F.slot_int_sub, F.entry_int_sub, F.args_int_sub_2, decl_sub⟩
theorem io_mul : IntOp (dunder "mul") "int.__mul__" Builtin.«int.__mul__» := ⟨F.slot_int_mul, F.entry_int_mul, F.args_int_mul_2, decl_mul⟩
theorem io_lt : IntOp (cmpInfo .Lt).2.1 "int.__lt__" Builtin.«int.__lt__» := ⟨F.slot_int_lt, F.entry_int_lt, F.args_int_lt_2, decl_lt⟩
theorem io_le : IntOp (cmpInfo .LtE).2.1 "int.__le__" Builtin.«int.__le__» := ⟨F.slot_int_le, F.entry_int_le, F.args_int_le_2, decl_le⟩
theorem io_gt : IntOp (cmpInfo .Gt).2.1 "int.__gt__" Builtin.«int.__gt__» := ⟨F.slot_int_gt, F.entry_int_gt, F.args_int_gt_2, decl_gt⟩
theorem io_ge : IntOp (cmpInfo .GtE).2.1 "int.__ge__" Builtin.«int.__ge__» := ⟨F.slot_int_ge, F.entry_int_ge, F.args_int_ge_2, decl_ge⟩
theorem io_eq : IntOp (cmpInfo .Eq).2.1 "int.__eq__" Builtin.«int.__eq__» := ⟨F.slot_int_eq, F.entry_int_eq, F.args_int_eq_2, decl_eq⟩
theorem io_ne : IntOp (cmpInfo .NotEq).2.1 "int.__ne__" Builtin.«int.__ne__» := ⟨F.slot_int_ne, F.entry_int_ne, F.args_int_ne_2, decl_ne⟩
section
variable {prog : Program} {w : World} {A : Around} {E : Value → Shared → Prop} {s : Shared} {K : PySem.W.Frag} {x C dx f fl : Addr} {sl : Array (Option Value)} {od : Option Obj} {i : Int} {t : Tok} {id : String} {B : Builtin}
open PySem.W
theorem try_declines {name : Str} {Q : Option Value → Shared → Prop} (io : IntOp name id B) (hx : OwnAt s.heap x C dx sl) (h : Q none s) :
    wpAny (model prog w) A (tryMethod (.int i t) name (.ref x)) Q E s :=
  wpAny_tryMethod_declines (typeIs_int s i t) io.slot (call_meets io.slot (typeIs_int s i t) io.entry (io.args _ _) (io.decl i t x C dx sl) ⟨hx, rfl, h⟩)
theorem cmp_declines {name : Str} {Q : Option Value → Shared → Prop} (io : IntOp name id B) (hx : OwnAt s.heap x C dx sl) (h : Q none s) :
    wpAny (model prog w) A (tryCompare (.int i t) name (.ref x)) Q E s :=
  wpAny_tryCompare_declines (typeIs_int s i t) io.slot (call_meets io.slot (typeIs_int s i t) io.entry (io.args _ _) (io.decl i t x C dx sl) ⟨hx, rfl, h⟩)
/-- an int op an instance: the instance's reflected method -/
theorem rev_bin {op : Operator} {Q : Value → Shared → Prop} (X : K.In s.heap) (I : InstAt s.heap x { instObj C dx with slots := sl } C od) (hc : selfFirst K C = true)
    (hl : findIn K (.ref C) (PySem.dunder op.info.2) = some (some (.ref fl))) (hs : findIn K (.ref C) (dunderR op.info.2) = some (some (.ref f))) (hf : isFn K (.ref f) = true)
    (hT : fillsNumberSlot (.type "int") op.info.2 = pure true) (hsub : subIn K (.ref C) (.type "int") = some false) (io : IntOp (PySem.dunder op.info.2) id B)
    (h : wpAny (model prog w) A (call (.ref f) [.ref x, .int i t]) (PySem.W.CmpBack Q) E s) : wpAny (model prog w) A (binaryOp op (.int i t) (.ref x)) Q E s := by
  obtain ⟨cd, rest, hcd, hm⟩ := ksp_first hc
  rcases hi : op.info with ⟨sym, nm⟩
  rw [hi] at hl hs hT io
  dsimp only at hl hs hT io
  have one := ksp_try X I hs hf h
  have dec : ∀ Q' : Option Value → Shared → Prop, Q' none s → wpAny (model prog w) A (tryMethod (.int i t) (PySem.dunder nm) (.ref x)) Q' E s := fun Q' q => try_declines io I.at_ q
  obtain ⟨hh, g, d, tt, os⟩ := s
  have L1 : Looks (model prog w) hh (typeOf (.int i t)) (.type "int") := Looks.of_pure rfl
  have L2 : Looks (model prog w) hh (typeOf (.ref x)) (.ref C) := I.type
  have L3 : Looks (model prog w) hh (fillsNumberSlot (.type "int") nm) true := Looks.of_pure hT
  have L4 : Looks (model prog w) hh (fillsNumberSlot (.ref C) nm) true := fills_K X hcd hm hl
  have L5 : Looks (model prog w) hh (isSubtype (.ref C) (.type "int")) false := looks_subIn X hsub
  have L7 : Looks (model prog w) hh (numberSlotInPython (.type "int") nm) false := Looks.of_pure rfl
  have hne : (Value.type "int" == Value.ref C) = false := Bool.eq_false_iff.mpr fun q => by cases beq_iff_eq.mp q
  simp only [binaryOp, hi]
  refine wpAny_holding (wpAny_bind ?_)
  unfold binaryOp1
  refine wpAny_bind (L1.at (wpAny_bind (L2.at (wpAny_bind (L3.at ?_)))))
  simp only [hne, Bool.false_eq_true, if_false]
  ksp_lk
  refine dec _ ?_
  ksp_lk
  refine wpAny_mono one (fun r s' hr' => ?_) fun _ _ e => e
  obtain ⟨v, rfl, hq⟩ := hr'
  ksp_lk
  exact hq
/-- an int beside an instance: the instance's reflected comparison -/
theorem rev_cmp {op : CmpOp} {Q : Value → Shared → Prop} (hu : A.units < cLine) (X : K.In s.heap) (I : InstAt s.heap x { instObj C dx with slots := sl } C od)
    (hs : findIn K (.ref C) (cmpInfo op).2.2 = some (some (.ref f))) (hf : isFn K (.ref f) = true) (hsub : subIn K (.ref C) (.type "int") = some false) (io : IntOp (cmpInfo op).2.1 id B)
    (h : wpAny (model prog w) A (call (.ref f) [.ref x, .int i t]) (PySem.W.CmpBack Q) E s) : wpAny (model prog w) A (richCompare op (.int i t) (.ref x)) Q E s := by
  have one : wpAny (model prog w) A (tryCompare (.ref x) (cmpInfo op).2.2 (.int i t)) (fun r s' => ∃ v, r = some v ∧ Q v s') E s := by
    unfold tryCompare
    refine wpAny_bind (ifBound_K X I hs hf (wpAny_mono h (fun v s' hv => ?_) fun _ _ e => e))
    cases v <;> first | exact hv.elim | exact wpAny_pure ⟨_, rfl, hv⟩
  have dec : ∀ Q' : Option Value → Shared → Prop, Q' none s → wpAny (model prog w) A (tryCompare (.int i t) (cmpInfo op).2.1 (.ref x)) Q' E s := fun Q' q => cmp_declines io I.at_ q
  have hne : (Value.type "int" != Value.ref C) = true := by simp
  have h1 : oneThing? op (.int i t) (.ref x) = none := by cases op <;> rfl
  unfold richCompare
  simp only [h1]
  refine wpAny_holding (wpAny_bind (wpAny_cRoomFor hu ?_))
  refine wpAny_bind (wpAny_of_eq (show typeOf (.int i t) = pure (.type "int") from rfl) (wpAny_bind (I.type.here ?_)))
  simp only [hne, if_true]
  refine wpAny_bind ((looks_subIn X hsub).here ?_)
  simp only [Bool.false_eq_true, if_false]
  refine wpAny_bind (dec _ ?_)
  simp only [Bool.not_false, if_true]
  refine wpAny_bind (wpAny_mono one (fun r s' z => ?_) fun _ _ e => e)
  obtain ⟨v, rfl, hq⟩ := z
  exact wpAny_pure hq
end
end Hv
/-! HC: the operators' rules over the layer, for a class with slots that counts as a number. -/
namespace Hv
open PySem PySem.Spec PyProof.Rows L2 SlX
/-- what the written part says of the class at C -/
structure NumC (K : PySem.W.Frag) (C : Addr) : Prop where
  sc : SCls K C
  si : SIsi K C
  sf : PySem.W.selfFirst K C = true
  sub : PySem.W.subIn K (.ref C) (.type "int") = some false
  nis : PySem.W.notFirst K C (.ref C) = true
def IsIn (C : Addr) (H : Hp) (x : V) : Prop := ∃ a dx vs, x = V.ref a ∧ Slt H a C dx vs
/-- x op y: an instance on the left (beside an instance or an int), or an int on the left -/
def rNum (C : Addr) (sp spr : Sp) (E : XK) : R2 := fun x y H Q =>
  (IsIn C H x ∧ (IsIn C H y ∨ ∃ j, y = .int j) ∧ sp [x, y] H Q E) ∨ ((∃ i, x = .int i) ∧ IsIn C H y ∧ spr [y, x] H Q E)
/-- the table's word of an int's operator by its method's name -/
structure IntTab (nm : String) : Prop where
  fo : ∃ v : Option Value, ∀ K, PySem.W.findIn K (.type "int") (PySem.dunder nm) = some v
  ro : ∃ v : Option Value, ∀ K, PySem.W.findIn K (.type "int") (dunderR nm) = some v
  fills : fillsNumberSlot (.type "int") nm = pure true
theorem tab_add : IntTab "add" := ⟨⟨some (.builtin "int.__add__"), fun _ => by kernel_rfl⟩, ⟨some (.builtin "int.__radd__"), fun _ => by kernel_rfl⟩, PySem.F.fills_int_add⟩
theorem tab_sub : IntTab "sub" := ⟨⟨some (.builtin "int.__sub__"), fun _ => by kernel_rfl⟩, ⟨some (.builtin "int.__rsub__"), fun _ => by kernel_rfl⟩, PySem.F.fills_int_sub⟩
theorem tab_mul : IntTab "mul" := ⟨⟨some (.builtin "int.__mul__"), fun _ => by kernel_rfl⟩, ⟨some (.builtin "int.__rmul__"), fun _ => by kernel_rfl⟩, PySem.F.fills_int_mul⟩
section
variable {X : Cx} {pins : List (Addr × Obj)} {σ : L2.St} {H : Hp} {s : Shared} {C g gr : Addr} {n j : Nat} {sp spr : Sp} {E : XK} {id : String} {B : Builtin}
theorem sub_int (K : PySem.W.Frag) (C : Addr) : PySem.W.subIn K (.type "int") (.ref C) = some false := by
  have e : PySem.fastBuiltinMro "int" = some [.type "int", .type "object"] := by kernel_rfl
  show Option.map (fun l => l.contains (Value.ref C)) (PySem.fastBuiltinMro "int") = some false
  rw [e]
  simp
theorem rr (a : Addr) : RelV (.ref a) (.ref a) := rfl
theorem ri (k : Int) (t : Tok) : RelV (.int k) (.int k t) := ⟨t, rfl⟩
theorem call_back {Q : VK} {us : List Value} {vs : List V} (F : FnX X n g sp) (hr : RoomG n X.A) (hx : PassX X E) (I : Inv X pins σ H s) (r : Vals vs us) (h : sp vs H Q E) :
    wpAny (model X.prog X.w) X.A (call (.ref g) us) (PySem.W.CmpBack (EP X pins σ Q)) X.xe s := by
  refine wpAny_mono (wpAny_call (run_g F hr hx I r h)) (fun w s' z => ?_) fun _ _ x => x
  obtain ⟨z', H', I', rz, qz⟩ := z
  exact cmpback rz ⟨z', H', I', rz, qz⟩
theorem op_num {op : Operator} (c : NumC X.K C) (m : Meth X.K C (PySem.dunder op.info.2) g) (mr : Meth X.K C (dunderR op.info.2) gr) (F : FnX X n g sp) (Fr : FnX X n gr spr) (hr : RoomG j X.A) (hj : n ≤ j) (hx : PassX X E)
    (tb : IntTab op.info.2) (io : IntOp (PySem.dunder op.info.2) id B) : OpR X (binaryOp op) (rNum C sp spr E) := by
  intro pins s σ H x y v u Q I rx ry h
  have hr' := hr.mono hj
  obtain ⟨m', hF⟩ := I.fr
  rcases h with ⟨⟨a, dx, vs, rfl, ha⟩, hy, q⟩ | ⟨⟨i, rfl⟩, ⟨b, dy, ws, rfl, hb⟩, q⟩
  · cases (show v = Value.ref a from rx)
    obtain ⟨sl, od, _, J, _⟩ := slt_inst I ha
    rcases hy with ⟨b, dy, ws, rfl, hb⟩ | ⟨k, rfl⟩
    · cases (show u = Value.ref b from ry)
      obtain ⟨sl', od', _, J', _⟩ := slt_inst I hb
      exact PySem.W.binop_K hF I.ok.mod.kin J J'.type c.sf m.at_ m.fn (call_back F hr' hx I (.cons (rr a) (.cons (rr b) .nil)) q)
    · obtain ⟨t, rfl⟩ := (show ∃ t, u = Value.int k t from ry)
      obtain ⟨fo, h1⟩ := tb.fo
      obtain ⟨ro, h2⟩ := tb.ro
      exact PySem.W.ksp_binT hF I.ok.mod.kin J rfl c.sf m.at_ m.fn mr.at_ (.inr ⟨_, rfl⟩) (h1 _) (h2 _) (sub_int _ _) (call_back F hr' hx I (.cons (rr a) (.cons (ri k t) .nil)) q)
  · obtain ⟨t, rfl⟩ := (show ∃ t, v = Value.int i t from rx)
    cases (show u = Value.ref b from ry)
    obtain ⟨sl, od, _, J, _⟩ := slt_inst I hb
    exact rev_bin I.kIn J c.sf m.at_ mr.at_ mr.fn tb.fills c.sub io (call_back Fr hr' hx I (.cons (rr b) (.cons (ri i t) .nil)) q)
theorem op_cmpn {op : CmpOp} (hop : ∀ a b, compareOp op a b = richCompare op a b) (c : NumC X.K C) (m : Meth X.K C (cmpInfo op).2.1 g) (mr : Meth X.K C (cmpInfo op).2.2 gr) (F : FnX X n g sp) (Fr : FnX X n gr spr)
    (hr : RoomG j X.A) (hj : n ≤ j) (hx : PassX X E) (io : IntOp (cmpInfo op).2.1 id B) : OpR X (compareOp op) (rNum C sp spr E) := by
  intro pins s σ H x y v u Q I rx ry h
  have hr' := hr.mono hj
  obtain ⟨m', hF⟩ := I.fr
  rw [hop]
  rcases h with ⟨⟨a, dx, vs, rfl, ha⟩, hy, q⟩ | ⟨⟨i, rfl⟩, ⟨b, dy, ws, rfl, hb⟩, q⟩
  · cases (show v = Value.ref a from rx)
    obtain ⟨sl, od, _, J, _⟩ := slt_inst I ha
    rcases hy with ⟨b, dy, ws, rfl, hb⟩ | ⟨k, rfl⟩
    · cases (show u = Value.ref b from ry)
      obtain ⟨sl', od', _, J', _⟩ := slt_inst I hb
      exact PySem.W.cmp_K hr.r.units0 hF I.ok.mod.kin J J'.type c.nis m.at_ m.fn (call_back F hr' hx I (.cons (rr a) (.cons (rr b) .nil)) q)
    · obtain ⟨t, rfl⟩ := (show ∃ t, u = Value.int k t from ry)
      refine PySem.W.cmp_K (tb := .type "int") hr.r.units0 hF I.ok.mod.kin J (.of_pure rfl) ?_ m.at_ m.fn (call_back F hr' hx I (.cons (rr a) (.cons (ri k t) .nil)) q)
      unfold PySem.W.notFirst
      rw [sub_int]
      simp
  · obtain ⟨t, rfl⟩ := (show ∃ t, v = Value.int i t from rx)
    cases (show u = Value.ref b from ry)
    obtain ⟨sl, od, _, J, _⟩ := slt_inst I hb
    exact rev_cmp hr.r.units0 I.kIn J mr.at_ mr.fn c.sub io (call_back Fr hr' hx I (.cons (rr b) (.cons (ri i t) .nil)) q)
/-- -x -/
theorem un_negn (m : Meth X.K C "__neg__" g) (F : FnX X n g sp) (hr : RoomG j X.A) (hj : n ≤ j) (hx : PassX X E) : UnR X (unaryOp .USub) (fun x H Q => IsIn C H x ∧ sp [x] H Q E) := by
  intro pins s σ H x v Q I rx h
  obtain ⟨⟨a, dx, vs, rfl, ha⟩, q⟩ := h
  cases (show v = Value.ref a from rx)
  obtain ⟨sl, od, _, J, _⟩ := slt_inst I ha
  obtain ⟨m', hF⟩ := I.fr
  exact PySem.W.ksp_neg hF I.ok.mod.kin J m.at_ m.fn (wpAny_call (run_g F (hr.mono hj) hx I (.cons (rr a) .nil) q))
/-- abs(x) -/
theorem call_absn (m : Meth X.K C "__abs__" g) (F : FnX X n g sp) (hr : RoomG j X.A) (hj : n + 1 ≤ j) (hx : PassX X E) : CallR X (.builtin "abs") (fun xs H Q => ∃ x, xs = [x] ∧ IsIn C H x ∧ sp [x] H Q E) := by
  intro pins s σ H xs us Q I r h
  obtain ⟨x, rfl, ⟨a, dx, vs, rfl, ha⟩, q⟩ := h
  obtain ⟨u, rfl, rx⟩ := vals1 r
  cases (show u = Value.ref a from rx)
  obtain ⟨sl, od, _, J, _⟩ := slt_inst I ha
  refine Calls.call_function_entry kind_abs plain_abs entry_abs (args_abs _) ?_
  unfold Builtin.«abs»
  refine wpAny_bind (m := oneArg "abs" _) (wpAny_pure ?_)
  refine wpAny_bind (m := callSpecial? (.ref a) (Str.ofString "__abs__")) ?_
  have q1 := wpAny_call (run_at (us := [.ref a]) (vs := [.ref a]) F (hr.mono hj).in1 I.env0.in1 hx I (.cons rfl .nil) q)
  refine PySem.W.special_fn I.kIn J m.at_ (beq_iff_eq.mp m.fn) (wpAny_mono q1 (fun v s' z => ?_) fun _ _ z => z)
  obtain ⟨z', H', I', rz, qz⟩ := z
  have hk : PySem.W.CmpBack (fun v s' => EP X pins σ Q v s') v s' := cmpback rz ⟨z', H', I', rz, qz⟩
  exact wpAny_pure ⟨v, rfl, z', H', I', rz, qz⟩
end
end Hv
/-! HK: kinds of values, and isinstance by kinds. cs: the own classes whose instances are told apart. -/
namespace Hv
open PySem PySem.Spec PyProof.Rows L2 SlX
inductive Kind where
  | non | bl | int | str | lst | tup | dic | own (C : Addr)
  deriving DecidableEq
def Kind.isT : Kind → String → Bool
  | .non, T => T == "NoneType"
  | .bl, T => T == "bool" || T == "int"
  | .int, T => T == "int"
  | .str, T => T == "str"
  | .lst, T => T == "list"
  | .tup, T => T == "tuple"
  | .dic, T => T == "dict"
  | .own _, _ => false
def tys : List String := ["int", "bool", "str", "list", "tuple", "dict"]
/-- what is asked of the classes -/
structure Cs (K : PySem.W.Frag) (cs : List Addr) : Prop where
  cls : ∀ C ∈ cs, (PySem.W.clsIn K C).isSome = true
  typ : ∀ C ∈ cs, PySem.W.typeIn K (.ref C) = some (.type "type")
  bas : ∀ C ∈ cs, ∀ T ∈ tys, PySem.W.subIn K (.ref C) (.type T) = some false
  own : ∀ C ∈ cs, ∀ D ∈ cs, PySem.W.subIn K (.ref C) (.ref D) = some (decide (C = D))
inductive HasK (K : PySem.W.Frag) (cs : List Addr) (H : Hp) : V → Kind → Prop where
  | non : HasK K cs H .non .non
  | bl (b : Bool) : HasK K cs H (.bl b) .bl
  | int (i : Int) : HasK K cs H (.int i) .int
  | str (x : Str) : HasK K cs H (.str x) .str
  | lst {a : Addr} {xs : List V} (e : H a = some (.lst xs)) : HasK K cs H (.ref a) .lst
  | frz {a : Addr} {o : Obj} {xs : List V} (e : H a = some (.frz o (.lst xs))) : HasK K cs H (.ref a) .lst
  | tup {a : Addr} {xs : List V} (e : H a = some (.tup xs)) : HasK K cs H (.ref a) .tup
  | dK {a : Addr} {kvs : List (Key × V)} (e : H a = some (.dK kvs)) : HasK K cs H (.ref a) .dic
  | fD {a : Addr} {o : Obj} {kvs : List (Key × V)} (e : H a = some (.frz o (.dK kvs))) : HasK K cs H (.ref a) .dic
  | slt {a C dx : Addr} {vs : List (Option V)} (m : C ∈ cs) (c : SCls K C) (i : SIsi K C) (h : Slt H a C dx vs) : HasK K cs H (.ref a) (.own C)
  | ins {a C dx : Addr} {fs : List (Str × V)} (m : C ∈ cs) (c : Cls K C) (i : SIsi K C) (e : H a = some (.ins C dx fs)) : HasK K cs H (.ref a) (.own C)
def Kind.val : Kind → Value
  | .non => .type "NoneType"
  | .bl => .type "bool"
  | .int => .type "int"
  | .str => .type "str"
  | .lst => .type "list"
  | .tup => .type "tuple"
  | .dic => .type "dict"
  | .own C => .ref C
abbrev kitMetaAll : Prop := ∀ T ∈ tys, PySem.W.kitMeta T = true
theorem kitMeta_all : kitMetaAll := by decide +kernel
section
variable {K : PySem.W.Frag} {cs : List Addr} {H : Hp} {x : V} {k : Kind}
theorem kit_tab (c : Cs K cs) (h : HasK K cs H x k) {T : String} (hT : T ∈ tys) : PySem.W.kitOne K k.val (.type T) = some (k.isT T) := by
  have base : ∀ n ∈ (["NoneType", "bool", "int", "str", "list", "tuple", "dict"] : List String), ∀ T ∈ tys, kitB n T = some (n == T || (n == "bool" && T == "int")) := by decide +kernel
  have b2 : ∀ n ∈ (["NoneType", "bool", "int", "str", "list", "tuple", "dict"] : List String), PySem.W.kitOne K (.type n) (.type T) = some (n == T || (n == "bool" && T == "int")) :=
    fun n hn => kit_ty (base n hn T hT)
  have sw : ∀ a b : String, (a == b) = (b == a) := fun a b => by
    rw [Bool.eq_iff_iff, beq_iff_eq, beq_iff_eq]
    exact ⟨Eq.symm, Eq.symm⟩
  cases h with
  | slt m _ _ _ =>
    have e : kitMetaAll := kitMeta_all
    show PySem.W.kitOne K (.ref _) (.type T) = some false
    unfold PySem.W.kitOne PySem.W.kitCls
    rw [if_neg (by simp)]
    show (if PySem.W.kitMeta T = true then PySem.W.subIn K (.ref _) (.type T) else none) = some false
    rw [if_pos (e T hT)]
    exact c.bas _ m T hT
  | ins m _ _ _ =>
    have e : kitMetaAll := kitMeta_all
    show PySem.W.kitOne K (.ref _) (.type T) = some false
    unfold PySem.W.kitOne PySem.W.kitCls
    rw [if_neg (by simp)]
    show (if PySem.W.kitMeta T = true then PySem.W.subIn K (.ref _) (.type T) else none) = some false
    rw [if_pos (e T hT)]
    exact c.bas _ m T hT
  | non => exact (b2 "NoneType" (by decide)).trans (congrArg some (by simp only [Kind.isT]; rw [sw]; simp))
  | bl b => exact (b2 "bool" (by decide)).trans (congrArg some (by simp only [Kind.isT]; rw [sw]; simp))
  | int i => exact (b2 "int" (by decide)).trans (congrArg some (by simp only [Kind.isT]; rw [sw]; simp))
  | str y => exact (b2 "str" (by decide)).trans (congrArg some (by simp only [Kind.isT]; rw [sw]; simp))
  | lst e => exact (b2 "list" (by decide)).trans (congrArg some (by simp only [Kind.isT]; rw [sw]; simp))
  | frz e => exact (b2 "list" (by decide)).trans (congrArg some (by simp only [Kind.isT]; rw [sw]; simp))
  | tup e => exact (b2 "tuple" (by decide)).trans (congrArg some (by simp only [Kind.isT]; rw [sw]; simp))
  | dK e => exact (b2 "dict" (by decide)).trans (congrArg some (by simp only [Kind.isT]; rw [sw]; simp))
  | fD e => exact (b2 "dict" (by decide)).trans (congrArg some (by simp only [Kind.isT]; rw [sw]; simp))
theorem kit_own (c : Cs K cs) (h : HasK K cs H x k) {D : Addr} (hD : D ∈ cs) : PySem.W.kitOne K k.val (.ref D) = some (decide (k = .own D)) := by
  have hc : ((PySem.W.clsIn K D).isSome && PySem.W.typeIn K (.ref D) == some (.type "type")) = true := by
    rw [c.cls D hD, c.typ D hD]
    rfl
  have bas : ∀ n : String, n ∈ (["NoneType", "bool", "int", "str", "list", "tuple", "dict"] : List String) → PySem.W.kitOne K (.type n) (.ref D) = some false := fun n hn => by
    unfold PySem.W.kitOne PySem.W.kitCls
    rw [if_neg (by simp)]
    show (if ((PySem.W.clsIn K D).isSome && PySem.W.typeIn K (.ref D) == some (.type "type")) = true then PySem.W.subIn K (.type n) (.ref D) else none) = some false
    rw [if_pos hc]
    have h2 : ∀ n ∈ (["NoneType", "bool", "int", "str", "list", "tuple", "dict"] : List String), ∃ l : List Value, PySem.fastBuiltinMro n = some l ∧ (l.all fun v => match v with | .ref _ => false | _ => true) = true := by
      intro n hn
      have z : ∀ n ∈ (["NoneType", "bool", "int", "str", "list", "tuple", "dict"] : List String), ((PySem.fastBuiltinMro n).any fun l => l.all fun v => match v with | .ref _ => false | _ => true) = true := by decide +kernel
      obtain ⟨l, e1, e2⟩ := PySem.W.any_some (z n hn)
      exact ⟨l, e1, e2⟩
    obtain ⟨l, e1, e2⟩ := h2 n hn
    show Option.map (fun l => l.contains (Value.ref D)) (PySem.fastBuiltinMro n) = some false
    rw [e1]
    show some (l.contains (Value.ref D)) = some false
    congr 1
    rw [← Bool.not_eq_true]
    intro hm
    have hm' := List.contains_iff_mem.mp hm
    have := List.all_eq_true.mp e2 _ hm'
    cases this
  have own : ∀ C ∈ cs, PySem.W.kitOne K (.ref C) (.ref D) = some (decide (Kind.own C = Kind.own D)) := fun C hC => by
    unfold PySem.W.kitOne PySem.W.kitCls
    by_cases e : C = D
    · subst e
      simp
    · rw [if_neg (by simp [e])]
      show (if ((PySem.W.clsIn K D).isSome && PySem.W.typeIn K (.ref D) == some (.type "type")) = true then PySem.W.subIn K (.ref C) (.ref D) else none) = _
      rw [if_pos hc, c.own C hC D hD]
      simp
  cases h with
  | slt m _ _ _ => exact own _ m
  | ins m _ _ _ => exact own _ m
  | non => exact (bas "NoneType" (by decide)).trans (by simp)
  | bl b => exact (bas "bool" (by decide)).trans (by simp)
  | int i => exact (bas "int" (by decide)).trans (by simp)
  | str y => exact (bas "str" (by decide)).trans (by simp)
  | lst e => exact (bas "list" (by decide)).trans (by simp)
  | frz e => exact (bas "list" (by decide)).trans (by simp)
  | tup e => exact (bas "tuple" (by decide)).trans (by simp)
  | dK e => exact (bas "dict" (by decide)).trans (by simp)
  | fD e => exact (bas "dict" (by decide)).trans (by simp)
/-- what the library asks of such a value -/
theorem kitx_of {X : Cx} {pins : List (Addr × Obj)} {σ : L2.St} {s : Shared} {u : Value} (I : Inv X pins σ H s) (rx : RelV x u) (h : HasK X.K cs H x k) :
    ∃ P : Heap → Prop, PySem.W.KitX X.K u k.val P ∧ P s.heap ∧ u ≠ .builtin "__main__.__loader__#opaque" := by
  cases h with
  | non => exact kit_of I rx (.base .non)
  | bl b => exact kit_of I rx (.base (.bl b))
  | int i => exact kit_of I rx (.base (.int i))
  | str y => exact kit_of I rx (.base (.str y))
  | lst e => exact kit_of I rx (.base (.lst e))
  | frz e => exact kit_of I rx (.base (.frz e))
  | tup e => exact kit_of I rx (.base (.tup e))
  | dK e => exact kit_of I rx (.base (.dK e))
  | fD e => exact kit_of I rx (.fDict e)
  | @slt a C dx vs m c i h =>
    cases (show u = Value.ref a from rx)
    obtain ⟨sl, od, _, J, _⟩ := slt_inst I h
    exact ⟨_, OwX.kitx_slt c.ic (c.get _) i.ca i.cn i.ct i.cm, J, fun z => nomatch z⟩
  | @ins a C dx fs m c i e => exact kit_of I rx (.base (.ins e c i.ca i.cn i.ct i.cm))
section
variable {X : Cx}
/-- isinstance(x, T), T one of the built-in classes -/
theorem call_isT (c : Cs X.K cs) : CallR X (.builtin "isinstance") (fun xs H Q => ∃ x T k, xs = [x, .ty T] ∧ HasK X.K cs H x k ∧ T ∈ tys ∧ Q (.bl (k.isT T)) H) := by
  intro pins s σ H xs us Q I r h
  obtain ⟨x, T, k, rfl, hk, hT, q⟩ := h
  obtain ⟨u1, u2, rfl, r1, r2⟩ := vals2 r
  cases (show u2 = Value.type T from r2)
  obtain ⟨P, Z, p, hx⟩ := kitx_of I r1 hk
  exact PySem.W.kia_one Z I.kIn p (kit_tab c hk hT) hx fun tk => ⟨.bl _, H, I.tok tk, rfl, q⟩
/-- isinstance(x, D), D one of the own classes -/
theorem call_isO (c : Cs X.K cs) : CallR X (.builtin "isinstance") (fun xs H Q => ∃ x D k, xs = [x, .ref D] ∧ HasK X.K cs H x k ∧ D ∈ cs ∧ Q (.bl (decide (k = .own D))) H) := by
  intro pins s σ H xs us Q I r h
  obtain ⟨x, D, k, rfl, hk, hD, q⟩ := h
  obtain ⟨u1, u2, rfl, r1, r2⟩ := vals2 r
  cases (show u2 = Value.ref D from r2)
  obtain ⟨P, Z, p, hx⟩ := kitx_of I r1 hk
  exact PySem.W.kia_one Z I.kIn p (kit_own c hk hD) hx fun tk => ⟨.bl _, H, I.tok tk, rfl, q⟩
end
end
end Hv
/-! HD: repr of data; powers of great ints; heaps that change at one place. -/
namespace Hv
open PySem PySem.Spec PyProof.Rows L2
section
variable {X : Cx}
/-- repr(x), x an object that reads as data without dicts -/
theorem call_reprD {k : Nat} (hr : RoomG k X.A) : CallR X (.builtin "repr") (fun xs H Q => ∃ a d, xs = [.ref a] ∧ Dp X.K H (.ref a) d ∧ d.showable = true ∧ d.hasDict = false ∧ d.depth ≤ 60 ∧ d.shown.length ≤ sizeLine ∧ Q (.str d.shown) H) := by
  intro pins s σ H xs us Q I r h
  obtain ⟨a, d, rfl, hd, h1, h2, h3, h4, q⟩ := h
  obtain ⟨u, rfl, rx⟩ := vals1 r
  obtain ⟨as, rd⟩ := Dp.reads I d _ _ hd rx
  cases (show u = Value.ref a from rx)
  have hu := hr.r.units
  exact repr_of_reads' rd h1 (PyData.noDict_hsm h2) hr.g (by omega) (fun _ _ e => e) (fun h' u tk kp => ⟨.str d.shown, H, I.kept kp, ⟨u, rfl⟩, q⟩) h4
def CPowW (i j : Int) : Prop := 0 ≤ j ∧ (Builtin.Int.intBits i : Int) * j ≤ 2 ^ 27
theorem op_powW : OpR X (binaryOp .Pow) (rI CPowW fun i j => .int (i ^ j.toNat)) := opI fun _ _ _ _ _ _ _ hc q => pow_int hc.1 hc.2 q
end
/-! ### heaps: all but the place p stay -/
def ExB (p : Addr) (H H' : Hp) : Prop := ∀ a o, a ≠ p → H a = some o → H' a = some o
theorem ExB.refl (p : Addr) (H : Hp) : ExB p H H := fun _ _ _ h => h
theorem ExB.trans {p : Addr} {H H1 H2 : Hp} (a : ExB p H H1) (b : ExB p H1 H2) : ExB p H H2 := fun x o n h => b x o n (a x o n h)
theorem Same.exb {p : Addr} {H H' : Hp} (e : Same H H') : ExB p H H' := fun a o _ h => e a o h
theorem ExB.new {p q : Addr} {H H' : Hp} {o : HO} (e : ExB p H H') (h : H' q = none) : ExB p H (upd H' q o) := fun a u n ha => by
  rw [upd_ne (ne_of_none (e a u n ha) h)]
  exact e a u n ha
theorem Same.new {q : Addr} {H H' : Hp} {o : HO} (e : Same H H') (h : H' q = none) : Same H (upd H' q o) := fun a u ha => by
  rw [upd_ne (ne_of_none (e a u ha) h)]
  exact e a u ha
theorem ExB.put {p : Addr} {H H' : Hp} {o : HO} (e : ExB p H H') : ExB p H (upd H' p o) := fun a u n ha => by
  rw [upd_ne n]
  exact e a u n ha
theorem ExB.fresh {p q : Addr} {H H' : Hp} (e : ExB p H H') (n : q ≠ p) (h : H' q = none) : H q = none := by
  cases z : H q with
  | none => rfl
  | some o => rw [e q o n z] at h; cases h
theorem Same.fresh {q : Addr} {H H' : Hp} (e : Same H H') (h : H' q = none) : H q = none := by
  cases z : H q with
  | none => rfl
  | some o => rw [e q o z] at h; cases h
end Hv
/-! HM: plain mathematics of fractions. -/
namespace Hv
/-- both parts below 2 ^ b -/
def Sz (b : Nat) (q : Rat) : Prop := q.num.natAbs < 2 ^ b ∧ q.den < 2 ^ b
theorem Sz.mono {a b : Nat} {q : Rat} (h : Sz a q) (l : a ≤ b) : Sz b q :=
  ⟨Nat.lt_of_lt_of_le h.1 (Nat.pow_le_pow_right (by decide) l), Nat.lt_of_lt_of_le h.2 (Nat.pow_le_pow_right (by decide) l)⟩
theorem two_pow_pos' (b : Nat) : 0 < 2 ^ b := Nat.pow_pos (by decide)
theorem sz_int {b : Nat} {i : Int} (h : i.natAbs < 2 ^ b) (hb : 0 < b) : Sz b (i : Rat) := by
  refine ⟨h, ?_⟩
  show 1 < 2 ^ b
  exact Nat.one_lt_two_pow (by omega)
theorem num_le (n u : Int) : (Rat.divInt n u).num.natAbs ≤ n.natAbs := by
  rw [Rat.num_divInt]
  refine Nat.le_trans (Int.natAbs_ediv_le_natAbs _ _) ?_
  rw [Int.natAbs_mul]
  have : u.sign.natAbs ≤ 1 := by
    rcases Int.lt_trichotomy u 0 with h | h | h
    · rw [Int.sign_eq_neg_one_of_neg h]; decide
    · rw [h]; decide
    · rw [Int.sign_eq_one_of_pos h]; decide
  calc u.sign.natAbs * n.natAbs ≤ 1 * n.natAbs := Nat.mul_le_mul_right _ this
    _ = n.natAbs := Nat.one_mul _
theorem den_le (n : Int) {u : Int} (h : u ≠ 0) : (Rat.divInt n u).den ≤ u.natAbs := by
  rw [Rat.den_divInt, if_neg h]
  exact Nat.div_le_self _ _
theorem sz_div {b : Nat} {n u : Int} (hn : n.natAbs < 2 ^ b) (hu : u.natAbs < 2 ^ b) (h : u ≠ 0) : Sz b (Rat.divInt n u) :=
  ⟨Nat.lt_of_le_of_lt (num_le n u) hn, Nat.lt_of_le_of_lt (den_le n h) hu⟩
theorem add_form (p q : Rat) : Rat.divInt (p.num * q.den + q.num * p.den) (p.den * q.den) = p + q := by
  rw [Rat.add_def', ← Rat.divInt_ofNat]
  congr 1
theorem sub_form (p q : Rat) : Rat.divInt (p.num * q.den - q.num * p.den) (p.den * q.den) = p - q := by
  rw [Rat.sub_def', ← Rat.divInt_ofNat]
  congr 1
theorem mul_form (p q : Rat) : Rat.divInt (p.num * q.num) (p.den * q.den) = p * q := by
  rw [Rat.mul_def', ← Rat.divInt_ofNat]
  congr 1
theorem den_ne (p : Rat) : (p.den : Int) ≠ 0 := by
  have := p.den_pos
  omega
theorem den_mul_ne (p q : Rat) : (p.den : Int) * q.den ≠ 0 := Int.mul_ne_zero (den_ne p) (den_ne q)
theorem abs_mul_lt {a b : Nat} {x y : Int} (hx : x.natAbs < 2 ^ a) (hy : y.natAbs < 2 ^ b) : (x * y).natAbs < 2 ^ (a + b) := by
  rw [Int.natAbs_mul, Nat.pow_add]
  exact Nat.mul_lt_mul'' hx hy
theorem abs_add_lt {c : Nat} {x y : Int} (hx : x.natAbs < 2 ^ c) (hy : y.natAbs < 2 ^ c) : (x + y).natAbs < 2 ^ (c + 1) := by
  have h := Int.natAbs_add_le x y
  rw [Nat.pow_succ]
  omega
theorem abs_sub_lt {c : Nat} {x y : Int} (hx : x.natAbs < 2 ^ c) (hy : y.natAbs < 2 ^ c) : (x - y).natAbs < 2 ^ (c + 1) := by
  have h := Int.natAbs_sub_le x y
  rw [Nat.pow_succ]
  omega
theorem den_abs {b : Nat} {q : Rat} (h : Sz b q) : ((q.den : Nat) : Int).natAbs < 2 ^ b := h.2
theorem up {a b : Nat} {x : Int} (h : x.natAbs < 2 ^ a) (l : a ≤ b) : x.natAbs < 2 ^ b := Nat.lt_of_lt_of_le h (Nat.pow_le_pow_right (by decide) l)
section
variable {a b : Nat} {p q : Rat} (hp : Sz a p) (hq : Sz b q)
include hp hq
theorem cross1 : (p.num * q.den).natAbs < 2 ^ (a + b) := abs_mul_lt hp.1 (den_abs hq)
theorem cross2 : (q.num * p.den).natAbs < 2 ^ (a + b) := up (abs_mul_lt hq.1 (den_abs hp)) (by omega)
theorem add_num_lt : (p.num * q.den + q.num * p.den).natAbs < 2 ^ (a + b + 1) := abs_add_lt (cross1 hp hq) (cross2 hp hq)
theorem sub_num_lt : (p.num * q.den - q.num * p.den).natAbs < 2 ^ (a + b + 1) := abs_sub_lt (cross1 hp hq) (cross2 hp hq)
theorem mul_num_lt : (p.num * q.num).natAbs < 2 ^ (a + b) := abs_mul_lt hp.1 hq.1
theorem dens_lt : ((p.den : Int) * q.den).natAbs < 2 ^ (a + b) := abs_mul_lt (den_abs hp) (den_abs hq)
theorem sz_add : Sz (a + b + 1) (p + q) := by
  rw [← add_form]
  exact sz_div (add_num_lt hp hq) (up (dens_lt hp hq) (by omega)) (den_mul_ne p q)
theorem sz_sub : Sz (a + b + 1) (p - q) := by
  rw [← sub_form]
  exact sz_div (sub_num_lt hp hq) (up (dens_lt hp hq) (by omega)) (den_mul_ne p q)
theorem sz_mul : Sz (a + b) (p * q) := by
  rw [← mul_form]
  exact sz_div (mul_num_lt hp hq) (dens_lt hp hq) (den_mul_ne p q)
end
theorem sz_neg {a : Nat} {p : Rat} (h : Sz a p) : Sz a (-p) := by
  refine ⟨?_, h.2⟩
  rw [Rat.neg_num, Int.natAbs_neg]
  exact h.1
/-- what the maker reckons -/
def comm (n u : Int) : Int := if u < 0 then -((Nat.gcd n.natAbs u.natAbs : Nat) : Int) else ((Nat.gcd n.natAbs u.natAbs : Nat) : Int)
theorem comm_ne {n u : Int} (h : u ≠ 0) : comm n u ≠ 0 := by
  have : 0 < Nat.gcd n.natAbs u.natAbs := Nat.gcd_pos_of_pos_right _ (by omega)
  unfold comm
  split <;> omega
theorem comm_abs (n u : Int) : (comm n u).natAbs = Nat.gcd n.natAbs u.natAbs := by
  unfold comm
  split <;> simp
theorem dvd_n (n u : Int) : comm n u ∣ n := by
  have h := Int.ofNat_dvd_left.mpr (Nat.gcd_dvd_left n.natAbs u.natAbs)
  unfold comm
  split
  · exact Int.neg_dvd.mpr h
  · exact h
theorem dvd_u (n u : Int) : comm n u ∣ u := by
  have h := Int.ofNat_dvd_left.mpr (Nat.gcd_dvd_right n.natAbs u.natAbs)
  unfold comm
  split
  · exact Int.neg_dvd.mpr h
  · exact h
theorem above_eq {n u : Int} (h : u ≠ 0) : n.fdiv (comm n u) = (Rat.divInt n u).num := by
  rw [Int.fdiv_eq_ediv_of_dvd (dvd_n n u), Rat.num_divInt]
  have e : u.gcd n = Nat.gcd n.natAbs u.natAbs := by
    show Nat.gcd u.natAbs n.natAbs = _
    exact Nat.gcd_comm _ _
  rw [e]
  unfold comm
  by_cases hu : u < 0
  · rw [if_pos hu, Int.sign_eq_neg_one_of_neg hu, Int.ediv_neg]
    have hd : ((Nat.gcd n.natAbs u.natAbs : Nat) : Int) ∣ n := Int.ofNat_dvd_left.mpr (Nat.gcd_dvd_left n.natAbs u.natAbs)
    rw [show (-1 : Int) * n = -n by omega, Int.neg_ediv_of_dvd hd]
  · rw [if_neg hu, Int.sign_eq_one_of_pos (by omega), Int.one_mul]
theorem below_eq {n u : Int} (h : u ≠ 0) : u.fdiv (comm n u) = ((Rat.divInt n u).den : Int) := by
  rw [Int.fdiv_eq_ediv_of_dvd (dvd_u n u), Rat.den_divInt, if_neg h]
  have e : u.gcd n = Nat.gcd n.natAbs u.natAbs := by
    show Nat.gcd u.natAbs n.natAbs = _
    exact Nat.gcd_comm _ _
  rw [e]
  unfold comm
  by_cases hu : u < 0
  · rw [if_pos hu, Int.ediv_neg]
    have hd : ((Nat.gcd n.natAbs u.natAbs : Nat) : Int) ∣ u := Int.ofNat_dvd_left.mpr (Nat.gcd_dvd_right n.natAbs u.natAbs)
    rw [← Int.neg_ediv_of_dvd hd]
    rw [show -u = ((u.natAbs : Nat) : Int) by omega]
    exact (Int.natCast_ediv _ _).symm
  · rw [if_neg hu]
    have e2 : u = ((u.natAbs : Nat) : Int) := by omega
    conv => lhs; lhs; rw [e2]
    exact (Int.natCast_ediv _ _).symm
theorem comm_lt {b : Nat} {n u : Int} (h : u ≠ 0) (hu : u.natAbs < 2 ^ b) : (comm n u).natAbs < 2 ^ b := by
  rw [comm_abs]
  exact Nat.lt_of_le_of_lt (Nat.gcd_le_right _ (by omega)) hu
end Hv
/-! HE: one pass: what an expression, a test, arguments, a statement, a block come to from here (EV TV AV SV BV), rule by rule. -/
namespace Hv
open PySem PySem.Spec PyProof.Rows L2
structure EV (X : Cx) (e : Expr) (σ : L2.St) (H : Hp) (Q : VK) : Prop where
  ex : ∃ t : TE, PE X e t ∧ t σ H Q
structure TV (X : Cx) (e : Expr) (σ : L2.St) (H : Hp) (Q : Bool → Hp → Prop) : Prop where
  ex : ∃ t : TT, PT X e t ∧ t σ H Q
structure AV (X : Cx) (es : List Expr) (σ : L2.St) (H : Hp) (Q : List V → Hp → Prop) : Prop where
  ex : ∃ t : TA, PA X es t ∧ t σ H Q
structure SV (X : Cx) (st : Stmt) (D : Ends) (σ : L2.St) (H : Hp) : Prop where
  ex : ∃ t : TS, PS X st t ∧ t D σ H
structure BV (X : Cx) (sts : List Stmt) (D : Ends) (σ : L2.St) (H : Hp) : Prop where
  ex : ∃ t : TS, PSs X sts t ∧ t D σ H
/-- an operation on two values; a call on values -/
structure OV (X : Cx) (f : Value → Value → Sem Value) (x y : V) (H : Hp) (Q : VK) : Prop where
  ex : ∃ r : R2, OpR X f r ∧ r x y H Q
structure UV (X : Cx) (f : Value → Sem Value) (x : V) (H : Hp) (Q : VK) : Prop where
  ex : ∃ r, UnR X f r ∧ r x H Q
structure CV (X : Cx) (f : Value) (vs : List V) (H : Hp) (Q : VK) : Prop where
  ex : ∃ r, CallR X f r ∧ r vs H Q
structure IV (X : Cx) (x y : V) (H : Hp) (Q : VK) : Prop where
  ex : ∃ r, IxR X r ∧ r x y H Q
section
variable {X : Cx} {e a b c o i : Expr} {es rest : List Expr} {σ : L2.St} {H : Hp} {Q : VK} {D : Ends} {pos p apos tpos : Pos} {k : Nat}
theorem pe_ev : PE X e (EV X e) := ⟨fun pins s σ H Q I ⟨_, h, q⟩ => h.run pins s σ H Q I q⟩
theorem pt_tv : PT X e (TV X e) := ⟨fun pins s σ H Q I ⟨_, h, q⟩ => h.run pins s σ H Q I q⟩
theorem pa_av : PA X es (AV X es) := ⟨fun pos pins s σ H Q I ⟨_, h, q⟩ => h.run pos pins s σ H Q I q⟩
theorem ps_sv {st : Stmt} : PS X st (SV X st) := ⟨fun pins s σ H D I ⟨_, h, q⟩ => h.run pins s σ H D I q⟩
theorem pss_bv {sts : List Stmt} : PSs X sts (BV X sts) := ⟨fun pins s σ H D I ⟨_, h, q⟩ => h.run pins s σ H D I q⟩
theorem op_ov {f : Value → Value → Sem Value} : OpR X f (OV X f) := fun pins s σ H x y v u Q I rx ry ⟨_, h, q⟩ => h pins s σ H x y v u Q I rx ry q
theorem un_uv {f : Value → Sem Value} : UnR X f (UV X f) := fun pins s σ H x v Q I rx ⟨_, h, q⟩ => h pins s σ H x v Q I rx q
theorem call_cv {f : Value} : CallR X f (CV X f) := fun pins s σ H xs us Q I r ⟨_, h, q⟩ => h pins s σ H xs us Q I r q
theorem ix_iv : IxR X (IV X) := fun va sl pins s σ H x y v u Q I rx ry ⟨_, h, q⟩ e => h va sl pins s σ H x y v u Q I rx ry q e
theorem ev_nm {x : Str} (h : EV X (.Name x pos) σ H Q) : EV X (.Name x pos) σ H Q := h
theorem ev_cl {x : Str} (h : EV X (.Call (.Name x p) (e :: es) [] pos) σ H Q) : EV X (.Call (.Name x p) (e :: es) [] pos) σ H Q := h
theorem bv_id {sts : List Stmt} (h : BV X sts D σ H) : BV X sts D σ H := h
theorem ex_bv {sts : List Stmt} (h : BV X sts D σ H) : ∃ t, PSs X sts t ∧ t D σ H := h.ex
/-! ### expressions -/
theorem ev_var (j : Nat) {x : Str} {v : V} (hp : PE X (.Name x pos) (tVar j)) (h : σ[j]? = some (some v)) (q : Q v H) : EV X (.Name x pos) σ H Q := ⟨_, hp, v, h, q⟩
theorem ev_int {z : Int} {j : Nat} (q : Q (.int z) H) : EV X (.Constant (.int z) j pos) σ H Q := ⟨_, pe_int, q⟩
theorem ev_str {z : Str} {j : Nat} (q : Q (.str z) H) : EV X (.Constant (.str z) j pos) σ H Q := ⟨_, pe_str, q⟩
theorem ev_bl {z : Bool} {j : Nat} (q : Q (.bl z) H) : EV X (.Constant (.bool z) j pos) σ H Q := ⟨_, pe_bl, q⟩
theorem ev_non {j : Nat} (q : Q .non H) : EV X (.Constant .none j pos) σ H Q := ⟨_, pe_non, q⟩
theorem ev_op {op : Operator} (q : EV X a σ H fun x H1 => EV X b σ H1 fun y H2 => OV X (binaryOp op) x y H2 Q) : EV X (.BinOp a op b pos) σ H Q := ⟨_, pe_op op_ov pe_ev pe_ev, q⟩
theorem ev_un {op : UnaryOp} (q : EV X a σ H fun x H1 => UV X (unaryOp op) x H1 Q) : EV X (.UnaryOp op a pos) σ H Q := ⟨_, pe_un un_uv pe_ev, q⟩
theorem ev_not (q : EV X a σ H fun x H1 => ∃ k, TruV X.K x H1 k ∧ Q (.bl (!k)) H1) : EV X (.UnaryOp .Not a pos) σ H Q := ⟨_, pe_notT pe_ev, q⟩
theorem ev_cmp {op : CmpOp} (q : EV X a σ H fun x H1 => EV X b σ H1 fun y H2 => OV X (compareOp op) x y H2 Q) (hm : behindInMarks op b = false := by first | exact nobehind _ (by decide) (by decide) | rfl) : EV X (.Compare a [op] [b] pos) σ H Q := ⟨_, pe_cmpR op_ov pe_ev pe_ev hm, q⟩
theorem ev_if (q : TV X c σ H fun k H1 => if k = true then EV X a σ H1 Q else EV X b σ H1 Q) : EV X (.IfExp c a b pos) σ H Q := ⟨_, pe_ifExp pt_tv pe_ev pe_ev, q⟩
theorem ev_one {op : BoolOp} (q : EV X a σ H Q) : EV X (.BoolOp op [a] pos) σ H Q := ⟨_, pe_one pe_ev, q⟩
theorem ev_and (q : EV X a σ H fun x H1 => ∃ k, TruV X.K x H1 k ∧ if k = true then EV X (.BoolOp .And (b :: rest) pos) σ H1 Q else Q x H1) : EV X (.BoolOp .And (a :: b :: rest) pos) σ H Q := ⟨_, pe_andT pe_ev pe_ev, q⟩
theorem ev_or (q : EV X a σ H fun x H1 => ∃ k, TruV X.K x H1 k ∧ if k = true then Q x H1 else EV X (.BoolOp .Or (b :: rest) pos) σ H1 Q) : EV X (.BoolOp .Or (a :: b :: rest) pos) σ H Q := ⟨_, pe_orT pe_ev pe_ev, q⟩
theorem ev_ix (hs : PlainIx b) (q : EV X a σ H fun x H1 => EV X b σ H1 fun y H2 => IV X x y H2 Q) : EV X (.Subscript a b pos) σ H Q := ⟨_, pe_ix ix_iv pe_ev pe_ev hs, q⟩
theorem ev_tup {x1} (q : AV X es σ H fun xs H1 => xs.length ≤ sizeLine ∧ ∀ p, H1 p = none → Q (.ref p) (upd H1 p (.tup xs))) : EV X (.Tuple es x1 pos) σ H Q := ⟨_, pe_tup pa_av, q⟩
theorem ev_lst (q : AV X es σ H fun xs H1 => xs.length ≤ sizeLine ∧ ∀ p, H1 p = none → Q (.ref p) (upd H1 p (.lst xs))) : EV X (.List es pos) σ H Q := ⟨_, pe_lst pa_av, q⟩
theorem ev_gl {x : Str} {v : V} {u : Value} (hg : Gl X x) (hm : X.mg x = some u) (r : RelV v u) (q : Q v H) (hd : (x == ("__debug__" : Str)) = false := by decide) : EV X (.Name x pos) σ H Q := ⟨_, pe_glob hg hm r hd, q⟩
theorem ev_bt {x : Str} {v : V} {u : Value} (hg : Gl X x) (hm : X.mg x = none) (hv : bootBuiltins x = some u) (r : RelV v u) (q : Q v H) (hn : x ≠ "__name__" := by decide) (hd : (x == ("__debug__" : Str)) = false := by decide) : EV X (.Name x pos) σ H Q := ⟨_, pe_bltn hg hm hv r hn hd, q⟩
theorem ev_slot {f : Str} (q : EV X o σ H fun x H1 => ∃ a C dx p vs i v, x = .ref a ∧ SlX.Slt H1 a C dx vs ∧ SlX.SCls X.K C ∧ SlX.Slot1 X.K C f p i ∧ vs[i]? = some (some v) ∧ Q v H1)
    (hb : attributeBase o f X.env (eval o X.env) = eval o X.env := by rfl) : EV X (.Attribute o f pos) σ H Q := ⟨_, SlX.pe_sl pe_ev hb, q⟩
theorem ev_prop {n j : Nat} {C pr g : Addr} {nm : Str} {sp : Sp} (c : SlX.SCls X.K C) (hp : PropG X.K C nm pr g) (F : FnX X n g sp) (hr : RoomG j X.A) (hj : n + 1 ≤ j)
    (q : EV X o σ H fun x H1 => ∃ a dx vs, x = .ref a ∧ SlX.Slt H1 a C dx vs ∧ sp [.ref a] H1 Q E0) (hb : attributeBase o nm X.env (eval o X.env) = eval o X.env := by rfl) : EV X (.Attribute o nm pos) σ H Q := ⟨_, pg_prop pe_ev c hp F hr hj hb, q⟩
/-! ### arguments, calls -/
theorem av_nil {Q : List V → Hp → Prop} (q : Q [] H) : AV X [] σ H Q := ⟨_, pa_nil, q⟩
theorem av_cons {Q : List V → Hp → Prop} (q : EV X e σ H fun x H1 => AV X es σ H1 fun xs H2 => Q (x :: xs) H2) (hs : starEach (e :: es) X.env = (false, eval e X.env) :: starEach es X.env := by rfl) : AV X (e :: es) σ H Q := ⟨_, pa_cons pe_ev pa_av hs, q⟩
section
variable {x T : Str} {id Ty : String}
theorem ev_fn (hg : Gl X x) (hm : X.mg x = none) (hv : bootBuiltins x = some (.builtin id)) (q : AV X (e :: es) σ H fun vs H1 => CV X (.builtin id) vs H1 Q) (hn : x ≠ "__name__" := by decide) (hdb : (x == ("__debug__" : Str)) = false := by decide)
    (he : starEach (e :: es) X.env = (false, eval e X.env) :: starEach es X.env := by rfl) (hpl : (backTo pos (starEach es X.env)).any (·.1) = false := by rfl) : EV X (.Call (.Name x p) (e :: es) [] pos) σ H Q := ⟨_, pe_callB call_cv hg hm hv pa_av hn hdb he hpl, q⟩
theorem ev_ty (hg : Gl X x) (hm : X.mg x = none) (hv : bootBuiltins x = some (.type Ty)) (q : AV X (e :: es) σ H fun vs H1 => CV X (.type Ty) vs H1 Q) (hn : x ≠ "__name__" := by decide) (hdb : (x == ("__debug__" : Str)) = false := by decide)
    (he : starEach (e :: es) X.env = (false, eval e X.env) :: starEach es X.env := by rfl) (hpl : (backTo pos (starEach es X.env)).any (·.1) = false := by rfl) : EV X (.Call (.Name x p) (e :: es) [] pos) σ H Q := ⟨_, pe_callTy call_cv hg hm hv pa_av hn hdb he hpl, q⟩
variable {j : Nat} {sp : Sp} {E : XK} {C g : Addr}
theorem ev_call (w : GFX X k x sp) (hr : RoomG j X.A) (hj : k ≤ j) (hg : Gl X x) (hx : PassX X E) (q : AV X (e :: es) σ H fun vs H1 => sp vs H1 Q E)
    (hdb : (x == ("__debug__" : Str)) = false := by decide) (he : starEach (e :: es) X.env = (false, eval e X.env) :: starEach es X.env := by rfl)
    (hpl : (backTo pos (starEach es X.env)).any (·.1) = false := by rfl) : EV X (.Call (.Name x p) (e :: es) [] pos) σ H Q := ⟨_, pg_call w hr hj hg hx pa_av hdb he hpl, q⟩
theorem ev_make (w : GMX X k x sp) (hr : RoomG j X.A) (hj : k + 1 ≤ j) (hg : Gl X x) (hx : PassX X E) (q : AV X (e :: es) σ H fun vs H1 => sp vs H1 Q E)
    (hdb : (x == ("__debug__" : Str)) = false := by decide) (he : starEach (e :: es) X.env = (false, eval e X.env) :: starEach es X.env := by rfl)
    (hpl : (backTo pos (starEach es X.env)).any (·.1) = false := by rfl) : EV X (.Call (.Name x p) (e :: es) [] pos) σ H Q := ⟨_, pg_make w hr hj hg hx pa_av hdb he hpl, q⟩
theorem ev_meth {pl : Sem Bool} {m : Str} (w : SlX.SCls X.K C) (hm : Meth X.K C m g) (F : FnX X k g sp) (hr : RoomG j X.A) (hj : k ≤ j) (hx : PassX X E)
    (q : EV X o σ H fun x H1 => ∃ a dx vs, x = .ref a ∧ SlX.Slt H1 a C dx vs ∧ AV X (e :: es) σ H1 fun ws H2 => sp (x :: ws) H2 Q E)
    (hst : starEach (e :: es) X.env = (false, eval e X.env) :: starEach es X.env := by rfl) (hpl : (backTo pos (starEach es X.env)).any (·.1) = false := by rfl)
    (ht : eval (.Call (.Attribute o m apos) (e :: es) [] pos) X.env = (do
      let ov ← eval o X.env
      standAt apos.atName
      let (f, first) ← holding [ov] (getMethod ov m pl)
      callWith pos f first (backTo pos (starEach (e :: es) X.env)) (backToKw pos (keywordEach [] X.env))) := by rfl) :
    EV X (.Call (.Attribute o m apos) (e :: es) [] pos) σ H Q := ⟨_, pg_meth pe_ev w hm F hr hj hx pa_av hst hpl ht, q⟩
theorem ev_meth0 {pl : Sem Bool} {m : Str} (w : SlX.SCls X.K C) (hm : Meth X.K C m g) (F : FnX X k g sp) (hr : RoomG j X.A) (hj : k ≤ j) (hx : PassX X E)
    (q : EV X o σ H fun x H1 => ∃ a dx vs, x = .ref a ∧ SlX.Slt H1 a C dx vs ∧ sp [x] H1 Q E)
    (ht : eval (.Call (.Attribute o m apos) [] [] pos) X.env = (do
      let ov ← eval o X.env
      standAt apos.atName
      let (f, first) ← holding [ov] (getMethod ov m pl)
      callWith pos f first (backTo pos (starEach [] X.env)) (backToKw pos (keywordEach [] X.env))) := by rfl) :
    EV X (.Call (.Attribute o m apos) [] [] pos) σ H Q := ⟨_, pg_meth0 pe_ev w hm F hr hj hx ht, q⟩
end
/-! ### tests -/
theorem tv_cmp {op : CmpOp} {Q : Bool → Hp → Prop} (q : EV X a σ H fun x H1 => EV X b σ H1 fun y H2 => OV X (compareOp op) x y H2 fun z H3 => ∃ k, z = .bl k ∧ Q k H3) (hm : behindInMarks op b = false := by first | exact nobehind _ (by decide) (by decide) | rfl) :
    TV X (.Compare a [op] [b] pos) σ H Q := ⟨_, pt_cmpR op_ov pe_ev pe_ev hm, q⟩
theorem tv_val {Q : Bool → Hp → Prop} (q : EV X e σ H fun z H3 => ∃ k, z = .bl k ∧ Q k H3) (he : ∀ whole, isTrue e X.env whole = (do let v ← whole; standAt e.pos; holding [v] (truthy v)) := by intro _; rfl) : TV X e σ H Q := ⟨_, pt_val pe_ev he, q⟩
structure WV (X : Cx) (e : Expr) (σ : L2.St) (H : Hp) (Q : Bool → Hp → Prop) : Prop where
  ex : ∃ t : TT, PW X e t ∧ t σ H Q
theorem pw_wv : PW X e (WV X e) := ⟨fun whole pins s σ H Q I ⟨_, h, q⟩ => h.run whole pins s σ H Q I q⟩
theorem tv_wv {Q : Bool → Hp → Prop} (q : WV X e σ H Q) : TV X e σ H Q := ⟨_, pw_wv.pt, q⟩
theorem wv_and1 {Q : Bool → Hp → Prop} (q : TV X a σ H Q) : WV X (.BoolOp .And [a] pos) σ H Q := ⟨_, pw_and1 pt_tv, q⟩
theorem wv_or1 {Q : Bool → Hp → Prop} (q : TV X a σ H Q) : WV X (.BoolOp .Or [a] pos) σ H Q := ⟨_, pw_or1 pt_tv, q⟩
theorem wv_and {Q : Bool → Hp → Prop} (q : TV X a σ H fun k H1 => if k = true then WV X (.BoolOp .And (b :: rest) pos) σ H1 Q else Q false H1) : WV X (.BoolOp .And (a :: b :: rest) pos) σ H Q := ⟨_, pw_and pt_tv pw_wv, q⟩
theorem wv_or {Q : Bool → Hp → Prop} (q : TV X a σ H fun k H1 => if k = true then Q true H1 else WV X (.BoolOp .Or (b :: rest) pos) σ H1 Q) : WV X (.BoolOp .Or (a :: b :: rest) pos) σ H Q := ⟨_, pw_or pt_tv pw_wv, q⟩
theorem tv_and {Q : Bool → Hp → Prop} (q : WV X (.BoolOp .And es pos) σ H Q) : TV X (.BoolOp .And es pos) σ H Q := tv_wv q
theorem tv_or {Q : Bool → Hp → Prop} (q : WV X (.BoolOp .Or es pos) σ H Q) : TV X (.BoolOp .Or es pos) σ H Q := tv_wv q
theorem tv_not {Q : Bool → Hp → Prop} (q : TV X a σ H fun k H1 => Q (!k) H1) : TV X (.UnaryOp .Not a pos) σ H Q := ⟨_, pt_not pt_tv, q⟩
/-! ### statements -/
theorem bv_nil (q : D.nx σ H) : BV X [] D σ H := ⟨_, pss_nil, q⟩
theorem bv_cons {st : Stmt} {sts : List Stmt} (q : SV X st { D with nx := BV X sts D } σ H) : BV X (st :: sts) D σ H := ⟨_, pss_cons ps_sv pss_bv, q⟩
theorem sv_ret (q : EV X e σ H D.rt) : SV X (.Return (some e) pos) D σ H := ⟨_, ps_ret pe_ev, q⟩
theorem sv_set {x : Str} {pos' : Pos} (j : Nat) (hi : X.N[j]? = some x) (hN : X.N.Nodup) (hx : Loc X.env.scope x) (q : EV X e σ H fun v H1 => D.nx (σ.set j (some v)) H1)
    (hs : swapsWith e (some (.Name x pos')) pos.line X.env = pure false := by rfl) (hf : X.fn x = true ∨ X.env.scope.names.lookup x = some .local := by first | exact .inl rfl | exact .inr rfl | assumption) : SV X (.Assign [.Name x pos'] e pos) D σ H := ⟨_, ps_set hN hi hx pe_ev hs hf, q⟩
theorem sv_id {x : Str} {pos' : Pos} (h : SV X (.Assign [.Name x pos'] e pos) D σ H) : SV X (.Assign [.Name x pos'] e pos) D σ H := h
theorem sv_setS {x : Str} {pos' : Pos} {P : List Str} {sc : Scope} (j : Nat) (hi : X.N[j]? = some x) (S : FnScope X.N P sc) (hx : Loc X.env.scope x) (q : EV X e σ H fun v H1 => D.nx (σ.set j (some v)) H1)
    (hs : swapsWith e (some (.Name x pos')) pos.line X.env = pure false := by rfl) (hf : X.fn x = true ∨ X.env.scope.names.lookup x = some .local := by first | exact .inl rfl | exact .inr rfl | assumption) : SV X (.Assign [.Name x pos'] e pos) D σ H := sv_set j hi S.nd hx q hs hf
theorem sv_if {as bs : List Stmt} (q : TV X c σ H fun k H1 => if k = true then BV X as D σ H1 else BV X bs D σ H1) : SV X (.If c as bs pos) D σ H := ⟨_, ps_if pt_tv pss_bv pss_bv, q⟩
theorem sv_expr (q : EV X e σ H fun _ H1 => D.nx σ H1) (hs : swapsWith e none pos.line X.env = pure false := by rfl) : SV X (.Expr e pos) D σ H := ⟨_, ps_expr pe_ev hs, q⟩
theorem sv_slot {f : Str} {pos' : Pos} (q : EV X e σ H fun y H1 => EV X o σ H1 fun x H2 => ∃ a C dx p vs i, x = .ref a ∧ SlX.Slt H2 a C dx vs ∧ SlX.SCls X.K C ∧ SlX.Slot1 X.K C f p i ∧ D.nx σ (SlX.slH H2 a C dx (SlX.putS i y vs)))
    (hs : swapsWith e (some (.Attribute o f pos')) pos.line X.env = pure false := by rfl) : SV X (.Assign [.Attribute o f pos'] e pos) D σ H := ⟨_, SlX.ps_sl pe_ev pe_ev hs, q⟩
theorem sv_while {c : Expr} {body : List Stmt} (hp : PassesOwn (model X.prog X.w) X.A X.env X.xe) (Pv : L2.St → Hp → Prop) (μ : L2.St → Hp → Nat) (h0 : Pv σ H)
    (hs : ∀ σ H, Pv σ H → TV X c σ H fun b H1 => if b = true then BV X body { D with nx := fun σ' H' => Pv σ' H' ∧ μ σ' H' < μ σ H, ct := fun σ' H' => Pv σ' H' ∧ μ σ' H' < μ σ H, bk := D.nx } σ H1 else D.nx σ H1)
     : SV X (.While c body [] pos) D σ H := by
  refine ⟨fun D σ H => tWhile (fun σ H Q => ∃ R : Bool → Hp → Prop, TV X c σ H R ∧ ∀ b H1, R b H1 → Q b H1) (BV X body) D σ H, ps_while hp ⟨fun pins s σ H Q I ⟨R, h, im⟩ => ?_⟩ pss_bv, while_by Pv μ h0 (fun σ H p => ⟨_, hs σ H p, fun _ _ z => z⟩) fun σ H Q Q' im ⟨R, h, z⟩ => ⟨R, h, fun b H1 r => im b H1 (z b H1 r)⟩⟩
  refine thn (pt_tv.run pins s σ H R I h) fun b s1 ⟨H1, I1, q1⟩ => ⟨H1, I1, im b H1 q1⟩
/-! ### operations on ints, texts -/
section
variable {z w : Int}
theorem ov_add (q : Q (.int (z + w)) H) : OV X (binaryOp .Add) (.int z) (.int w) H Q := ⟨_, op_add, z, w, rfl, rfl, q⟩
theorem ov_sub (q : Q (.int (z - w)) H) : OV X (binaryOp .Sub) (.int z) (.int w) H Q := ⟨_, op_sub, z, w, rfl, rfl, q⟩
theorem ov_mul (hc : CMulW z w) (q : Q (.int (z * w)) H) : OV X (binaryOp .Mult) (.int z) (.int w) H Q := ⟨_, op_mulW, z, w, rfl, rfl, hc, q⟩
theorem ov_mod (hc : 0 < w) (q : Q (.int (z % w)) H) : OV X (binaryOp .Mod) (.int z) (.int w) H Q := ⟨_, op_mod, z, w, rfl, rfl, hc, q⟩
theorem ov_div (hc : CDivW z w) (q : Q (.int (z / w)) H) : OV X (binaryOp .FloorDiv) (.int z) (.int w) H Q := ⟨_, op_fdivW, z, w, rfl, rfl, hc, q⟩
/-- // by any divisor but nought below 2 ^ 9000 -/
def CDivZ (_ j : Int) : Prop := j ≠ 0 ∧ j.natAbs.log2 < 9000
theorem op_fdivZ : OpR X (binaryOp .FloorDiv) (rI CDivZ fun i j => .int (i.fdiv j)) := opI fun _ _ _ _ _ _ _ hc q => floordiv_int hc.1 q (.inl (PyProof.noPylong_of_log2 hc.2))
theorem ov_fdiv (hc : CDivZ z w) (q : Q (.int (z.fdiv w)) H) : OV X (binaryOp .FloorDiv) (.int z) (.int w) H Q := ⟨_, op_fdivZ, z, w, rfl, rfl, hc, q⟩
theorem ov_pow (hc : CPowW z w) (q : Q (.int (z ^ w.toNat)) H) : OV X (binaryOp .Pow) (.int z) (.int w) H Q := ⟨_, op_powW, z, w, rfl, rfl, hc, q⟩
theorem ov_lt (q : Q (.bl (decide (z < w))) H) : OV X (compareOp .Lt) (.int z) (.int w) H Q := ⟨_, op_lt, z, w, rfl, rfl, q⟩
theorem ov_le (q : Q (.bl (decide (z ≤ w))) H) : OV X (compareOp .LtE) (.int z) (.int w) H Q := ⟨_, op_le, z, w, rfl, rfl, q⟩
theorem ov_gt (q : Q (.bl (decide (w < z))) H) : OV X (compareOp .Gt) (.int z) (.int w) H Q := ⟨_, op_gt, z, w, rfl, rfl, q⟩
theorem ov_ge (q : Q (.bl (decide (w ≤ z))) H) : OV X (compareOp .GtE) (.int z) (.int w) H Q := ⟨_, op_ge, z, w, rfl, rfl, q⟩
theorem ov_eq (q : Q (.bl (decide (z = w))) H) : OV X (compareOp .Eq) (.int z) (.int w) H Q := ⟨_, op_eq, rfl, by
  rw [show decide (V.int z = V.int w) = decide (z = w) by simp]
  exact q⟩
theorem ov_ne (q : Q (.bl (!decide (z = w))) H) : OV X (compareOp .NotEq) (.int z) (.int w) H Q := ⟨_, op_ne, rfl, by
  rw [show decide (V.int z = V.int w) = decide (z = w) by simp]
  exact q⟩
theorem ov_eqs {x y : Str} (q : Q (.bl (decide (x = y))) H) : OV X (compareOp .Eq) (.str x) (.str y) H Q := ⟨_, op_eq, rfl, by
  rw [show decide (V.str x = V.str y) = decide (x = y) by simp]
  exact q⟩
theorem ov_nes {x y : Str} (q : Q (.bl (!decide (x = y))) H) : OV X (compareOp .NotEq) (.str x) (.str y) H Q := ⟨_, op_ne, rfl, by
  rw [show decide (V.str x = V.str y) = decide (x = y) by simp]
  exact q⟩
theorem uv_neg (q : Q (.int (-z)) H) : UV X (unaryOp .USub) (.int z) H Q := ⟨_, un_neg, z, rfl, q⟩
theorem cv_abs (q : Q (.int z.natAbs) H) : CV X (.builtin "abs") [.int z] H Q := ⟨_, L2.call_abs, z, rfl, by
  rw [show (if z < 0 then -z else z) = (z.natAbs : Int) by split <;> omega]
  exact q⟩
theorem cv_int (q : Q (.int z) H) : CV X (.type "int") [.int z] H Q := ⟨_, call_int1, .inl ⟨z, rfl, q⟩⟩
theorem cv_intb {b : Bool} (q : Q (.int (if b then 1 else 0)) H) : CV X (.type "int") [.bl b] H Q := ⟨_, call_int1, .inr ⟨b, rfl, q⟩⟩
theorem cv_boolb {b : Bool} (q : Q (.bl b) H) : CV X (.type "bool") [.bl b] H Q := ⟨_, call_bool1, .inr ⟨b, rfl, q⟩⟩
theorem cv_len {p : Addr} {xs : List V} (h : SqL X.K H p xs ∨ SqT X.K H p xs) (q : Q (.int xs.length) H) : CV X (.builtin "len") [.ref p] H Q := ⟨_, call_len_seq, p, xs, rfl, h, q⟩
theorem cv_max (hc : X.calm = true) (q : Q (.int (max z w)) H) : CV X (.builtin "max") [.int z, .int w] H Q := ⟨_, call_max2 hc, z, w, rfl, by
  rw [show (if w > z then w else z) = max z w by split <;> omega]
  exact q⟩
theorem cv_min (hc : X.calm = true) (q : Q (.int (min z w)) H) : CV X (.builtin "min") [.int z, .int w] H Q := ⟨_, call_min2 hc, z, w, rfl, by
  rw [show (if w < z then w else z) = min z w by split <;> omega]
  exact q⟩
theorem cv_isT {cs : List Addr} {x : V} {T : String} {k : Kind} (c : Cs X.K cs) (h : HasK X.K cs H x k) (hT : T ∈ tys := by decide) (q : Q (.bl (k.isT T)) H) : CV X (.builtin "isinstance") [x, .ty T] H Q := ⟨_, call_isT c, x, T, k, rfl, h, hT, q⟩
theorem cv_isO {cs : List Addr} {x : V} {D : Addr} {k : Kind} (c : Cs X.K cs) (h : HasK X.K cs H x k) (hD : D ∈ cs) (q : Q (.bl (decide (k = .own D))) H) : CV X (.builtin "isinstance") [x, .ref D] H Q := ⟨_, call_isO c, x, D, k, rfl, h, hD, q⟩
theorem cv_repr {k : Nat} {a : Addr} {d : PyData} (hr : RoomG k X.A) (h : Dp X.K H (.ref a) d) (h1 : d.showable = true) (h2 : d.hasDict = false) (h3 : d.depth ≤ 60) (h4 : d.shown.length ≤ sizeLine) (q : Q (.str d.shown) H) : CV X (.builtin "repr") [.ref a] H Q := ⟨_, call_reprD hr, a, d, rfl, h, h1, h2, h3, h4, q⟩
theorem iv_lst {p : Addr} {xs : List V} {v : V} (h : SqL X.K H p xs) (ha : atI xs z = some v) (q : Q v H) : IV X (.ref p) (.int z) H Q := ⟨_, ix_list, p, xs, z, v, rfl, rfl, h, ha, q⟩
theorem iv_tup {p : Addr} {xs : List V} {v : V} (h : SqT X.K H p xs) (ha : atI xs z = some v) (q : Q v H) : IV X (.ref p) (.int z) H Q := ⟨_, ix_tup, p, xs, z, v, rfl, rfl, h, ha, q⟩
end
theorem sz_ok {n : Nat} (h : n ≤ 100000) : n ≤ sizeLine := Nat.le_trans h (by decide)
theorem Same.mut {H H' : Hp} {p : Addr} {o : HO} (e : Same H H') (h : H p = none) : Same H (upd H' p o) := fun a u ha => by
  rw [upd_ne (ne_of_none ha h)]
  exact e a u ha
theorem ExB.mut {q : Addr} {H H' : Hp} {p : Addr} {o : HO} (e : ExB q H H') (h : H p = none) : ExB q H (upd H' p o) := fun a u n ha => by
  rw [upd_ne (ne_of_none ha h)]
  exact e a u n ha
theorem Same.tr {H H1 H2 : Hp} (b : Same H1 H2) (a : Same H H1) : Same H H2 := a.trans b
theorem Same.nw {H H' : Hp} {q : Addr} {o : HO} (h : H' q = none) (e : Same H H') : Same H (upd H' q o) := Same.new e h
theorem ExB.tr {p : Addr} {H H1 H2 : Hp} (b : ExB p H1 H2) (a : ExB p H H1) : ExB p H H2 := a.trans b
theorem ExB.trs {p : Addr} {H H1 H2 : Hp} (b : Same H1 H2) (a : ExB p H H1) : ExB p H H2 := a.trans (Same.exb b)
theorem ExB.nw {p : Addr} {H H' : Hp} {q : Addr} {o : HO} (h : H' q = none) (e : ExB p H H') : ExB p H (upd H' q o) := ExB.new e h
theorem all_at {Pr : V → Prop} {xs : List V} {i : Nat} {v : V} (h : ∀ x ∈ xs, Pr x) (e : xs[i]? = some v) : Pr v := h v (List.mem_of_getElem? e)
/-- a test whose answer is a decision -/
theorem ite_dec {p A B : Prop} [Decidable p] (h1 : p → A) (h2 : ¬ p → B) : if decide p = true then A else B := by
  by_cases h : p
  · rw [decide_eq_true h]; exact h1 h
  · rw [decide_eq_false h]; exact h2 h
theorem ite_decN {p A B : Prop} [Decidable p] (h1 : ¬ p → A) (h2 : p → B) : if (!decide p) = true then A else B := by
  by_cases h : p
  · rw [decide_eq_true h]; exact h2 h
  · rw [decide_eq_false h]; exact h1 h
theorem ite_dec1 {p A B : Prop} [Decidable p] (h : p) (a : A) : if decide p = true then A else B := by rw [decide_eq_true h]; exact a
theorem ite_dec0 {p A B : Prop} [Decidable p] (h : ¬ p) (a : B) : if decide p = true then A else B := by rw [decide_eq_false h]; exact a
theorem ite_decN1 {p A B : Prop} [Decidable p] (h : ¬ p) (a : A) : if (!decide p) = true then A else B := by rw [decide_eq_false h]; exact a
theorem ite_decN0 {p A B : Prop} [Decidable p] (h : p) (a : B) : if (!decide p) = true then A else B := by rw [decide_eq_true h]; exact a
theorem ite_b {b : Bool} {A B : Prop} (h1 : b = true → A) (h2 : b = false → B) : if b = true then A else B := by
  cases b
  · exact h2 rfl
  · exact h1 rfl
end
end Hv
/-! HF: names of the built-in things, loops and comprehensions in one pass, scopes, heaps. -/
namespace Hv
open PySem PySem.Spec PyProof.Rows L2
/-- the module does not shadow these -/
def blts : List Str := ["abs", "all", "any", "bool", "dict", "enumerate", "int", "isinstance", "len", "list", "max", "min", "range", "repr", "reversed", "sorted", "str", "sum", "tuple", "type", "zip", "NotImplemented"]
def Blt (mg : Str → Option Value) : Prop := ∀ x ∈ blts, mg x = none
section
variable {mg : Str → Option Value}
theorem Blt.at_ (h : Blt mg) (i : Nat) {x : Str} (e : blts[i]? = some x := by rfl) : mg x = none := h x (List.mem_of_getElem? e)
end
def scB (N P : List Str) (sc : Scope) : Bool := (match sc.kind with | .function => true | _ => false) && (!sc.isCoroutine) && (!sc.isGenerator) && decide N.Nodup && decide (N.take P.length = P) &&
  (P.all fun x => decide (sc.names.lookup x = some .local) || decide (sc.names.lookup x = some .cell)) && (sc.names.all fun y => match y.2 with | .free => false | _ => true)
theorem sc_ok {N P : List Str} {sc : Scope} (h : scB N P sc = true) : FnScope N P sc := by
  unfold scB at h
  simp only [Bool.and_eq_true, Bool.not_eq_true', List.all_eq_true, decide_eq_true_eq, Bool.or_eq_true] at h
  obtain ⟨⟨⟨⟨⟨⟨h1, h2⟩, h3⟩, h4⟩, h5⟩, h6⟩, h7⟩ := h
  refine ⟨?_, h2, h3, h4, h5, h6, fun y hy e => ?_⟩
  · split at h1
    · assumption
    · cases h1
  · have q := h7 y hy
    rw [e] at q
    cases q
section
variable {X : Cx} {e : Expr} {es : List Expr} {σ : L2.St} {H : Hp} {Q : VK} {pos p : Pos}
theorem ev_abs (B : Blt X.mg) (q : AV X (e :: es) σ H fun vs H1 => CV X (.builtin "abs") vs H1 Q) (hg : Gl X "abs" := by rfl) (he : starEach (e :: es) X.env = (false, eval e X.env) :: starEach es X.env := by rfl)
    (hpl : (backTo pos (starEach es X.env)).any (·.1) = false := by rfl) : EV X (.Call (.Name "abs" p) (e :: es) [] pos) σ H Q := ev_fn hg (B.at_ 0) boot_abs q (he := he) (hpl := hpl)
theorem ev_all (B : Blt X.mg) (q : AV X (e :: es) σ H fun vs H1 => CV X (.builtin "all") vs H1 Q) (hg : Gl X "all" := by rfl) (he : starEach (e :: es) X.env = (false, eval e X.env) :: starEach es X.env := by rfl)
    (hpl : (backTo pos (starEach es X.env)).any (·.1) = false := by rfl) : EV X (.Call (.Name "all" p) (e :: es) [] pos) σ H Q := ev_fn hg (B.at_ 1) boot_all q (he := he) (hpl := hpl)
theorem ev_any (B : Blt X.mg) (q : AV X (e :: es) σ H fun vs H1 => CV X (.builtin "any") vs H1 Q) (hg : Gl X "any" := by rfl) (he : starEach (e :: es) X.env = (false, eval e X.env) :: starEach es X.env := by rfl)
    (hpl : (backTo pos (starEach es X.env)).any (·.1) = false := by rfl) : EV X (.Call (.Name "any" p) (e :: es) [] pos) σ H Q := ev_fn hg (B.at_ 2) boot_any q (he := he) (hpl := hpl)
theorem ev_isinst (B : Blt X.mg) (q : AV X (e :: es) σ H fun vs H1 => CV X (.builtin "isinstance") vs H1 Q) (hg : Gl X "isinstance" := by rfl) (he : starEach (e :: es) X.env = (false, eval e X.env) :: starEach es X.env := by rfl)
    (hpl : (backTo pos (starEach es X.env)).any (·.1) = false := by rfl) : EV X (.Call (.Name "isinstance" p) (e :: es) [] pos) σ H Q := ev_fn hg (B.at_ 7) boot_isinstance q (he := he) (hpl := hpl)
theorem ev_len (B : Blt X.mg) (q : AV X (e :: es) σ H fun vs H1 => CV X (.builtin "len") vs H1 Q) (hg : Gl X "len" := by rfl) (he : starEach (e :: es) X.env = (false, eval e X.env) :: starEach es X.env := by rfl)
    (hpl : (backTo pos (starEach es X.env)).any (·.1) = false := by rfl) : EV X (.Call (.Name "len" p) (e :: es) [] pos) σ H Q := ev_fn hg (B.at_ 8) boot_len q (he := he) (hpl := hpl)
theorem ev_max (B : Blt X.mg) (q : AV X (e :: es) σ H fun vs H1 => CV X (.builtin "max") vs H1 Q) (hg : Gl X "max" := by rfl) (he : starEach (e :: es) X.env = (false, eval e X.env) :: starEach es X.env := by rfl)
    (hpl : (backTo pos (starEach es X.env)).any (·.1) = false := by rfl) : EV X (.Call (.Name "max" p) (e :: es) [] pos) σ H Q := ev_fn hg (B.at_ 10) boot_max q (he := he) (hpl := hpl)
theorem ev_min (B : Blt X.mg) (q : AV X (e :: es) σ H fun vs H1 => CV X (.builtin "min") vs H1 Q) (hg : Gl X "min" := by rfl) (he : starEach (e :: es) X.env = (false, eval e X.env) :: starEach es X.env := by rfl)
    (hpl : (backTo pos (starEach es X.env)).any (·.1) = false := by rfl) : EV X (.Call (.Name "min" p) (e :: es) [] pos) σ H Q := ev_fn hg (B.at_ 11) boot_min q (he := he) (hpl := hpl)
theorem ev_repr (B : Blt X.mg) (q : AV X (e :: es) σ H fun vs H1 => CV X (.builtin "repr") vs H1 Q) (hg : Gl X "repr" := by rfl) (he : starEach (e :: es) X.env = (false, eval e X.env) :: starEach es X.env := by rfl)
    (hpl : (backTo pos (starEach es X.env)).any (·.1) = false := by rfl) : EV X (.Call (.Name "repr" p) (e :: es) [] pos) σ H Q := ev_fn hg (B.at_ 13) boot_repr q (he := he) (hpl := hpl)
theorem ev_sorted (B : Blt X.mg) (q : AV X (e :: es) σ H fun vs H1 => CV X (.builtin "sorted") vs H1 Q) (hg : Gl X "sorted" := by rfl) (he : starEach (e :: es) X.env = (false, eval e X.env) :: starEach es X.env := by rfl)
    (hpl : (backTo pos (starEach es X.env)).any (·.1) = false := by rfl) : EV X (.Call (.Name "sorted" p) (e :: es) [] pos) σ H Q := ev_fn hg (B.at_ 15) boot_sorted q (he := he) (hpl := hpl)
theorem ev_sum (B : Blt X.mg) (q : AV X (e :: es) σ H fun vs H1 => CV X (.builtin "sum") vs H1 Q) (hg : Gl X "sum" := by rfl) (he : starEach (e :: es) X.env = (false, eval e X.env) :: starEach es X.env := by rfl)
    (hpl : (backTo pos (starEach es X.env)).any (·.1) = false := by rfl) : EV X (.Call (.Name "sum" p) (e :: es) [] pos) σ H Q := ev_fn hg (B.at_ 17) boot_sum q (he := he) (hpl := hpl)
theorem ev_boolc (B : Blt X.mg) (q : AV X (e :: es) σ H fun vs H1 => CV X (.type "bool") vs H1 Q) (hg : Gl X "bool" := by rfl) (he : starEach (e :: es) X.env = (false, eval e X.env) :: starEach es X.env := by rfl)
    (hpl : (backTo pos (starEach es X.env)).any (·.1) = false := by rfl) : EV X (.Call (.Name "bool" p) (e :: es) [] pos) σ H Q := ev_ty hg (B.at_ 3) boot_bool q (he := he) (hpl := hpl)
theorem ev_dictc (B : Blt X.mg) (q : AV X (e :: es) σ H fun vs H1 => CV X (.type "dict") vs H1 Q) (hg : Gl X "dict" := by rfl) (he : starEach (e :: es) X.env = (false, eval e X.env) :: starEach es X.env := by rfl)
    (hpl : (backTo pos (starEach es X.env)).any (·.1) = false := by rfl) : EV X (.Call (.Name "dict" p) (e :: es) [] pos) σ H Q := ev_ty hg (B.at_ 4) boot_dict q (he := he) (hpl := hpl)
theorem ev_intc (B : Blt X.mg) (q : AV X (e :: es) σ H fun vs H1 => CV X (.type "int") vs H1 Q) (hg : Gl X "int" := by rfl) (he : starEach (e :: es) X.env = (false, eval e X.env) :: starEach es X.env := by rfl)
    (hpl : (backTo pos (starEach es X.env)).any (·.1) = false := by rfl) : EV X (.Call (.Name "int" p) (e :: es) [] pos) σ H Q := ev_ty hg (B.at_ 6) boot_int q (he := he) (hpl := hpl)
theorem ev_listc (B : Blt X.mg) (q : AV X (e :: es) σ H fun vs H1 => CV X (.type "list") vs H1 Q) (hg : Gl X "list" := by rfl) (he : starEach (e :: es) X.env = (false, eval e X.env) :: starEach es X.env := by rfl)
    (hpl : (backTo pos (starEach es X.env)).any (·.1) = false := by rfl) : EV X (.Call (.Name "list" p) (e :: es) [] pos) σ H Q := ev_ty hg (B.at_ 9) boot_list q (he := he) (hpl := hpl)
theorem ev_strc (B : Blt X.mg) (q : AV X (e :: es) σ H fun vs H1 => CV X (.type "str") vs H1 Q) (hg : Gl X "str" := by rfl) (he : starEach (e :: es) X.env = (false, eval e X.env) :: starEach es X.env := by rfl)
    (hpl : (backTo pos (starEach es X.env)).any (·.1) = false := by rfl) : EV X (.Call (.Name "str" p) (e :: es) [] pos) σ H Q := ev_ty hg (B.at_ 16) boot_str q (he := he) (hpl := hpl)
theorem ev_tuplec (B : Blt X.mg) (q : AV X (e :: es) σ H fun vs H1 => CV X (.type "tuple") vs H1 Q) (hg : Gl X "tuple" := by rfl) (he : starEach (e :: es) X.env = (false, eval e X.env) :: starEach es X.env := by rfl)
    (hpl : (backTo pos (starEach es X.env)).any (·.1) = false := by rfl) : EV X (.Call (.Name "tuple" p) (e :: es) [] pos) σ H Q := ev_ty hg (B.at_ 18) boot_tuple q (he := he) (hpl := hpl)
theorem ev_nint (B : Blt X.mg) (q : Q (.ty "int") H) (hg : Gl X "int" := by rfl) : EV X (.Name "int" pos) σ H Q := ev_bt hg (B.at_ 6) boot_int (v := .ty "int") rfl q
theorem ev_nbool (B : Blt X.mg) (q : Q (.ty "bool") H) (hg : Gl X "bool" := by rfl) : EV X (.Name "bool" pos) σ H Q := ev_bt hg (B.at_ 3) boot_bool (v := .ty "bool") rfl q
theorem ev_nstr (B : Blt X.mg) (q : Q (.ty "str") H) (hg : Gl X "str" := by rfl) : EV X (.Name "str" pos) σ H Q := ev_bt hg (B.at_ 16) boot_str (v := .ty "str") rfl q
theorem ev_ndict (B : Blt X.mg) (q : Q (.ty "dict") H) (hg : Gl X "dict" := by rfl) : EV X (.Name "dict" pos) σ H Q := ev_bt hg (B.at_ 4) boot_dict (v := .ty "dict") rfl q
theorem ev_nlist (B : Blt X.mg) (q : Q (.ty "list") H) (hg : Gl X "list" := by rfl) : EV X (.Name "list" pos) σ H Q := ev_bt hg (B.at_ 9) boot_list (v := .ty "list") rfl q
theorem ev_ntuple (B : Blt X.mg) (q : Q (.ty "tuple") H) (hg : Gl X "tuple" := by rfl) : EV X (.Name "tuple" pos) σ H Q := ev_bt hg (B.at_ 18) boot_tuple (v := .ty "tuple") rfl q
theorem cv_all (hc : X.calm = true) {a : Addr} {bs : List Bool} (h : SqL X.K H a (bs.map V.bl)) (q : Q (.bl (bs.all id)) H) : CV X (.builtin "all") [.ref a] H Q := ⟨_, cr_all hc, a, bs, rfl, h, q⟩
theorem cv_any (hc : X.calm = true) {a : Addr} {bs : List Bool} (h : SqL X.K H a (bs.map V.bl)) (q : Q (.bl (bs.any id)) H) : CV X (.builtin "any") [.ref a] H Q := ⟨_, cr_any hc, a, bs, rfl, h, q⟩
theorem ex_bl {P : Bool → Prop} {b : Bool} (q : P b) : ∃ k, V.bl b = .bl k ∧ P k := ⟨b, rfl, q⟩
theorem tru_bl {K : PySem.W.Frag} {P : Bool → Prop} {b : Bool} (q : P b) : ∃ k, TruV K (.bl b) H k ∧ P k := ⟨b, rfl, q⟩
end
/-! ### heaps -/
theorem upd_keep {H : Hp} {p a : Addr} {o u : HO} (hp : H p = none) (h : H a = some u) : upd H p o a = some u := by
  rw [upd_ne (ne_of_none h hp)]
  exact h
theorem Same.get {H H' : Hp} {a : Addr} {u : HO} (e : Same H H') (h : H a = some u) : H' a = some u := e _ _ h
theorem ExB.get {p : Addr} {H H' : Hp} {a : Addr} {u : HO} (e : ExB p H H') (n : a ≠ p) (h : H a = some u) : H' a = some u := e _ _ n h
theorem ExB.gt {p : Addr} {H H' : Hp} {a : Addr} {u : HO} (e : ExB p H H') (h : H a = some u) (n : a ≠ p) : H' a = some u := e _ _ n h
theorem same_upd {H : Hp} {p : Addr} {o : HO} (hp : H p = none) : Same H (upd H p o) := fun _ _ h => upd_keep hp h
/-! ### comprehensions over a list -/
section
variable {X : Cx} {elt tg iter : Expr} {scope : Scope} {own : List (Str × Nat)} {σ : L2.St} {H : Hp} {Q : VK} {pos : Pos}
abbrev Cx.blk0 (X : Cx) (scope : Scope) (s : Shared) (H : Hp) (C : Addr) (cl : List (Str × Addr)) (fp : List Addr) : Cx := X.blk s H scope (compEnvC scope cl C X.env) fp
/-- the element in every frame of the comprehension's own -/
def LE (X : Cx) (scope : Scope) (elt : Expr) : TE := fun σ H Q => ∀ (s : Shared) (H0 : Hp) (C : Addr) (cl : List (Str × Addr)) (fp : List Addr), EV (Cx.blk0 X scope s H0 C cl fp) elt σ H Q
def LT (X : Cx) (scope : Scope) (e : Expr) : TT := fun σ H Q => ∀ (s : Shared) (H0 : Hp) (C : Addr) (cl : List (Str × Addr)) (fp : List Addr), TV (Cx.blk0 X scope s H0 C cl fp) e σ H Q
theorem pe_le (s : Shared) (H0 : Hp) (C : Addr) (cl : List (Str × Addr)) (fp : List Addr) : PE (Cx.blk0 X scope s H0 C cl fp) elt (LE X scope elt) :=
  ⟨fun pins s' σ H Q I h => pe_ev.run pins s' σ H Q I (h s H0 C cl fp)⟩
theorem pt_lt (s : Shared) (H0 : Hp) (C : Addr) (cl : List (Str × Addr)) (fp : List Addr) : PT (Cx.blk0 X scope s H0 C cl fp) elt (LT X scope elt) :=
  ⟨fun pins s' σ H Q I h => pt_tv.run pins s' σ H Q I (h s H0 C cl fp)⟩
theorem ev_mono {e : Expr} {Q' : VK} (h : EV X e σ H Q) (im : ∀ v H', Q v H' → Q' v H') : EV X e σ H Q' :=
  ⟨fun σ H Q' => ∃ Q, EV X e σ H Q ∧ ∀ v H', Q v H' → Q' v H', ⟨fun pins s σ H Q' I ⟨Q, h, im⟩ => thn (pe_ev.run pins s σ H Q I h) fun u s' ⟨v, H', I', r, q⟩ => ⟨v, H', I', r, im _ _ q⟩⟩, Q, h, im⟩
theorem tv_mono {e : Expr} {Q Q' : Bool → Hp → Prop} (h : TV X e σ H Q) (im : ∀ v H', Q v H' → Q' v H') : TV X e σ H Q' :=
  ⟨fun σ H Q' => ∃ Q, TV X e σ H Q ∧ ∀ v H', Q v H' → Q' v H', ⟨fun pins s σ H Q' I ⟨Q, h, im⟩ => thn (pt_tv.run pins s σ H Q I h) fun u s' ⟨H', I', q⟩ => ⟨H', I', im _ _ q⟩⟩, Q, h, im⟩
theorem av_mono {es : List Expr} {Q Q' : List V → Hp → Prop} (h : AV X es σ H Q) (im : ∀ v H', Q v H' → Q' v H') : AV X es σ H Q' :=
  ⟨fun σ H Q' => ∃ Q, AV X es σ H Q ∧ ∀ v H', Q v H' → Q' v H', ⟨fun pos pins s σ H Q' I ⟨Q, h, im⟩ => thn (pa_av.run pos pins s σ H Q I h) fun u s' ⟨v, H', I', r, q⟩ => ⟨v, H', I', r, im _ _ q⟩⟩, Q, h, im⟩
/-- [elt for tg in iter], iter walked as J: In by the turns done and what they gave -/
theorem ev_lc {wi : TI} {g : TG} (hc : X.calm = true) (hN : X.N.Nodup) (hi : PI X tg iter wi) (ok : BlkOk X.N X.env.scope scope own)
    (hg : ∀ (s : Shared) (H : Hp) (C : Addr) (cl : List (Str × Addr)) (fp : List Addr), PG (Cx.blk0 X scope s H C cl fp) tg g)
    (gm : ∀ x σ H Q Q', (∀ σ' H', Q σ' H' → Q' σ' H') → g x σ H Q → g x σ H Q')
    (wm : ∀ σ H R R', (∀ J H', R J H' → R' J H') → wi σ H R → wi σ H R') (hs : ∀ x, foldedSetIterable iter X.env x = pure x)
    (q : wi σ H fun J H1 => ∃ n Y G, Walk J n G Y ∧ n ≤ 100000 ∧ ∀ D, H1 D = none → ∃ In : Nat → List V → Hp → Prop, In 0 [] (upd H1 D (.lst [])) ∧ (∀ i ys H, In i ys H → G H) ∧
      (∀ i ys x H H', i < n → ys.length = i → H D = some (.lst ys) → In i ys H → Y i H x H' → g x (wipe σ (own.map (·.2))) H' fun σ2 H2 => wipe σ2 (own.map (·.2)) = wipe σ (own.map (·.2)) ∧
        LE X scope elt σ2 H2 fun y H4 => H4 D = some (.lst ys) ∧ In (i + 1) (ys ++ [y]) (upd H4 D (.lst (ys ++ [y])))) ∧
      ∀ ys H, ys.length = n → H D = some (.lst ys) → In n ys H → Q (.ref D) H) :
    EV X (.ListComp elt [⟨tg, iter, [], 0⟩] scope pos) σ H Q := by
  refine ⟨_, pe_lc hc hN hi ok hg (fun _ _ _ _ _ => pts_nil) (fun s H C cl fp => pe_le s H C cl fp) hs, ?_⟩
  refine wm _ _ _ _ (fun J H1 h D hD => ?_) q
  obtain ⟨n, Y, G, w, hn, h⟩ := h
  obtain ⟨In, h0, hG, hs, hd⟩ := h D hD
  refine lc_it w (fun i H => ∃ ys, ys.length = i ∧ H D = some (.lst ys) ∧ In i ys H) ⟨[], rfl, upd_same, h0⟩ (fun i H _ ⟨ys, _, _, a⟩ => hG i ys H a) ?_ (fun H ⟨ys, a, b, c⟩ => hd ys H a b c)
  rintro i x H H' hi ⟨ys, e1, e2, e3⟩ y
  refine gm _ _ _ _ _ (fun σ2 H2 h2 => ⟨h2.1, ?_⟩) (hs i ys x H H' hi e1 e2 e3 y)
  dsimp only [tYes]
  rw [if_pos rfl]
  intro s H0 C cl fp
  refine ev_mono (e := elt) (h2.2 s H0 C cl fp) fun y H4 z => ⟨ys, z.1, ?_, ys ++ [y], by simp [e1], upd_same, z.2⟩
  have : (100000 : Nat) < sizeLine := by decide
  omega
theorem gname_mono {j : Nat} : ∀ x σ H Q Q', (∀ σ' H', Q σ' H' → Q' σ' H') → gName j x σ H Q → gName j x σ H Q' := fun _ _ _ _ _ im h => im _ _ h
theorem gtup2_mono {K : PySem.W.Frag} {i j : Nat} : ∀ x σ H Q Q', (∀ σ' H', Q σ' H' → Q' σ' H') → gTup K 2 (gCons (gName i) (gCons (gName j) gNil)) x σ H Q → gTup K 2 (gCons (gName i) (gCons (gName j) gNil)) x σ H Q' :=
  fun _ _ _ _ _ im ⟨a, xs, h1, h2, h3, v, r, h4, v2, r2, h5, h6, h7⟩ => ⟨a, xs, h1, h2, h3, v, r, h4, v2, r2, h5, h6, im _ _ h7⟩
/-- over a list, one name -/
theorem ev_lcL (j : Nat) {x : Str} {px : Pos} (hc : X.calm = true) (hN : X.N.Nodup) (ok : BlkOk X.N X.env.scope scope own)
    (hg : ∀ (s : Shared) (H : Hp) (C : Addr) (cl : List (Str × Addr)) (fp : List Addr), PG (Cx.blk0 X scope s H C cl fp) (.Name x px) (gName j)) (hw : ∀ v, wipe ((wipe σ (own.map (·.2))).set j (some v)) (own.map (·.2)) = wipe σ (own.map (·.2)))
    (q : EV X iter σ H fun v H1 => ∃ a xs, v = .ref a ∧ SqL X.K H1 a xs ∧ xs.length ≤ 100000 ∧ ∀ D, H1 D = none → ∃ In : Nat → List V → Hp → Prop, In 0 [] (upd H1 D (.lst [])) ∧ (∀ i ys H, In i ys H → SqL X.K H a xs) ∧
      (∀ i ys v H, xs[i]? = some v → ys.length = i → H D = some (.lst ys) → In i ys H → LE X scope elt ((wipe σ (own.map (·.2))).set j (some v)) H fun y H4 => H4 D = some (.lst ys) ∧ In (i + 1) (ys ++ [y]) (upd H4 D (.lst (ys ++ [y])))) ∧
      ∀ ys H, ys.length = xs.length → H D = some (.lst ys) → In xs.length ys H → Q (.ref D) H) (hs : ∀ x, foldedSetIterable iter X.env x = pure x := by intro _; rfl) :
    EV X (.ListComp elt [⟨.Name x px, iter, [], 0⟩] scope pos) σ H Q := by
  refine ev_lc hc hN (pi_list pe_ev) ok hg gname_mono (fun σ H R R' im h => ev_mono h fun v H' ⟨a, h1, h2, h3⟩ => ⟨a, h1, h2, im _ _ h3⟩) hs ?_
  refine ev_mono q fun v H1 ⟨a, xs, h1, h2, h3, h4⟩ => ⟨a, h1, ⟨xs, h2⟩, xs.length, _, _, walk_list, h3, fun D hD => ?_⟩
  obtain ⟨In, h0, hG, hs, hd⟩ := h4 D hD
  exact ⟨In, h0, hG, fun i ys v H H' hi e1 e2 e3 ⟨e4, e5⟩ => by subst e4; exact ⟨hw v, hs i ys v _ e5 e1 e2 e3⟩, hd⟩
/-- over range(e), one name -/
theorem ev_lcR (j : Nat) {x : Str} {px p p2 : Pos} {e : Expr} (B : Blt X.mg) (hc : X.calm = true) (hN : X.N.Nodup) (ok : BlkOk X.N X.env.scope scope own)
    (hg : ∀ (s : Shared) (H : Hp) (C : Addr) (cl : List (Str × Addr)) (fp : List Addr), PG (Cx.blk0 X scope s H C cl fp) (.Name x px) (gName j)) (hw : ∀ v, wipe ((wipe σ (own.map (·.2))).set j (some v)) (own.map (·.2)) = wipe σ (own.map (·.2)))
    (q : AV X [e] σ H fun vs H1 => ∃ n : Nat, vs = [.int n] ∧ n ≤ 100000 ∧ ∀ D, H1 D = none → ∃ In : Nat → List V → Hp → Prop, In 0 [] (upd H1 D (.lst [])) ∧
      (∀ i ys H, i < n → ys.length = i → H D = some (.lst ys) → In i ys H → LE X scope elt ((wipe σ (own.map (·.2))).set j (some (.int i))) H fun y H4 => H4 D = some (.lst ys) ∧ In (i + 1) (ys ++ [y]) (upd H4 D (.lst (ys ++ [y])))) ∧
      ∀ ys H, ys.length = n → H D = some (.lst ys) → In n ys H → Q (.ref D) H) (hgl : Gl X "range" := by rfl) (hst : starEach [e] X.env = [(false, eval e X.env)] := by rfl) (hs : ∀ x, foldedSetIterable (.Call (.Name "range" p) [e] [] p2) X.env x = pure x := by intro _; rfl) :
    EV X (.ListComp elt [⟨.Name x px, .Call (.Name "range" p) [e] [] p2, [], 0⟩] scope pos) σ H Q := by
  refine ev_lc hc hN (pi_range1 hgl (B.at_ 12) pa_av hst) ok hg gname_mono (fun σ H R R' im h => av_mono h fun v H' ⟨a, h1, h2, h3, h4⟩ => ⟨a, h1, h2, h3, im _ _ h4⟩) hs ?_
  refine av_mono q fun v H1 ⟨n, h1, h3, h4⟩ => ⟨n, h1, by omega, by omega, n, _, _, walk_range, h3, fun D hD => ?_⟩
  obtain ⟨In, h0, hs, hd⟩ := h4 D hD
  exact ⟨In, h0, fun _ _ _ _ => trivial, fun i ys v H H' hi e1 e2 e3 ⟨e4, e5⟩ => by
    subst e4 e5
    have z : (0 : Int) + (i : Int) = i := by omega
    show gName j (V.int ((0 : Int) + (i : Int))) _ _ _
    rw [z]
    exact ⟨hw _, hs i ys _ hi e1 e2 e3⟩, hd⟩
/-- over zip of two lists, two names -/
theorem ev_lcZ (j k : Nat) {x y : Str} {px py pt p p2 : Pos} {kk : Nat} {e e2 : Expr} (B : Blt X.mg) (hc : X.calm = true) (hN : X.N.Nodup) (ok : BlkOk X.N X.env.scope scope own)
    (hg : ∀ (s : Shared) (H : Hp) (C : Addr) (cl : List (Str × Addr)) (fp : List Addr), PG (Cx.blk0 X scope s H C cl fp) (.Tuple [.Name x px, .Name y py] kk pt) (gTup X.K 2 (gCons (gName j) (gCons (gName k) gNil))))
    (hw : ∀ v w, wipe (((wipe σ (own.map (·.2))).set j (some v)).set k (some w)) (own.map (·.2)) = wipe σ (own.map (·.2)))
    (q : AV X [e, e2] σ H fun vs H1 => ∃ a b xs zs, vs = [.ref a, .ref b] ∧ SqL X.K H1 a xs ∧ SqL X.K H1 b zs ∧ xs.length ≤ 100000 ∧ ∀ D, H1 D = none → ∃ In : Nat → List V → Hp → Prop, In 0 [] (upd H1 D (.lst [])) ∧ (∀ i ys H, In i ys H → SqL X.K H a xs ∧ SqL X.K H b zs) ∧
      (∀ i ys v w H T, xs[i]? = some v → zs[i]? = some w → ys.length = i → H D = some (.lst ys) → In i ys H → H T = none → LE X scope elt (((wipe σ (own.map (·.2))).set j (some v)).set k (some w)) (upd H T (.tup [v, w])) fun y H4 => H4 D = some (.lst ys) ∧ In (i + 1) (ys ++ [y]) (upd H4 D (.lst (ys ++ [y])))) ∧
      ∀ ys H, ys.length = min xs.length zs.length → H D = some (.lst ys) → In (min xs.length zs.length) ys H → Q (.ref D) H) (hgl : Gl X "zip" := by rfl)
    (hst : starEach [e, e2] X.env = (false, eval e X.env) :: starEach [e2] X.env := by rfl) (hpl : (backTo p2 (starEach [e2] X.env)).any (·.1) = false := by rfl) (hs : ∀ x, foldedSetIterable (.Call (.Name "zip" p) [e, e2] [] p2) X.env x = pure x := by intro _; rfl) :
    EV X (.ListComp elt [⟨.Tuple [.Name x px, .Name y py] kk pt, .Call (.Name "zip" p) [e, e2] [] p2, [], 0⟩] scope pos) σ H Q := by
  refine ev_lc hc hN (RZ.pi_zipA hgl (B.at_ 20) pa_av hst hpl) ok hg gtup2_mono (fun σ H R R' im h => av_mono h fun v H' ⟨a, b, xs, ys, h1, h2⟩ => ⟨a, b, xs, ys, h1, h2.elim (fun h => .inl ⟨h.1, h.2.1, im _ _ h.2.2⟩) fun h => .inr ⟨h.1, h.2.1, im _ _ h.2.2⟩⟩) hs ?_
  refine av_mono q fun v H1 ⟨a, b, xs, zs, h1, h2, h3, h5, h4⟩ => ⟨a, b, xs, zs, h1, .inl ⟨h2, h3, min xs.length zs.length, _, _, walk_zip (xs := xs) (ys := zs) rfl, by omega, fun D hD => ?_⟩⟩
  obtain ⟨In, h0, hG, hs, hd⟩ := h4 D hD
  refine ⟨In, h0, hG, fun i ys v H H' hi e1 e2 e3 ⟨T, v1, w1, e4, e5, e6, e7, e8⟩ => ?_, hd⟩
  subst e4 e6
  exact ⟨T, [v1, w1], rfl, .of upd_same, rfl, v1, [w1], rfl, w1, [], rfl, rfl, hw _ _, hs i ys v1 w1 H T e7 e8 e1 e2 e3 e5⟩
end
/-! ### for -/
section
variable {X : Cx} {D : Ends} {σ : L2.St} {H : Hp} {pos : Pos} {body : List Stmt}
theorem sv_for {tg iter : Expr} {wi : TI} {g : TG} (hp : PassesOwn (model X.prog X.w) X.A X.env X.xe) (hc : X.calm = true) (hi : PI X tg iter wi) (hg : PG X tg g)
    (gm : ∀ x σ H Q Q', (∀ σ' H', Q σ' H' → Q' σ' H') → g x σ H Q → g x σ H Q')
    (wm : ∀ σ H R R', (∀ J H', R J H' → R' J H') → wi σ H R → wi σ H R') (hs : ∀ x, foldedSetIterable iter X.env x = pure x)
    (q : wi σ H fun J H1 => ∃ n Y G, Walk J n G Y ∧ ∃ Pv : Nat → L2.St → Hp → Prop, Pv 0 σ H1 ∧ (∀ i σ H, Pv i σ H → G H) ∧
      (∀ i x σ H H', i < n → Pv i σ H → Y i H x H' → g x σ H' fun σ2 H2 => BV X body { D with nx := Pv (i + 1), ct := Pv (i + 1), bk := D.nx } σ2 H2) ∧ ∀ σ H, Pv n σ H → D.nx σ H) :
    SV X (.For tg iter body [] pos) D σ H := by
  refine ⟨_, ps_for hp hc hi hg pss_bv hs, ?_⟩
  refine wm _ _ _ _ (fun J H1 h => ?_) q
  obtain ⟨n, Y, G, w, Pv, h0, hG, hs, hd⟩ := h
  exact for_it w Pv h0 (fun i σ H _ p => hG i σ H p) hs hd
/-- for x in range(e) -/
theorem sv_forR (j : Nat) {x : Str} {px p p2 : Pos} {e : Expr} (B : Blt X.mg) (hp : PassesOwn (model X.prog X.w) X.A X.env X.xe) (hc : X.calm = true) (hg : PG X (.Name x px) (gName j))
    (q : AV X [e] σ H fun vs H1 => ∃ n : Nat, vs = [.int n] ∧ n ≤ 100000 ∧ ∃ Pv : Nat → L2.St → Hp → Prop, Pv 0 σ H1 ∧
      (∀ i σ H, i < n → Pv i σ H → BV X body { D with nx := Pv (i + 1), ct := Pv (i + 1), bk := D.nx } (σ.set j (some (.int i))) H) ∧ ∀ σ H, Pv n σ H → D.nx σ H)
    (hgl : Gl X "range" := by rfl) (hst : starEach [e] X.env = [(false, eval e X.env)] := by rfl) (hs : ∀ x, foldedSetIterable (.Call (.Name "range" p) [e] [] p2) X.env x = pure x := by intro _; rfl) :
    SV X (.For (.Name x px) (.Call (.Name "range" p) [e] [] p2) body [] pos) D σ H := by
  refine sv_for hp hc (pi_range1 hgl (B.at_ 12) pa_av hst) hg gname_mono (fun σ H R R' im h => av_mono h fun v H' ⟨a, h1, h2, h3, h4⟩ => ⟨a, h1, h2, h3, im _ _ h4⟩) hs ?_
  refine av_mono q fun v H1 ⟨n, h1, h3, Pv, h0, hs, hd⟩ => ⟨n, h1, by omega, by omega, n, _, _, walk_range, Pv, h0, fun _ _ _ _ => trivial, fun i v σ H H' hi e1 ⟨e4, e5⟩ => ?_, hd⟩
  subst e4 e5
  have z : (0 : Int) + (i : Int) = i := by omega
  show gName j (V.int ((0 : Int) + (i : Int))) _ _ _
  rw [z]
  exact hs i σ _ hi e1
/-- for x in a list that the body leaves as it is -/
theorem sv_forL (j : Nat) {x : Str} {px : Pos} {iter : Expr} (hp : PassesOwn (model X.prog X.w) X.A X.env X.xe) (hc : X.calm = true) (hg : PG X (.Name x px) (gName j))
    (q : EV X iter σ H fun v H1 => ∃ a xs, v = .ref a ∧ SqL X.K H1 a xs ∧ ∃ Pv : Nat → L2.St → Hp → Prop, Pv 0 σ H1 ∧ (∀ i σ H, Pv i σ H → SqL X.K H a xs) ∧
      (∀ i v σ H, xs[i]? = some v → Pv i σ H → BV X body { D with nx := Pv (i + 1), ct := Pv (i + 1), bk := D.nx } (σ.set j (some v)) H) ∧ ∀ σ H, Pv xs.length σ H → D.nx σ H)
    (hs : ∀ x, foldedSetIterable iter X.env x = pure x := by intro _; rfl) :
    SV X (.For (.Name x px) iter body [] pos) D σ H := by
  refine sv_for hp hc (pi_list pe_ev) hg gname_mono (fun σ H R R' im h => ev_mono h fun v H' ⟨a, h1, h2, h3⟩ => ⟨a, h1, h2, im _ _ h3⟩) hs ?_
  refine ev_mono q fun v H1 ⟨a, xs, h1, h2, Pv, h0, hG, hs, hd⟩ => ⟨a, h1, ⟨xs, h2⟩, xs.length, _, _, walk_list, Pv, h0, hG, fun i v σ H H' hi e1 ⟨e4, e5⟩ => ?_, hd⟩
  subst e4
  exact hs i v σ _ e5 e1
/-- a, b = e1, e2 -/
theorem sv_par (i j : Nat) {x y : Str} {a b : Expr} {px py pt pt2 : Pos} {kt k2 : Nat} (hc : X.calm = true) (hN : X.N.Nodup) (hi : X.N[i]? = some x) (hj : X.N[j]? = some y) (hij : i ≠ j)
    (lx : X.env.scope.names.lookup x = some .local) (ly : X.env.scope.names.lookup y = some .local)
    (q : AV X [a, b] σ H fun vs H1 => ∃ v w, vs = [v, w] ∧ D.nx ((σ.set i (some v)).set j (some w)) H1)
    (hw : swappedStores [.Tuple [.Name x px, .Name y py] kt pt] (.Tuple [a, b] k2 pt2) X.env = pure (some [x, y]) := by rfl)
    (hs : swapsWithSole [.Tuple [.Name x px, .Name y py] kt pt] (.Tuple [a, b] k2 pt2) pos.line X.env = pure false := by rfl) :
    SV X (.Assign [.Tuple [.Name x px, .Name y py] kt pt] (.Tuple [a, b] k2 pt2) pos) D σ H := ⟨_, ps_par hc hN hi hj hij lx ly pa_av hw hs, q⟩
/-- o[i] = e, o a list -/
theorem sv_seti {o i e : Expr} {p : Pos} (q : EV X e σ H fun v H1 => EV X o σ H1 fun x H2 => EV X i σ H2 fun y H3 => ∃ p xs k j, x = .ref p ∧ y = .int k ∧ H3 p = some (.lst xs) ∧ ixN xs.length k = some j ∧ D.nx σ (upd H3 p (.lst (xs.set j v))))
    (ha : ∀ v, assign (.Subscript o i p) X.env v = (do
      let ov ← holding [v] (eval o X.env)
      let iv ← holding [v, ov] (eval i X.env)
      standAt p
      holding [v, ov, iv] (setItem ov iv v)
      release [v, ov, iv] []) := by intro _; rfl)
    (hs : swapsWithSole [.Subscript o i p] e pos.line X.env = pure false := by rfl) (hw : swappedStores [.Subscript o i p] e X.env = pure none := by rfl) : SV X (.Assign [.Subscript o i p] e pos) D σ H :=
  ⟨_, ps_asg pe_ev (pg_sub pe_ev pe_ev set_list ha) hs hw, ev_mono q fun v H1 h => ev_mono h fun x H2 h => ev_mono h fun y H3 ⟨p, xs, k, j, h1, h2, h3, h4, h5⟩ => ⟨p, xs, k, j, h1, h2, h3, h4, h5⟩⟩
/-- what holds behind a statement -/
theorem sv_cut {st : Stmt} (M : L2.St → Hp → Prop) (h : SV X st { D with nx := M } σ H) (im : ∀ σ H, M σ H → D.nx σ H) : SV X st D σ H := by
  refine ⟨fun D σ H => ∃ M : L2.St → Hp → Prop, SV X st { D with nx := M } σ H ∧ ∀ σ H, M σ H → D.nx σ H, ⟨fun pins s σ H D I ⟨M, h, im⟩ => ?_⟩, M, h, im⟩
  refine thn (ps_sv.run pins s σ H _ I h) fun f s1 z => ?_
  cases f with
  | next => exact let ⟨σ', H', I', q⟩ := z; ⟨σ', H', I', im _ _ q⟩
  | brk => exact z
  | cont => exact z
  | ret u => exact z
end
end Hv
/-! HG: texts (f-strings, slices, split, int(text)), starred targets and displays, static methods, built-in methods, in one pass. -/
namespace Hv
open PySem PySem.Spec PyProof.Rows L2
theorem iteNF {A B : Prop} (a : A) : if (!false) = true then A else B := a
theorem iteNT {A B : Prop} (b : B) : if (!true) = true then A else B := b
/-! ### f-strings -/
section
variable {X : Cx} {e v1 v2 o a b lo hi : Expr} {es rest : List Expr} {σ : L2.St} {H : Hp} {Q : VK} {pos p p2 apos : Pos} {acc : Str}
theorem pj_ev : ∀ es : List Expr, PJ X es (es.map (EV X))
  | [] => .nil
  | e :: es => .cons pe_ev (pj_ev es)
theorem ev_fs (q : tJs ((v1 :: v2 :: rest).map (EV X)) Str.empty σ H fun out H1 => Q (.str out) H1) : EV X (.JoinedStr (v1 :: v2 :: rest) pos) σ H Q := ⟨_, pe_joined (pj_ev _), q⟩
theorem jv_cons {Q : Str → Hp → Prop} (q : EV X e σ H fun x H1 => ∃ y : Str, x = .str y ∧ (acc ++ y).length ≤ sizeLine ∧ tJs (es.map (EV X)) (acc ++ y) σ H1 Q) : tJs ((e :: es).map (EV X)) acc σ H Q := q
theorem jv_nil {Q : Str → Hp → Prop} (q : Q acc H) : tJs (([] : List Expr).map (EV X)) acc σ H Q := q
theorem ev_fmtI (q : EV X e σ H fun x H1 => ∃ i : Int, x = .int i ∧ i.natAbs.log2 < 1920 ∧ Q (.str (toString i)) H1) : EV X (.FormattedValue e (-1) none pos) σ H Q :=
  ⟨_, pe_fmt pe_ev, ev_mono q fun _ _ h => .inr h⟩
theorem ev_fmtS (q : EV X e σ H fun x H1 => ∃ y : Str, x = .str y ∧ y.length ≤ sizeLine ∧ Q (.str y) H1) : EV X (.FormattedValue e (-1) none pos) σ H Q :=
  ⟨_, pe_fmt pe_ev, ev_mono q fun _ _ h => .inl h⟩
theorem cv_strI {i : Int} (h : i.natAbs.log2 < 1920) (q : Q (.str (toString i)) H) : CV X (.type "str") [.int i] H Q := ⟨_, L2.call_str_int, i, rfl, h, q⟩
theorem cv_intS {x : Str} {n : Int} (h1 : PySem.intText? x = some n) (h2 : x.length ≤ 640) (q : Q (.int n) H) : CV X (.type "int") [.str x] H Q := ⟨_, L2.call_int_str, x, n, rfl, h1, h2, q⟩
/-! ### slices -/
structure OVs (X : Cx) (e : Option Expr) (σ : L2.St) (H : Hp) (Q : Option Int → Hp → Prop) : Prop where
  ex : ∃ t : TO, PO X e t ∧ t σ H Q
theorem po_ov {e : Option Expr} : PO X e (OVs X e) := ⟨fun pins s σ H Q I ⟨_, h, q⟩ => h.run pins s σ H Q I q⟩
theorem os_no {Q : Option Int → Hp → Prop} (q : Q none H) : OVs X none σ H Q := ⟨_, po_none, q⟩
theorem os_so {Q : Option Int → Hp → Prop} (q : EV X e σ H fun x H1 => ∃ i, x = .int i ∧ Q (some i) H1) : OVs X (some e) σ H Q := ⟨_, po_some pe_ev, q⟩
/-- a text's slice -/
theorem ev_slS {lo hi : Option Expr} (q : EV X e σ H fun x H1 => OVs X lo σ H1 fun l H2 => OVs X hi σ H2 fun u H3 => ∃ z, x = .str z ∧ z.length ≤ sizeLine ∧ Q (.str (Txt.slice z l u)) H3) : EV X (.Subscript e (.Slice lo hi none p2) pos) σ H Q :=
  ⟨_, pe_slice C8.sl_txt pe_ev po_ov po_ov, q⟩
/-- a list's slice -/
theorem ev_slL {lo hi : Option Expr} (q : EV X e σ H fun x H1 => OVs X lo σ H1 fun l H2 => OVs X hi σ H2 fun u H3 => ∃ a xs, x = .ref a ∧ SqL X.K H3 a xs ∧ ∀ p, H3 p = none → Q (.ref p) (upd H3 p (.lst (cutV xs l u)))) : EV X (.Subscript e (.Slice lo hi none p2) pos) σ H Q :=
  ⟨_, pe_slice sl_list pe_ev po_ov po_ov, q⟩
/-- a tuple's slice, not the whole of it -/
theorem ev_slT {lo hi : Option Expr} (q : EV X e σ H fun x H1 => OVs X lo σ H1 fun l H2 => OVs X hi σ H2 fun u H3 => ∃ a xs, x = .ref a ∧ SqT X.K H3 a xs ∧ ¬ (HT.sIx xs.length 0 l = 0 ∧ HT.sIx xs.length xs.length u = xs.length) ∧ ∀ p, H3 p = none → Q (.ref p) (upd H3 p (.tup (cutV xs l u)))) : EV X (.Subscript e (.Slice lo hi none p2) pos) σ H Q :=
  ⟨_, pe_slice sl_tup pe_ev po_ov po_ov, q⟩
/-! ### texts' methods and operators -/
theorem ev_split (q : EV X o σ H fun x H1 => (∃ z : Str, x = .str z) ∧ EV X e σ H1 fun y H2 => ∃ a b, x = .str a ∧ y = .str b ∧ (b.length == 0) = false ∧ a.length + 2 ≤ sizeLine ∧ ∀ p, H2 p = none → Q (.ref p) (upd H2 p (.lst ((Txt.split a b).map V.str))))
    (hs : starEach [e] X.env = [(false, eval e X.env)] := by rfl) (hbase : attributeBase o "split" X.env (eval o X.env) = eval o X.env := by rfl) (hline : (apos.endLine == pos.line) = true := by rfl) :
    EV X (.Call (.Attribute o "split" apos) [e] [] pos) σ H Q :=
  ⟨_, L2.pe_split pe_ev pe_ev hs hbase hline, ev_mono q fun x H1 ⟨z, h⟩ => ⟨z, ev_mono h fun y H2 ⟨a, b, h1, h2, h3, h4, h5⟩ => ⟨a, b, h1, by rw [h2], h3, h4, h5⟩⟩⟩
theorem ov_inS {c : Nat} {z : Str} (q : Q (.bl (decide (c ∈ z.cps.toList))) H) : OV X (compareOp .In) (.str ⟨#[c]⟩) (.str z) H Q := ⟨_, op_in_sign, c, z, rfl, rfl, q⟩
theorem iv_str {z : Str} {i : Int} {c : Nat} (hz : z.length ≤ sizeLine) (h : atI z.cps.toList i = some c) (q : Q (.str ⟨#[c]⟩) H) : IV X (.str z) (.int i) H Q := ⟨_, ix_str, z, i, c, rfl, rfl, hz, h, q⟩
theorem ov_eqb {x y : Bool} (q : Q (.bl (decide (x = y))) H) : OV X (compareOp .Eq) (.bl x) (.bl y) H Q := ⟨_, op_eq, rfl, by
  cases x <;> cases y <;> exact q⟩
theorem ov_neb {x y : Bool} (q : Q (.bl (!decide (x = y))) H) : OV X (compareOp .NotEq) (.bl x) (.bl y) H Q := ⟨_, op_ne, rfl, by
  cases x <;> cases y <;> exact q⟩
/-- == of data, != of data -/
theorem ov_eqD {k : Nat} {x y : V} {d e : PyData} (hr : RoomG k X.A) (hx : Dp X.K H x d) (hy : Dp X.K H y e) (sd : SeqAt.shaped d = true) (se : SeqAt.shaped e = true) (q : Q (.bl (PyData.eqv d e)) H) : OV X (compareOp .Eq) x y H Q :=
  ⟨_, op_eqD hr.r.units, d, e, hx, hy, sd, se, q⟩
theorem ov_neD {k : Nat} {x y : V} {d e : PyData} (hr : RoomG k X.A) (hx : Dp X.K H x d) (hy : Dp X.K H y e) (sd : SeqAt.shaped d = true) (se : SeqAt.shaped e = true) (q : Q (.bl (!PyData.eqv d e)) H) : OV X (compareOp .NotEq) x y H Q :=
  ⟨_, op_neD hr.r.units, d, e, hx, hy, sd, se, q⟩
/-! ### starred -/
theorem av_star {Q : List V → Hp → Prop} (q : EV X e σ H fun x H1 => ∃ a xs, x = .ref a ∧ (SqT X.K H1 a xs ∨ SqL X.K H1 a xs) ∧ AV X es σ H1 fun vs H2 => Q (xs ++ vs) H2) (hs : starEach (.Starred e p :: es) X.env = (true, eval e X.env) :: starEach es X.env := by rfl) :
    AV X (.Starred e p :: es) σ H Q := ⟨_, StX.pa_star pe_ev pa_av hs, q⟩
/-- a, *b = a list -/
def gStar (K : PySem.W.Frag) (t : TGs) : TG := fun v σ H Q => ∃ l x r, v = .ref l ∧ SqL K H l (x :: r) ∧ ∀ D, H D = none → t [x, .ref D] σ (upd H D (.lst r)) Q
theorem pg_star {a b : Expr} {k : Nat} {t : TGs} (hc : X.calm = true) (h : PGs X [a, b] t) (he : assignEach [a, .Starred b p] X.env = [(false, assign a X.env), (true, assign b X.env)] := by rfl)
    (he2 : (assignEach [a, b] X.env).map (·.2) = [assign a X.env, assign b X.env] := by rfl) : PG X (.Tuple [a, .Starred b p] k pos) (gStar X.K t) := by
  refine ⟨fun pins s σ H v u Q I r hw => ?_⟩
  obtain ⟨l, x, rs, e1, hq, hw⟩ := hw
  subst e1
  cases r
  obtain ⟨its, rv, pl, hz⟩ := I.list hq
  cases rv with
  | @cons _ ux _ ur rx rr =>
  have hl := pl.isList
  have hlen : (ux :: ur).toArray.size = ur.length + 1 := by simp
  have hh : X.A.handled = none := I.ok.hd hc
  have hlt : l ≠ s.heap.objs.size := by obtain ⟨o, ho, _⟩ := hl; exact Nat.ne_of_lt (Heap.lt_size ho)
  have hll : l < s.heap.objs.size := by obtain ⟨o, ho, _⟩ := hl; exact Heap.lt_size ho
  rw [PyProof.Rows.assign_Tuple]
  refine wpAny_bind (wpAny_standAt ?_)
  unfold unpack
  rw [he]
  refine wpAny_bind (wpAny_holding ?_)
  show wpAny _ _ (unpackItems (.ref l) 2 (some 1)) _ _ s
  unfold unpackItems
  refine wpAny_bind ?_
  unfold notIterableAtAll
  refine wpAny_bind (wpAny_specialOf hl.typeIs slot_list_iter.lookup ?_)
  refine wpAny_pure ?_
  simp only [Bool.false_eq_true, if_false]
  refine wpAny_bind (wpAny_holding (wpAny_pyIter_list hl ?_))
  refine wpAny_bind (wpAny_holding (PySem.W.kun_draw hlt 1 0 _ _ ⟨_, Heap.get?_push_size _ rfl, rfl, rfl⟩ (hl.push _) (by rw [hlen]; omega) fun h₁ hit₁ hs₁ => ?_))
  have hl₁ : h₁.IsList l (ux :: ur).toArray := (hl.push _).extBut hs₁.extBut hlt
  rw [Nat.zero_add] at hit₁
  have hit₁' := hit₁
  obtain ⟨oi, hoi, _⟩ := hit₁'
  have hl₁' := hl₁
  obtain ⟨ol, hol, _⟩ := hl₁'
  have e1 : ((ux :: ur).toArray.toList.drop 0).take 1 = [ux] := by simp
  rw [e1, if_neg (by simp)]
  have hz2 : (ux :: ur).toArray.size ≤ sizeLine := by
    rw [hlen]
    have := rr.length
    simp only [List.length_cons] at hz
    omega
  refine wpAny_bind (wpAny_holding (PySem.W.kun_collect (s := { s with heap := h₁ }) (T := "list_iterator") (.inr (.inr (.inl rfl))) (PySem.Walks.list (A := X.A.in1) hh s.heap.objs.size l hlt (ux :: ur).toArray) (fun j u st => st.1.typeIs) (k := 1) (by rw [hlen]; omega) ⟨hit₁, hl₁⟩ (Heap.lt_size hoi) (Heap.lt_size hol) (fun h₂ tk hk => ?_) hz2))
  have e2 : (ux :: ur).toArray.toList.drop 1 = ur := by simp
  rw [e2]
  show wpAny _ _ (if ur.length < 0 then _ else _) _ _ _
  rw [if_neg (Nat.not_lt_zero _)]
  show wpAny _ _ (newList (ur.take ur.length) >>= fun d => pure ([ux] ++ [d] ++ ur.drop ur.length)) _ _ _
  rw [List.take_length, List.drop_length]
  have he : Heap.ExtBut s.heap.objs.size s.heap h₂ := fun b o hb e => hk b o hb (hs₁.extBut b o hb (Heap.get?_push_of_some _ e))
  have I1 : Inv X pins σ H { s with heap := h₂, toks := tk } := I.kept fun b o e => he b o (Nat.ne_of_lt (Heap.lt_size e)) e
  have hn := I1.hok.fresh (Nat.le_refl _)
  have hr2 : rs.length ≤ sizeLine := by
    simp only [List.length_cons] at hz
    omega
  refine wpAny_bind (wpAny_newList (wpAny_pure ?_) (by rw [← rr.length]; exact hr2))
  show wpAny _ _ (assignInOrder [assign a X.env, assign b X.env] [ux, .ref h₂.objs.size]) _ _ _
  rw [← he2]
  have I2 : Inv X pins σ (upd H h₂.objs.size (.lst rs)) { s with heap := h₂.push { cls := .type "list", data := .seq ur.toArray }, toks := tk } :=
    I1.laid (t' := tk) (fun b o q => Heap.get?_push_of_some _ q) (Nat.le_refl _) ⟨hr2, ur, _, rr, Heap.get?_push_size _ rfl⟩
  exact h.run pins _ σ _ [x, .ref h₂.objs.size] [ux, .ref h₂.objs.size] Q I2 (.cons rx (.cons rfl .nil)) (hw _ hn)
end
/-! ### static methods -/
/-- C.m is a static method: its record at p, its def at g -/
structure SMet (K : PySem.W.Frag) (C : Addr) (mc : Value) (m : Str) (p g : Addr) : Prop where
  at_ : PySem.W.findCls K (.ref C) mc m = some (.get (.builtin "staticmethod.__get__") (.ref p) .none (.ref C))
  rc : ∃ rest, PySem.W.recIn K p "staticmethod" = some (.ref g :: rest)
  hv : PySem.W.handedIn (.ref g) = true
  kp : PySem.W.keepIn K (.ref g) = true
section
variable {X : Cx} {o e : Expr} {es : List Expr} {σ : L2.St} {H : Hp} {Q : VK} {pos p apos : Pos} {C pr g : Addr} {mc : Value} {m : Str} {k j : Nat} {sp : Sp} {E : XK} {pl : Sem Bool}
theorem ev_static (r : ClX.CRead X.K C mc) (c : SMet X.K C mc m pr g) (F : FnX X k g sp) (hr : RoomG j X.A) (hj : k ≤ j) (hx : PassX X E)
    (q : EV X o σ H fun x H1 => x = .ref C ∧ AV X (e :: es) σ H1 fun ws H2 => sp ws H2 Q E)
    (hst : starEach (e :: es) X.env = (false, eval e X.env) :: starEach es X.env := by rfl) (hpl : (backTo pos (starEach es X.env)).any (·.1) = false := by rfl)
    (ht : eval (.Call (.Attribute o m apos) (e :: es) [] pos) X.env = (do
      let ov ← eval o X.env
      standAt apos.atName
      let (f, first) ← holding [ov] (getMethod ov m pl)
      callWith pos f first (backTo pos (starEach (e :: es) X.env)) (backToKw pos (keywordEach [] X.env))) := by rfl) :
    EV X (.Call (.Attribute o m apos) (e :: es) [] pos) σ H Q := by
  refine ⟨fun σ H Q => EV X o σ H fun x H1 => x = .ref C ∧ AV X (e :: es) σ H1 fun ws H2 => sp ws H2 Q E, ⟨fun pins s σ H Q I h => ?_⟩, q⟩
  refine PySem.W.methodCall_KW (pl := pl) (thn (pe_ev.run pins s σ H _ I h) fun u s1 ⟨x, H1, I1, rx, ex, q⟩ => ?_) ht
  subst ex
  obtain rfl : u = Value.ref C := rx
  obtain ⟨rest, hp⟩ := c.rc
  refine PySem.W.method_cls I1.kIn r.ga (PySem.W.cls_bind I1.kIn r.rd c.at_ (wpAny_call (PySem.W.sm_get (s := { s1 with toks := s1.toks + 1 }) I1.kIn hp (PySem.W.handed_on c.hv ?_))))
  have I2 : Inv X pins σ H1 { s1 with toks := s1.toks + 1 } := I1.tok _
  refine PySem.W.callWith_K (first := []) (h₀ := X.base) I2.ok.mod.kin c.kp (thn (pa_av.run pos pins _ σ H1 _ I2 q) fun us s2 ⟨ws, H2, I3, rv, q2⟩ => ⟨I3.kIn, ?_⟩) hst hpl
  exact wpAny_call (run_g (us := us) (vs := ws) F (hr.mono hj) hx I3 rv q2)
/-! ### built-in methods -/
theorem ev_bm {T id : String} {name : Str} {r : V → List V → Hp → VK → Prop} (pa : PlainAttrs T) (slot : Slot T name id) (hty : typeOf (.builtin id) = pure (.type "method_descriptor")) (hm : MtR X id r)
    (q : EV X o σ H fun x H1 => tyV X.K T x H1 ∧ AV X (e :: es) σ H1 fun vs H2 => r x vs H2 Q)
    (hbase : attributeBase o name X.env (eval o X.env) = eval o X.env := by rfl)
    (hfew : ((backTo pos (starEach (e :: es) X.env)).all (fun x => !x.1) && (backToKw pos (keywordEach [] X.env)).all (fun x => x.1.isSome)
      && decide ((e :: es).length + ([] : List Keyword).length + (if ([] : List Keyword).isEmpty then 0 else 1) < 30)) = true := by rfl)
    (hline : (apos.endLine == pos.line) = true := by rfl) (hs : starEach (e :: es) X.env = (false, eval e X.env) :: starEach es X.env := by rfl) (hplain : (backTo pos (starEach es X.env)).any (·.1) = false := by rfl) :
    EV X (.Call (.Attribute o name apos) (e :: es) [] pos) σ H Q := ⟨_, L2.pe_bm pa slot hty hm pe_ev pa_av hbase hfew hline hs hplain, q⟩
theorem ty_lst {K : PySem.W.Frag} {H : Hp} {p : Addr} {xs : List V} (h : H p = some (.lst xs)) : tyV K "list" (.ref p) H := .inl ⟨rfl, xs, .of h⟩
/-- xs.insert(i, y) -/
theorem ev_insert (q : EV X o σ H fun x H1 => tyV X.K "list" x H1 ∧ AV X (e :: es) σ H1 fun vs H2 => ∃ (l : Addr) (xs : List V) (i : Int) (y : V), x = .ref l ∧ vs = [.int i, y] ∧ H2 l = some (.lst xs) ∧ xs.length < sizeLine ∧ 0 ≤ i ∧ i < 2 ^ 63 ∧
      Q .non (upd H2 l (.lst (xs.take i.toNat ++ [y] ++ xs.drop i.toNat))))
    (hbase : attributeBase o "insert" X.env (eval o X.env) = eval o X.env := by rfl)
    (hfew : ((backTo pos (starEach (e :: es) X.env)).all (fun x => !x.1) && (backToKw pos (keywordEach [] X.env)).all (fun x => x.1.isSome)
      && decide ((e :: es).length + ([] : List Keyword).length + (if ([] : List Keyword).isEmpty then 0 else 1) < 30)) = true := by rfl)
    (hline : (apos.endLine == pos.line) = true := by rfl) (hs : starEach (e :: es) X.env = (false, eval e X.env) :: starEach es X.env := by rfl) (hplain : (backTo pos (starEach es X.env)).any (·.1) = false := by rfl) :
    EV X (.Call (.Attribute o "insert" apos) (e :: es) [] pos) σ H Q := ev_bm PySem.F.plainAttrs_list PySem.F.slot_list_insert PySem.F.type_list_insert mt_insert q hbase hfew hline hs hplain
/-- xs.append(y) -/
theorem ev_append (q : EV X o σ H fun x H1 => tyV X.K "list" x H1 ∧ AV X (e :: es) σ H1 fun vs H2 => rAppend x vs H2 Q)
    (hbase : attributeBase o "append" X.env (eval o X.env) = eval o X.env := by rfl)
    (hfew : ((backTo pos (starEach (e :: es) X.env)).all (fun x => !x.1) && (backToKw pos (keywordEach [] X.env)).all (fun x => x.1.isSome)
      && decide ((e :: es).length + ([] : List Keyword).length + (if ([] : List Keyword).isEmpty then 0 else 1) < 30)) = true := by rfl)
    (hline : (apos.endLine == pos.line) = true := by rfl) (hs : starEach (e :: es) X.env = (false, eval e X.env) :: starEach es X.env := by rfl) (hplain : (backTo pos (starEach es X.env)).any (·.1) = false := by rfl) :
    EV X (.Call (.Attribute o "append" apos) (e :: es) [] pos) σ H Q := ev_bm PySem.F.plainAttrs_list PySem.F.slot_list_append PySem.F.type_list_append mt_append q hbase hfew hline hs hplain
/-- xs.pop(i) -/
theorem ev_popAt (q : EV X o σ H fun x H1 => tyV X.K "list" x H1 ∧ AV X (e :: es) σ H1 fun vs H2 => rPopAt x vs H2 Q)
    (hbase : attributeBase o "pop" X.env (eval o X.env) = eval o X.env := by rfl)
    (hfew : ((backTo pos (starEach (e :: es) X.env)).all (fun x => !x.1) && (backToKw pos (keywordEach [] X.env)).all (fun x => x.1.isSome)
      && decide ((e :: es).length + ([] : List Keyword).length + (if ([] : List Keyword).isEmpty then 0 else 1) < 30)) = true := by rfl)
    (hline : (apos.endLine == pos.line) = true := by rfl) (hs : starEach (e :: es) X.env = (false, eval e X.env) :: starEach es X.env := by rfl) (hplain : (backTo pos (starEach es X.env)).any (·.1) = false := by rfl) :
    EV X (.Call (.Attribute o "pop" apos) (e :: es) [] pos) σ H Q := ev_bm PySem.F.plainAttrs_list PySem.F.slot_list_pop PySem.F.type_list_pop mt_popAt q hbase hfew hline hs hplain
/-! ### for over zip -/
variable {D : Ends} {body : List Stmt}
/-- for x, y in zip(a, b): two lists that the body leaves as they are -/
theorem sv_forZ (j k : Nat) {x y : Str} {px py pt p p2 : Pos} {kk : Nat} {e e2 : Expr} (B : Blt X.mg) (hp : PassesOwn (model X.prog X.w) X.A X.env X.xe) (hc : X.calm = true)
    (hg : PG X (.Tuple [.Name x px, .Name y py] kk pt) (gTup X.K 2 (gCons (gName j) (gCons (gName k) gNil))))
    (q : AV X [e, e2] σ H fun vs H1 => ∃ a b xs zs, vs = [.ref a, .ref b] ∧ SqL X.K H1 a xs ∧ SqL X.K H1 b zs ∧ ∃ Pv : Nat → L2.St → Hp → Prop, Pv 0 σ H1 ∧ (∀ i σ H, Pv i σ H → SqL X.K H a xs ∧ SqL X.K H b zs) ∧
      (∀ i v w σ H T, xs[i]? = some v → zs[i]? = some w → H T = none → Pv i σ H → BV X body { D with nx := Pv (i + 1), ct := Pv (i + 1), bk := D.nx } ((σ.set j (some v)).set k (some w)) (upd H T (.tup [v, w]))) ∧
      ∀ σ H, Pv (min xs.length zs.length) σ H → D.nx σ H) (hgl : Gl X "zip" := by rfl)
    (hst : starEach [e, e2] X.env = (false, eval e X.env) :: starEach [e2] X.env := by rfl) (hpl : (backTo p2 (starEach [e2] X.env)).any (·.1) = false := by rfl) (hs : ∀ x, foldedSetIterable (.Call (.Name "zip" p) [e, e2] [] p2) X.env x = pure x := by intro _; rfl) :
    SV X (.For (.Tuple [.Name x px, .Name y py] kk pt) (.Call (.Name "zip" p) [e, e2] [] p2) body [] pos) D σ H := by
  refine sv_for hp hc (RZ.pi_zipA hgl (B.at_ 20) pa_av hst hpl) hg gtup2_mono (fun σ H R R' im h => av_mono h fun v H' ⟨a, b, xs, ys, h1, h2⟩ => ⟨a, b, xs, ys, h1, h2.elim (fun h => .inl ⟨h.1, h.2.1, im _ _ h.2.2⟩) fun h => .inr ⟨h.1, h.2.1, im _ _ h.2.2⟩⟩) hs ?_
  refine av_mono q fun v H1 ⟨a, b, xs, zs, h1, h2, h3, Pv, h0, hG, hs, hd⟩ => ⟨a, b, xs, zs, h1, .inl ⟨h2, h3, min xs.length zs.length, _, _, walk_zip (xs := xs) (ys := zs) rfl, Pv, h0, hG, fun i v σ H H' hi e1 ⟨T, v1, w1, e4, e5, e6, e7, e8⟩ => ?_, hd⟩⟩
  subst e4 e6
  exact ⟨T, [v1, w1], rfl, .of upd_same, rfl, v1, [w1], rfl, w1, [], rfl, rfl, hs i v1 w1 σ H T e7 e8 e5 e1⟩
/-! ### over a text, sign by sign -/
variable {scope : Scope} {own : List (Str × Nat)} {elt iter : Expr}
theorem ev_lcS (j : Nat) {x : Str} {px : Pos} (hc : X.calm = true) (hN : X.N.Nodup) (ok : BlkOk X.N X.env.scope scope own)
    (hg : ∀ (s : Shared) (H : Hp) (C : Addr) (cl : List (Str × Addr)) (fp : List Addr), PG (Cx.blk0 X scope s H C cl fp) (.Name x px) (gName j)) (hw : ∀ v, wipe ((wipe σ (own.map (·.2))).set j (some v)) (own.map (·.2)) = wipe σ (own.map (·.2)))
    (q : EV X iter σ H fun v H1 => ∃ z : Str, v = .str z ∧ z.cps.size ≤ 100000 ∧ ∀ D, H1 D = none → ∃ In : Nat → List V → Hp → Prop, In 0 [] (upd H1 D (.lst [])) ∧
      (∀ i ys c H, z.cps[i]? = some c → ys.length = i → H D = some (.lst ys) → In i ys H → LE X scope elt ((wipe σ (own.map (·.2))).set j (some (.str ⟨#[c]⟩))) H fun y H4 => H4 D = some (.lst ys) ∧ In (i + 1) (ys ++ [y]) (upd H4 D (.lst (ys ++ [y])))) ∧
      ∀ ys H, ys.length = z.cps.size → H D = some (.lst ys) → In z.cps.size ys H → Q (.ref D) H) (hs : ∀ x, foldedSetIterable iter X.env x = pure x := by intro _; rfl) :
    EV X (.ListComp elt [⟨.Name x px, iter, [], 0⟩] scope pos) σ H Q := by
  refine ev_lc hc hN (pi_str pe_ev) ok hg gname_mono (fun σ H R R' im h => ev_mono h fun v H' ⟨z, h1, h2⟩ => ⟨z, h1, im _ _ h2⟩) hs ?_
  refine ev_mono q fun v H1 ⟨z, h1, h2, h4⟩ => ⟨z, h1, z.cps.size, _, _, walk_str, h2, fun D hD => ?_⟩
  obtain ⟨In, h0, hs, hd⟩ := h4 D hD
  exact ⟨In, h0, fun _ _ _ _ => trivial, fun i ys v H H' hi e1 e2 e3 ⟨e4, c, e5, e6⟩ => by subst e4 e6; exact ⟨hw _, hs i ys c _ e5 e1 e2 e3⟩, hd⟩
end
end Hv
/-! HS: texts of ints and of fractions as lists of signs; reading them. No program in sight. -/
namespace Hv
open PySem PySem.Spec PyProof.Rows L2 SX
section
variable {X : Cx} {H : Hp} {Q : VK}
/-- x, *y = e, e a list of one item at least -/
theorem sv_star {D : Ends} {σ : L2.St} {x y : Str} {e : Expr} {px py ps pt pos : Pos} {kt : Nat} (i j : Nat) (hc : X.calm = true) (hN : X.N.Nodup) (hi : X.N[i]? = some x) (hj : X.N[j]? = some y) (lx : Loc X.env.scope x) (ly : Loc X.env.scope y)
    (q : EV X e σ H fun v H1 => ∃ l v0 r, v = .ref l ∧ SqL X.K H1 l (v0 :: r) ∧ ∀ p, H1 p = none → D.nx ((σ.set i (some v0)).set j (some (.ref p))) (upd H1 p (.lst r)))
    (hs : swapsWithSole [.Tuple [.Name x px, .Starred (.Name y py) ps] kt pt] e pos.line X.env = pure false := by rfl) (hw : swappedStores [.Tuple [.Name x px, .Starred (.Name y py) ps] kt pt] e X.env = pure none := by rfl)
    (hfx : X.fn x = true ∨ X.env.scope.names.lookup x = some .local := by first | exact .inl rfl | exact .inr rfl | assumption) (hfy : X.fn y = true ∨ X.env.scope.names.lookup y = some .local := by first | exact .inl rfl | exact .inr rfl | assumption) :
    SV X (.Assign [.Tuple [.Name x px, .Starred (.Name y py) ps] kt pt] e pos) D σ H :=
  ⟨_, ps_asg pe_ev (pg_star hc (pgs_cons (pg_name hN hi lx hfx) (pgs_cons (pg_name hN hj ly hfy) pgs_nil)) rfl rfl) hs hw rfl, ev_mono q fun v H1 ⟨l, v0, r, h1, h2, h3⟩ => ⟨l, v0, r, h1, h2, fun p hp => ⟨v0, [.ref p], rfl, .ref p, [], rfl, rfl, h3 p hp⟩⟩⟩
theorem cv_lenS {z : Str} (hz : z.length ≤ sizeLine) (q : Q (.int z.length) H) : CV X (.builtin "len") [.str z] H Q := ⟨_, call_len_str, z, rfl, hz, q⟩
end
/-- an int's signs -/
def intL (i : Int) : List Nat := if i < 0 then 45 :: TL.numL i.natAbs else TL.numL i.natAbs
theorem sofs (x : String) : (Str.ofString x).cps.toList = x.toList.map Char.toNat := signs_ofString x
theorem str_int (i : Int) : (Str.ofString (toString i)) = S (intL i) := by
  unfold intL
  split
  · rename_i h
    obtain ⟨m, rfl⟩ : ∃ m : Nat, i = -((m : Nat) : Int) := ⟨i.natAbs, by omega⟩
    have hm : m ≠ 0 := by omega
    refine TL.ext_tl ?_
    have e : toString (-((m : Nat) : Int)) = "-" ++ toString ((m : Nat) : Int) := by
      cases m with
      | zero => exact absurd rfl hm
      | succ m => rfl
    show (Str.ofString (toString (-((m : Nat) : Int)))).cps.toList = 45 :: TL.numL (-((m : Nat) : Int)).natAbs
    rw [e, sofs, String.toList_append, List.map_append, ← sofs (toString ((m : Nat) : Int)), show (Str.ofString (toString ((m : Nat) : Int))).cps.toList = TL.numL m from TL.tl_num m, Int.natAbs_neg, Int.natAbs_natCast]
    rfl
  · obtain ⟨m, rfl⟩ : ∃ m : Nat, i = ((m : Nat) : Int) := ⟨i.natAbs, by omega⟩
    rw [num_S, Int.natAbs_natCast]
/-- a fraction's signs, without the sign ahead; all of them -/
def ratM (n d : Nat) : List Nat := TL.numL n ++ if d = 1 then [] else 47 :: TL.numL d
def ratL (q : Rat) : List Nat := if q.num < 0 then 45 :: ratM q.num.natAbs q.den else ratM q.num.natAbs q.den
def ratT (q : Rat) : Str := S (ratL q)
theorem ratL_one {q : Rat} (h : q.den = 1) : ratL q = intL q.num := by
  unfold ratL ratM intL
  rw [if_pos h, List.append_nil]
theorem ratL_two {q : Rat} (h : q.den ≠ 1) : ratL q = intL q.num ++ (47 :: TL.numL q.den) := by
  unfold ratL ratM intL
  rw [if_neg h]
  split <;> simp
theorem e_nil : ("" : Str) = S [] := by decide +kernel
theorem e_zero : ("0" : Str) = S [48] := by decide +kernel
theorem e_slash : ("/" : Str) = S [47] := by decide +kernel
theorem e_minus : ("-" : Str) = S [45] := by decide +kernel
/-- one figure or more, no zero ahead of others -/
def figB (l : List Nat) : Bool := decide (l ≠ []) && l.all (fun c => decide (48 ≤ c) && decide (c ≤ 57)) && (decide (l = [48]) || decide (l.head? ≠ some 48))
theorem numL_head (n : Nat) : (TL.numL n).head? = some 48 → n = 0 := by
  induction n using Nat.strongRecOn with
  | _ n ih =>
    intro h
    by_cases h10 : n < 10
    · rw [TL.numL_lt h10] at h
      simp at h
      omega
    · rw [TL.numL_step (by omega)] at h
      have z := TL.numL_ne (n / 10)
      have : (TL.numL (n / 10)).head? = some 48 := by
        cases q : TL.numL (n / 10) with
        | nil => exact absurd q z
        | cons c r => rw [q] at h; exact h
      have := ih (n / 10) (by omega) this
      omega
theorem fig_num (n : Nat) : figB (TL.numL n) = true := by
  unfold figB
  have h1 : decide (TL.numL n ≠ []) = true := decide_eq_true (TL.numL_ne n)
  have h2 : (TL.numL n).all (fun c => decide (48 ≤ c) && decide (c ≤ 57)) = true := List.all_eq_true.mpr fun c hc => by
    have := TL.numL_digits n c hc
    simp [this.1, this.2]
  rw [h1, h2]
  by_cases h : n = 0
  · subst h
    have : TL.numL 0 = [48] := TL.numL_lt (by decide)
    rw [this] <;> rfl
  · have : (TL.numL n).head? ≠ some 48 := fun z => h (numL_head n z)
    simp [this]
theorem no_slash (n : Nat) : 47 ∉ TL.numL n := TL.numL_free (.inl (by decide))
theorem no_minus (n : Nat) : (TL.numL n).head? ≠ some 45 := fun h => by
  cases q : TL.numL n with
  | nil => exact TL.numL_ne n q
  | cons c r =>
    rw [q] at h
    have : c = 45 := Option.some.inj h
    exact TL.numL_free (n := n) (s := 45) (.inl (by decide)) (by rw [q, this]; exact List.mem_cons_self ..)
def ratP (n d : Nat) : List (List Nat) := TL.numL n :: if d = 1 then [] else [TL.numL d]
theorem split_rat (n d : Nat) : Txt.split (S (ratM n d)) "/" = (ratP n d).map S := by
  rw [e_slash, split_S (by simp) (by decide)]
  congr 1
  have h : ∀ p ∈ ratP n d, 47 ∉ p := fun p hp => by
    unfold ratP at hp
    split at hp
    · rw [List.mem_singleton.mp hp]; exact no_slash n
    · simp only [List.mem_cons, List.not_mem_nil, or_false] at hp
      rcases hp with rfl | rfl
      · exact no_slash n
      · exact no_slash d
  have e := spl_join (c := 47) (sep := []) (parts := ratP n d) (by unfold ratP; simp) h
  have e2 : TL.joinL [47] (ratP n d) = ratM n d := by
    unfold ratP ratM
    split
    · show TL.numL n = _
      rw [List.append_nil]
    · show TL.numL n ++ ([47] ++ TL.numL d) = _
      rfl
  rw [e2] at e
  exact e
theorem num_short {n : Nat} (h : n < 2 ^ 1900) : (TL.numL n).length ≤ 600 := TL.numL_len (by decide) (Nat.lt_trans h (by decide +kernel))
theorem ratM_len {n d : Nat} (hn : n < 2 ^ 1900) (hd : d < 2 ^ 1900) : (ratM n d).length ≤ 1201 := by
  have h1 := num_short hn
  have h2 := num_short hd
  unfold ratM
  split <;> simp <;> omega
theorem ratL_len {q : Rat} (hn : q.num.natAbs < 2 ^ 1900) (hd : q.den < 2 ^ 1900) : (ratL q).length ≤ 1202 := by
  have h := ratM_len hn hd
  unfold ratL
  split
  · simp; omega
  · omega
theorem ratL_head (q : Rat) : decide ((ratL q).take 1 = [45]) = decide (q.num < 0) := by
  have z : ∀ (n d : Nat), (ratM n d).take 1 ≠ [45] := fun n d h => by
    have z := no_minus n
    unfold ratM at h
    cases e : TL.numL n with
    | nil => exact TL.numL_ne n e
    | cons c r =>
      rw [e] at h z
      simp at h
      simp [h] at z
  unfold ratL
  split
  · rename_i h
    simp [h]
  · rename_i h
    rw [decide_eq_false h, decide_eq_false (z _ _)]
theorem int_back {n : Nat} (h : n < 2 ^ 1900) : PySem.intText? (S (TL.numL n)) = some (n : Int) := by
  rw [← num_S]
  exact TL.int_num (Nat.le_trans (num_short h) (by decide))
theorem slash_cat (a b : Str) : a ++ b = S (TL.tl a ++ TL.tl b) := TL.ext_tl (TL.tl_append a b)
theorem rat_eq_of_text {p q : Rat} (h : ratT p = ratT q) (hp : p.num.natAbs < 2 ^ 1900) : ratL p = ratL q := S_inj h
end Hv
/-! HV: name = [..], as a statement (the list is stored before the block's own names come back). -/
namespace Hv
open PySem PySem.Spec PyProof.Rows L2
section
variable {X : Cx} {elt tg iter : Expr} {scope : Scope} {own : List (Str × Nat)} {σ : L2.St} {H : Hp} {EE : Ends} {pos sps pyy : Pos} {yy : Str}
theorem sv_lc (ii : Nat) {wi : TI} {g : TG} (hc : X.calm = true) (hN : X.N.Nodup) (hy : X.N[ii]? = some yy) (hyl : X.env.scope.names.lookup yy = some .local) (hsw : swapsWith (.ListComp elt [⟨tg, iter, [], 0⟩] scope pos) (some (.Name yy pyy)) sps.line X.env = pure true) (hi : PI X tg iter wi) (ok : BlkOk X.N X.env.scope scope own)
    (hg : ∀ (s : Shared) (H : Hp) (C : Addr) (cl : List (Str × Addr)) (fp : List Addr), PG (Cx.blk0 X scope s H C cl fp) tg g)
    (gm : ∀ x σ H Q Q', (∀ σ' H', Q σ' H' → Q' σ' H') → g x σ H Q → g x σ H Q')
    (wm : ∀ σ H R R', (∀ J H', R J H' → R' J H') → wi σ H R → wi σ H R') (hs : ∀ x, foldedSetIterable iter X.env x = pure x)
    (q : wi σ H fun J H1 => ∃ n Y G, Walk J n G Y ∧ n ≤ 100000 ∧ ∀ D, H1 D = none → ∃ In : Nat → List V → Hp → Prop, In 0 [] (upd H1 D (.lst [])) ∧ (∀ i ys H, In i ys H → G H) ∧
      (∀ i ys x H H', i < n → ys.length = i → H D = some (.lst ys) → In i ys H → Y i H x H' → g x (wipe σ (own.map (·.2))) H' fun σ2 H2 => wipe σ2 (own.map (·.2)) = wipe σ (own.map (·.2)) ∧
        LE X scope elt σ2 H2 fun y H4 => H4 D = some (.lst ys) ∧ In (i + 1) (ys ++ [y]) (upd H4 D (.lst (ys ++ [y])))) ∧
      ∀ ys H, ys.length = n → H D = some (.lst ys) → In n ys H → EE.nx (σ.set ii (some (.ref D))) H) :
    SV X (.Assign [.Name yy pyy] (.ListComp elt [⟨tg, iter, [], 0⟩] scope pos) sps) EE σ H := by
  refine ⟨_, ps_setLc hc hN hy hyl hsw hi ok hg (fun _ _ _ _ _ => pts_nil) (fun s H C cl fp => pe_le s H C cl fp) hs, ?_⟩
  show tLc _ _ _ _ _ σ H (fun x H1 => EE.nx (σ.set ii (some x)) H1)
  refine wm _ _ _ _ (fun J H1 h D hD => ?_) q
  obtain ⟨n, Y, G, w, hn, h⟩ := h
  obtain ⟨In, h0, hG, hs, hd⟩ := h D hD
  refine lc_it w (fun i H => ∃ ys, ys.length = i ∧ H D = some (.lst ys) ∧ In i ys H) ⟨[], rfl, upd_same, h0⟩ (fun i H _ ⟨ys, _, _, a⟩ => hG i ys H a) ?_ (fun H ⟨ys, a, b, c⟩ => hd ys H a b c)
  rintro i x H H' hi ⟨ys, e1, e2, e3⟩ y
  refine gm _ _ _ _ _ (fun σ2 H2 h2 => ⟨h2.1, ?_⟩) (hs i ys x H H' hi e1 e2 e3 y)
  dsimp only [tYes]
  rw [if_pos rfl]
  intro s H0 C cl fp
  refine ev_mono (e := elt) (h2.2 s H0 C cl fp) fun y H4 z => ⟨ys, z.1, ?_, ys ++ [y], by simp [e1], upd_same, z.2⟩
  have : (100000 : Nat) < sizeLine := by decide
  omega
theorem sv_lcL (ii : Nat) (j : Nat) {x : Str} {px : Pos} (hc : X.calm = true) (hN : X.N.Nodup) (hy : X.N[ii]? = some yy) (hyl : X.env.scope.names.lookup yy = some .local) (hsw : swapsWith (.ListComp elt [⟨.Name x px, iter, [], 0⟩] scope pos) (some (.Name yy pyy)) sps.line X.env = pure true) (ok : BlkOk X.N X.env.scope scope own)
    (hg : ∀ (s : Shared) (H : Hp) (C : Addr) (cl : List (Str × Addr)) (fp : List Addr), PG (Cx.blk0 X scope s H C cl fp) (.Name x px) (gName j)) (hw : ∀ v, wipe ((wipe σ (own.map (·.2))).set j (some v)) (own.map (·.2)) = wipe σ (own.map (·.2)))
    (q : EV X iter σ H fun v H1 => ∃ a xs, v = .ref a ∧ SqL X.K H1 a xs ∧ xs.length ≤ 100000 ∧ ∀ D, H1 D = none → ∃ In : Nat → List V → Hp → Prop, In 0 [] (upd H1 D (.lst [])) ∧ (∀ i ys H, In i ys H → SqL X.K H a xs) ∧
      (∀ i ys v H, xs[i]? = some v → ys.length = i → H D = some (.lst ys) → In i ys H → LE X scope elt ((wipe σ (own.map (·.2))).set j (some v)) H fun y H4 => H4 D = some (.lst ys) ∧ In (i + 1) (ys ++ [y]) (upd H4 D (.lst (ys ++ [y])))) ∧
      ∀ ys H, ys.length = xs.length → H D = some (.lst ys) → In xs.length ys H → EE.nx (σ.set ii (some (.ref D))) H) (hs : ∀ x, foldedSetIterable iter X.env x = pure x := by intro _; rfl) :
    SV X (.Assign [.Name yy pyy] (.ListComp elt [⟨.Name x px, iter, [], 0⟩] scope pos) sps) EE σ H := by
  refine sv_lc ii hc hN hy hyl hsw (pi_list pe_ev) ok hg gname_mono (fun σ H R R' im h => ev_mono h fun v H' ⟨a, h1, h2, h3⟩ => ⟨a, h1, h2, im _ _ h3⟩) hs ?_
  refine ev_mono q fun v H1 ⟨a, xs, h1, h2, h3, h4⟩ => ⟨a, h1, ⟨xs, h2⟩, xs.length, _, _, walk_list, h3, fun D hD => ?_⟩
  obtain ⟨In, h0, hG, hs, hd⟩ := h4 D hD
  exact ⟨In, h0, hG, fun i ys v H H' hi e1 e2 e3 ⟨e4, e5⟩ => by subst e4; exact ⟨hw v, hs i ys v _ e5 e1 e2 e3⟩, hd⟩
theorem sv_lcR (ii : Nat) (j : Nat) {x : Str} {px p p2 : Pos} {e : Expr} (B : Blt X.mg) (hc : X.calm = true) (hN : X.N.Nodup) (hy : X.N[ii]? = some yy) (hyl : X.env.scope.names.lookup yy = some .local) (hsw : swapsWith (.ListComp elt [⟨.Name x px, .Call (.Name "range" p) [e] [] p2, [], 0⟩] scope pos) (some (.Name yy pyy)) sps.line X.env = pure true) (ok : BlkOk X.N X.env.scope scope own)
    (hg : ∀ (s : Shared) (H : Hp) (C : Addr) (cl : List (Str × Addr)) (fp : List Addr), PG (Cx.blk0 X scope s H C cl fp) (.Name x px) (gName j)) (hw : ∀ v, wipe ((wipe σ (own.map (·.2))).set j (some v)) (own.map (·.2)) = wipe σ (own.map (·.2)))
    (q : AV X [e] σ H fun vs H1 => ∃ n : Nat, vs = [.int n] ∧ n ≤ 100000 ∧ ∀ D, H1 D = none → ∃ In : Nat → List V → Hp → Prop, In 0 [] (upd H1 D (.lst [])) ∧
      (∀ i ys H, i < n → ys.length = i → H D = some (.lst ys) → In i ys H → LE X scope elt ((wipe σ (own.map (·.2))).set j (some (.int i))) H fun y H4 => H4 D = some (.lst ys) ∧ In (i + 1) (ys ++ [y]) (upd H4 D (.lst (ys ++ [y])))) ∧
      ∀ ys H, ys.length = n → H D = some (.lst ys) → In n ys H → EE.nx (σ.set ii (some (.ref D))) H) (hgl : Gl X "range" := by rfl) (hst : starEach [e] X.env = [(false, eval e X.env)] := by rfl) (hs : ∀ x, foldedSetIterable (.Call (.Name "range" p) [e] [] p2) X.env x = pure x := by intro _; rfl) :
    SV X (.Assign [.Name yy pyy] (.ListComp elt [⟨.Name x px, .Call (.Name "range" p) [e] [] p2, [], 0⟩] scope pos) sps) EE σ H := by
  refine sv_lc ii hc hN hy hyl hsw (pi_range1 hgl (B.at_ 12) pa_av hst) ok hg gname_mono (fun σ H R R' im h => av_mono h fun v H' ⟨a, h1, h2, h3, h4⟩ => ⟨a, h1, h2, h3, im _ _ h4⟩) hs ?_
  refine av_mono q fun v H1 ⟨n, h1, h3, h4⟩ => ⟨n, h1, by omega, by omega, n, _, _, walk_range, h3, fun D hD => ?_⟩
  obtain ⟨In, h0, hs, hd⟩ := h4 D hD
  exact ⟨In, h0, fun _ _ _ _ => trivial, fun i ys v H H' hi e1 e2 e3 ⟨e4, e5⟩ => by
    subst e4 e5
    have z : (0 : Int) + (i : Int) = i := by omega
    show gName j (V.int ((0 : Int) + (i : Int))) _ _ _
    rw [z]
    exact ⟨hw _, hs i ys _ hi e1 e2 e3⟩, hd⟩
theorem sv_lcZ (ii : Nat) (j k : Nat) {x y : Str} {px py pt p p2 : Pos} {kk : Nat} {e e2 : Expr} (B : Blt X.mg) (hc : X.calm = true) (hN : X.N.Nodup) (hy : X.N[ii]? = some yy) (hyl : X.env.scope.names.lookup yy = some .local) (hsw : swapsWith (.ListComp elt [⟨.Tuple [.Name x px, .Name y py] kk pt, .Call (.Name "zip" p) [e, e2] [] p2, [], 0⟩] scope pos) (some (.Name yy pyy)) sps.line X.env = pure true) (ok : BlkOk X.N X.env.scope scope own)
    (hg : ∀ (s : Shared) (H : Hp) (C : Addr) (cl : List (Str × Addr)) (fp : List Addr), PG (Cx.blk0 X scope s H C cl fp) (.Tuple [.Name x px, .Name y py] kk pt) (gTup X.K 2 (gCons (gName j) (gCons (gName k) gNil))))
    (hw : ∀ v w, wipe (((wipe σ (own.map (·.2))).set j (some v)).set k (some w)) (own.map (·.2)) = wipe σ (own.map (·.2)))
    (q : AV X [e, e2] σ H fun vs H1 => ∃ a b xs zs, vs = [.ref a, .ref b] ∧ SqL X.K H1 a xs ∧ SqL X.K H1 b zs ∧ xs.length ≤ 100000 ∧ ∀ D, H1 D = none → ∃ In : Nat → List V → Hp → Prop, In 0 [] (upd H1 D (.lst [])) ∧ (∀ i ys H, In i ys H → SqL X.K H a xs ∧ SqL X.K H b zs) ∧
      (∀ i ys v w H T, xs[i]? = some v → zs[i]? = some w → ys.length = i → H D = some (.lst ys) → In i ys H → H T = none → LE X scope elt (((wipe σ (own.map (·.2))).set j (some v)).set k (some w)) (upd H T (.tup [v, w])) fun y H4 => H4 D = some (.lst ys) ∧ In (i + 1) (ys ++ [y]) (upd H4 D (.lst (ys ++ [y])))) ∧
      ∀ ys H, ys.length = min xs.length zs.length → H D = some (.lst ys) → In (min xs.length zs.length) ys H → EE.nx (σ.set ii (some (.ref D))) H) (hgl : Gl X "zip" := by rfl)
    (hst : starEach [e, e2] X.env = (false, eval e X.env) :: starEach [e2] X.env := by rfl) (hpl : (backTo p2 (starEach [e2] X.env)).any (·.1) = false := by rfl) (hs : ∀ x, foldedSetIterable (.Call (.Name "zip" p) [e, e2] [] p2) X.env x = pure x := by intro _; rfl) :
    SV X (.Assign [.Name yy pyy] (.ListComp elt [⟨.Tuple [.Name x px, .Name y py] kk pt, .Call (.Name "zip" p) [e, e2] [] p2, [], 0⟩] scope pos) sps) EE σ H := by
  refine sv_lc ii hc hN hy hyl hsw (RZ.pi_zipA hgl (B.at_ 20) pa_av hst hpl) ok hg gtup2_mono (fun σ H R R' im h => av_mono h fun v H' ⟨a, b, xs, ys, h1, h2⟩ => ⟨a, b, xs, ys, h1, h2.elim (fun h => .inl ⟨h.1, h.2.1, im _ _ h.2.2⟩) fun h => .inr ⟨h.1, h.2.1, im _ _ h.2.2⟩⟩) hs ?_
  refine av_mono q fun v H1 ⟨a, b, xs, zs, h1, h2, h3, h5, h4⟩ => ⟨a, b, xs, zs, h1, .inl ⟨h2, h3, min xs.length zs.length, _, _, walk_zip (xs := xs) (ys := zs) rfl, by omega, fun D hD => ?_⟩⟩
  obtain ⟨In, h0, hG, hs, hd⟩ := h4 D hD
  refine ⟨In, h0, hG, fun i ys v H H' hi e1 e2 e3 ⟨T, v1, w1, e4, e5, e6, e7, e8⟩ => ?_, hd⟩
  subst e4 e6
  exact ⟨T, [v1, w1], rfl, .of upd_same, rfl, v1, [w1], rfl, w1, [], rfl, rfl, hw _ _, hs i ys v1 w1 H T e7 e8 e1 e2 e3 e5⟩
theorem sv_lcS (ii : Nat) (j : Nat) {x : Str} {px : Pos} (hc : X.calm = true) (hN : X.N.Nodup) (hy : X.N[ii]? = some yy) (hyl : X.env.scope.names.lookup yy = some .local) (hsw : swapsWith (.ListComp elt [⟨.Name x px, iter, [], 0⟩] scope pos) (some (.Name yy pyy)) sps.line X.env = pure true) (ok : BlkOk X.N X.env.scope scope own)
    (hg : ∀ (s : Shared) (H : Hp) (C : Addr) (cl : List (Str × Addr)) (fp : List Addr), PG (Cx.blk0 X scope s H C cl fp) (.Name x px) (gName j)) (hw : ∀ v, wipe ((wipe σ (own.map (·.2))).set j (some v)) (own.map (·.2)) = wipe σ (own.map (·.2)))
    (q : EV X iter σ H fun v H1 => ∃ z : Str, v = .str z ∧ z.cps.size ≤ 100000 ∧ ∀ D, H1 D = none → ∃ In : Nat → List V → Hp → Prop, In 0 [] (upd H1 D (.lst [])) ∧
      (∀ i ys c H, z.cps[i]? = some c → ys.length = i → H D = some (.lst ys) → In i ys H → LE X scope elt ((wipe σ (own.map (·.2))).set j (some (.str ⟨#[c]⟩))) H fun y H4 => H4 D = some (.lst ys) ∧ In (i + 1) (ys ++ [y]) (upd H4 D (.lst (ys ++ [y])))) ∧
      ∀ ys H, ys.length = z.cps.size → H D = some (.lst ys) → In z.cps.size ys H → EE.nx (σ.set ii (some (.ref D))) H) (hs : ∀ x, foldedSetIterable iter X.env x = pure x := by intro _; rfl) :
    SV X (.Assign [.Name yy pyy] (.ListComp elt [⟨.Name x px, iter, [], 0⟩] scope pos) sps) EE σ H := by
  refine sv_lc ii hc hN hy hyl hsw (pi_str pe_ev) ok hg gname_mono (fun σ H R R' im h => ev_mono h fun v H' ⟨z, h1, h2⟩ => ⟨z, h1, im _ _ h2⟩) hs ?_
  refine ev_mono q fun v H1 ⟨z, h1, h2, h4⟩ => ⟨z, h1, z.cps.size, _, _, walk_str, h2, fun D hD => ?_⟩
  obtain ⟨In, h0, hs, hd⟩ := h4 D hD
  exact ⟨In, h0, fun _ _ _ _ => trivial, fun i ys v H H' hi e1 e2 e3 ⟨e4, c, e5, e6⟩ => by subst e4 e6; exact ⟨hw _, hs i ys c _ e5 e1 e2 e3⟩, hd⟩
end
end Hv
/-! HQ: values beside numbers, item by item; a sort by insertion. No program in sight. -/
namespace Hv
open PySem PySem.Spec PyProof.Rows L2
section
variable {α β : Type}
inductive Bes (R : α → β → Prop) : List α → List β → Prop
  | nil : Bes R [] []
  | cons {a : α} {b : β} {as : List α} {bs : List β} (h : R a b) (t : Bes R as bs) : Bes R (a :: as) (b :: bs)
variable {R S : α → β → Prop} {as as' : List α} {bs bs' : List β}
theorem Bes.len (h : Bes R as bs) : as.length = bs.length := by
  induction h with
  | nil => rfl
  | cons _ _ ih => rw [List.length_cons, List.length_cons, ih]
theorem Bes.imp (h : Bes R as bs) (f : ∀ a b, R a b → S a b) : Bes S as bs := by
  induction h with
  | nil => exact .nil
  | cons h _ ih => exact .cons (f _ _ h) ih
theorem Bes.app (h : Bes R as bs) (h' : Bes R as' bs') : Bes R (as ++ as') (bs ++ bs') := by
  induction h with
  | nil => exact h'
  | cons h _ ih => exact .cons h ih
theorem Bes.one {a : α} {b : β} (h : R a b) : Bes R [a] [b] := .cons h .nil
theorem Bes.snoc {a : α} {b : β} (h : Bes R as bs) (h' : R a b) : Bes R (as ++ [a]) (bs ++ [b]) := h.app (.one h')
theorem Bes.take (h : Bes R as bs) : ∀ n, Bes R (as.take n) (bs.take n) := by
  induction h with
  | nil => intro n; simp; exact .nil
  | cons h _ ih =>
    intro n
    cases n with
    | zero => exact .nil
    | succ n => exact .cons h (ih n)
theorem Bes.drop (h : Bes R as bs) : ∀ n, Bes R (as.drop n) (bs.drop n) := by
  induction h with
  | nil => intro n; simp; exact .nil
  | cons h t ih =>
    intro n
    cases n with
    | zero => exact .cons h t
    | succ n => exact ih n
theorem Bes.get (h : Bes R as bs) : ∀ (i : Nat) (a : α), as[i]? = some a → ∃ b, bs[i]? = some b ∧ R a b := by
  induction h with
  | nil => intro i a e; simp at e
  | cons h _ ih =>
    intro i a e
    cases i with
    | zero => cases e; exact ⟨_, rfl, h⟩
    | succ i => exact ih i a e
theorem Bes.getR (h : Bes R as bs) : ∀ (i : Nat) (b : β), bs[i]? = some b → ∃ a, as[i]? = some a ∧ R a b := by
  induction h with
  | nil => intro i a e; simp at e
  | cons h _ ih =>
    intro i a e
    cases i with
    | zero => cases e; exact ⟨_, rfl, h⟩
    | succ i => exact ih i a e
end
/-- q behind all that are not above it, where the list ascends -/
def insAt (q : Rat) (l : List Rat) : Nat := (l.takeWhile fun p => decide (p ≤ q)).length
def ins (q : Rat) (l : List Rat) : List Rat := l.take (insAt q l) ++ [q] ++ l.drop (insAt q l)
def isort (l : List Rat) : List Rat := l.foldl (fun acc q => ins q acc) []
theorem insAt_le (q : Rat) (l : List Rat) : insAt q l ≤ l.length := by
  unfold insAt
  induction l with
  | nil => simp
  | cons c r ih =>
    rw [List.takeWhile_cons]
    split
    · simp only [List.length_cons]; omega
    · simp
theorem insAt_of {q : Rat} : ∀ {l : List Rat} {i : Nat}, i ≤ l.length → (∀ j p, j < i → l[j]? = some p → p ≤ q) → (∀ p, l[i]? = some p → ¬ p ≤ q) → i = insAt q l
  | [], i, hi, _, _ => by
    have : i = 0 := by simpa using hi
    subst this
    rfl
  | c :: r, 0, _, _, h2 => by
    unfold insAt
    rw [List.takeWhile_cons, if_neg (by simpa using h2 c rfl)]
    rfl
  | c :: r, i + 1, hi, h1, h2 => by
    have hc : c ≤ q := h1 0 c (by omega) rfl
    have ih := insAt_of (l := r) (i := i) (by simpa using hi) (fun j p hj e => h1 (j + 1) p (by omega) e) (fun p e => h2 p e)
    unfold insAt at ih ⊢
    rw [List.takeWhile_cons, if_pos (by simpa using hc), List.length_cons, ← ih]
theorem ins_cons (q c : Rat) (l : List Rat) : ins q (c :: l) = if c ≤ q then c :: ins q l else q :: c :: l := by
  unfold ins insAt
  rw [List.takeWhile_cons]
  by_cases h : c ≤ q
  · simp [h]
  · simp [h]
theorem ins_mem {q x : Rat} : ∀ {l : List Rat}, x ∈ ins q l ↔ x = q ∨ x ∈ l
  | [] => by simp [ins, insAt]
  | c :: l => by
    rw [ins_cons]
    split
    · rw [List.mem_cons, ins_mem (l := l), List.mem_cons]
      exact ⟨fun h => h.elim (fun h => .inr (.inl h)) fun h => h.elim .inl fun h => .inr (.inr h), fun h => h.elim (fun h => .inr (.inl h)) fun h => h.elim .inl fun h => .inr (.inr h)⟩
    · rw [List.mem_cons]
theorem ins_pw {q : Rat} : ∀ {l : List Rat}, l.Pairwise (· ≤ ·) → (ins q l).Pairwise (· ≤ ·)
  | [], _ => by simp [ins, insAt]
  | c :: l, h => by
    rw [ins_cons]
    rw [List.pairwise_cons] at h
    split
    · rename_i hc
      rw [List.pairwise_cons]
      refine ⟨fun x hx => ?_, ins_pw h.2⟩
      rcases ins_mem.mp hx with rfl | hx
      · exact hc
      · exact h.1 x hx
    · rename_i hc
      have hq : q ≤ c := Rat.le_of_lt (Rat.not_le.mp hc)
      rw [List.pairwise_cons]
      refine ⟨fun x hx => ?_, List.pairwise_cons.mpr h⟩
      rcases List.mem_cons.mp hx with rfl | hx
      · exact hq
      · exact Rat.le_trans hq (h.1 x hx)
theorem fold_pw : ∀ (l acc : List Rat), acc.Pairwise (· ≤ ·) → (l.foldl (fun acc q => ins q acc) acc).Pairwise (· ≤ ·)
  | [], _, h => h
  | q :: l, acc, h => fold_pw l _ (ins_pw h)
theorem isort_pw (l : List Rat) : (isort l).Pairwise (· ≤ ·) := fold_pw l [] .nil
theorem fold_mem {x : Rat} : ∀ (l acc : List Rat), x ∈ l.foldl (fun acc q => ins q acc) acc → x ∈ l ∨ x ∈ acc
  | [], _, h => .inr h
  | q :: l, acc, h => by
    rcases fold_mem l _ h with h | h
    · exact .inl (List.mem_cons_of_mem _ h)
    · rcases ins_mem.mp h with rfl | h
      · exact .inl (List.mem_cons_self ..)
      · exact .inr h
theorem isort_mem {x : Rat} {l : List Rat} (h : x ∈ isort l) : x ∈ l := (fold_mem l [] h).resolve_right (by simp)
theorem ins_len (q : Rat) (l : List Rat) : (ins q l).length = l.length + 1 := by
  have := insAt_le q l
  unfold ins
  simp
  omega
theorem isort_snoc (l : List Rat) (q : Rat) : isort (l ++ [q]) = ins q (isort l) := by
  unfold isort
  rw [List.foldl_append]
  rfl
theorem isort_len (l : List Rat) : (isort l).length = l.length := by
  have : ∀ (l acc : List Rat), (l.foldl (fun acc q => ins q acc) acc).length = acc.length + l.length := by
    intro l
    induction l with
    | nil => intro acc; rfl
    | cons q l ih => intro acc; rw [List.foldl_cons, ih, ins_len, List.length_cons]; omega
  rw [isort, this]
  simp
theorem pw_next {l : List Rat} (h : l.Pairwise (· ≤ ·)) {i : Nat} {p q : Rat} (h1 : l[i]? = some p) (h2 : l[i + 1]? = some q) : p ≤ q := by
  obtain ⟨a, rfl⟩ := List.getElem?_eq_some_iff.mp h1
  obtain ⟨b, rfl⟩ := List.getElem?_eq_some_iff.mp h2
  exact List.pairwise_iff_getElem.mp h i (i + 1) a b (by omega)
end Hv
/-! HH: a head's Hook of one's own: defs by paths, any Bool of the written part. -/
namespace Hv
open PySem PySem.Spec PyProof.Rows L2
/-- one def of the text: a path to it, and what stands there -/
structure De where
  at_ : PySem.W.Frag → Addr
  name : Str
  qual : Str
  st : Stmt
  dfl : List He.Dv := []
  kwd : List (Str × He.Dv) := []
  clo : List Str := []
abbrev FW : Type := Option (Str × Str × Arguments × FuncBody × Scope × Addr × List Str × Addr)
def fwAt (K : PySem.W.Frag) (a : Addr) : FW := match K.lookup a with
  | some ⟨_, _, .func fd, _⟩ => some (fd.name, fd.qualname, fd.params, fd.body, fd.scope, fd.globals, fd.closure.map Prod.fst, fd.builtins)
  | _ => none
def De.val (d : De) : FW := some (d.name, d.qual, defArgs d.st, .stmts (defBody d.st), defScope d.st, mainGlobals, d.clo, builtinsNs)
def De.dvs (K : PySem.W.Frag) (d : De) : List V := d.dfl.map (He.Dv.v K)
def De.kws (K : PySem.W.Frag) (d : De) : List (Str × V) := d.kwd.map fun q => (q.1, q.2.v K)
def De.ok (K : PySem.W.Frag) (d : De) : Bool := PySem.W.keepIn K (.ref (d.at_ K)) && (match K.lookup (d.at_ K) with
  | some ⟨_, _, .func fd, _⟩ => PySem.W.codeIn K fd.code d.qual && (He.dflB K fd.defaults (d.dvs K) && He.kwdB K fd.kwdefaults (d.kws K))
  | _ => false)
theorem De.funD {K : PySem.W.Frag} {d : De} (hc : d.clo = []) (e : fwAt K (d.at_ K) = d.val) (c : d.ok K = true) :
    ∃ fd, FunD K d.name d.qual (defArgs d.st) (defBody d.st) (defScope d.st) (d.dvs K) (d.kws K) (d.at_ K) fd := by
  obtain ⟨kp, c2⟩ := He.ba c
  unfold fwAt at e
  cases q : K.lookup (d.at_ K) with
  | none => rw [q] at c2; cases c2
  | some o =>
    obtain ⟨oc, od, dt, osl⟩ := o
    rw [q] at c2 e
    cases dt with
    | func fd =>
      obtain ⟨n1, n2, n3, n4, n5, n6, n7, n8, n9, n10, n11, n12, n13, n14, n15⟩ := fd
      have e2 : (some (n1, n2, n3, n4, n5, n6, n7.map Prod.fst, n15) : FW) = some (d.name, d.qual, defArgs d.st, .stmts (defBody d.st), defScope d.st, mainGlobals, d.clo, builtinsNs) := e
      simp only [Option.some.injEq, Prod.mk.injEq] at e2
      obtain ⟨h1, h2, h3, h4, h5, h6, h7, h8⟩ := e2
      rw [hc, List.map_eq_nil_iff] at h7
      subst h1 h2 h3 h4 h5 h6 h7 h8
      obtain ⟨k1, k2⟩ := He.ba (show (PySem.W.codeIn K n13 d.qual && (He.dflB K n8 (d.dvs K) && He.kwdB K n9 (d.kws K))) = true from c2)
      obtain ⟨k3, k4⟩ := He.ba k2
      exact ⟨_, ⟨oc, od, n8, n9, n10, n11, n12, n13, n14, osl, rfl, q, k1, He.dflB_ok k3, He.kwdB_ok k4⟩, kp⟩
    | _ => cases c2
abbrev Al : Type := Bool × List FW
def obsK (ex : PySem.W.Frag → Bool) (fn : List De) (K : PySem.W.Frag) : Al := (ex K && fn.all fun d => d.ok K, fn.map fun d => fwAt K (d.at_ K))
def valK (fn : List De) : Al := (true, fn.map De.val)
def Says (ex : PySem.W.Frag → Bool) (fn : List De) (K : PySem.W.Frag) : Prop := obsK ex fn K = valK fn
def obsG (n : Nat) (ex : PySem.W.Frag → Bool) (fn : List De) (g : Addr → Option Obj) : Al := obsK ex fn (He.frG g (cStatics :: He.asD g n))
def hookG (n : Nat) (ex : PySem.W.Frag → Bool) (fn : List De) : PySem.W.Hook where
  α := Al
  obs := fun s => obsG n ex fn s.heap.get?
  val := fun _ => valK fn
  says := fun _ h => ∃ K : PySem.W.Frag, K.In h ∧ Says ex fn K
  of := fun _ _ e => ⟨_, He.frG_in, e⟩
  keeps := fun _ _ _ ⟨K, hK, c⟩ k => ⟨K, PySem.W.Frag.In.keeps hK k, c⟩
theorem obsG_eq {n : Nat} {ex : PySem.W.Frag → Bool} {fn : List De} {g : Addr → Option Obj} {s : Shared} (h : ∀ a, g a = s.heap.get? a) : obsG n ex fn g = (hookG n ex fn).obs s := by
  have e : g = s.heap.get? := funext h
  rw [e] <;> rfl
section
variable {ex : PySem.W.Frag → Bool} {fn : List De} {K : PySem.W.Frag}
theorem Says.more (c : Says ex fn K) : ex K = true := (He.ba (show (ex K && fn.all fun d => d.ok K) = true from congrArg (fun z : Al => z.1) c)).1
theorem Says.def_ (c : Says ex fn K) (i : Nat) {d : De} (h : fn[i]? = some d := by rfl) (hc : d.clo = [] := by rfl) :
    ∃ fd, FunD K d.name d.qual (defArgs d.st) (defBody d.st) (defScope d.st) (d.dvs K) (d.kws K) (d.at_ K) fd := by
  have c2 := (He.ba (show (ex K && fn.all fun d => d.ok K) = true from congrArg (fun z : Al => z.1) c)).2
  have e : fn.map (fun d => fwAt K (d.at_ K)) = fn.map De.val := congrArg (fun z : Al => z.2) c
  have e2 : (fn.map fun d => fwAt K (d.at_ K))[i]? = (fn.map De.val)[i]? := by rw [e]
  rw [List.getElem?_map, List.getElem?_map, h] at e2
  exact De.funD hc (Option.some.inj e2) (List.all_eq_true.mp c2 d (List.mem_of_getElem? h))
/-- a def whose class its text asks for: one closure cell -/
theorem Says.defC (c : Says ex fn K) (i : Nat) {d : De} {x : Str} (h : fn[i]? = some d := by rfl) (hc : d.clo = [x] := by rfl) :
    ∃ (oc : Value) (od : Option Addr) (osl : Array (Option Value)) (cc : Addr) (dV kV doc pm : Value) (an : Option Addr) (cdv ct : Value),
      K.lookup (d.at_ K) = some ⟨oc, od, .func (PySem.W.fnX d.name d.qual (defArgs d.st) (defBody d.st) (defScope d.st) [(x, cc)] dV kV doc pm an cdv ct), osl⟩ ∧ PySem.W.codeIn K cdv d.qual = true ∧
        He.dflB K dV (d.dvs K) = true ∧ He.kwdB K kV (d.kws K) = true ∧ PySem.W.keepIn K (.ref (d.at_ K)) = true := by
  have c2 := (He.ba (show (ex K && fn.all fun d => d.ok K) = true from congrArg (fun z : Al => z.1) c)).2
  have e : fn.map (fun d => fwAt K (d.at_ K)) = fn.map De.val := congrArg (fun z : Al => z.2) c
  have e2 : (fn.map fun d => fwAt K (d.at_ K))[i]? = (fn.map De.val)[i]? := by rw [e]
  rw [List.getElem?_map, List.getElem?_map, h] at e2
  have e : fwAt K (d.at_ K) = d.val := Option.some.inj e2
  obtain ⟨kp, c2⟩ := He.ba (List.all_eq_true.mp c2 d (List.mem_of_getElem? h))
  unfold fwAt at e
  cases q : K.lookup (d.at_ K) with
  | none => rw [q] at c2; cases c2
  | some o =>
    obtain ⟨oc, od, dt, osl⟩ := o
    rw [q] at c2 e
    cases dt with
    | func fd =>
      obtain ⟨n1, n2, n3, n4, n5, n6, n7, n8, n9, n10, n11, n12, n13, n14, n15⟩ := fd
      have e2 : (some (n1, n2, n3, n4, n5, n6, n7.map Prod.fst, n15) : FW) = some (d.name, d.qual, defArgs d.st, .stmts (defBody d.st), defScope d.st, mainGlobals, d.clo, builtinsNs) := e
      simp only [Option.some.injEq, Prod.mk.injEq] at e2
      obtain ⟨h1, h2, h3, h4, h5, h6, h7, h8⟩ := e2
      rw [hc] at h7
      obtain ⟨cc, rfl⟩ : ∃ cc, n7 = [(x, cc)] := by
        match n7, h7 with
        | [(y, b)], h7 =>
          cases h7
          exact ⟨b, rfl⟩
      subst h1 h2 h3 h4 h5 h6 h8
      obtain ⟨k1, k2⟩ := He.ba (show (PySem.W.codeIn K n13 d.qual && (He.dflB K n8 (d.dvs K) && He.kwdB K n9 (d.kws K))) = true from c2)
      obtain ⟨k3, k4⟩ := He.ba k2
      exact ⟨oc, od, osl, cc, n8, n9, n10, n11, n12, n13, n14, rfl, k1, k3, k4, kp⟩
    | _ => cases c2
end
end Hv
/-! HI: facts of the written part as Bools: classes with slots that count as numbers, their slots, properties. -/
namespace Hv
open PySem PySem.Spec PyProof.Rows L2 SlX He
/-- the getter of the property f of the class at C -/
def pgAt (K : PySem.W.Frag) (C : Addr) (f : Str) : Addr := match PySem.W.recIn K (ma K C f) "property" with
  | some (.ref g :: _) => g
  | _ => 0
/-- the def of the static method f of the class at C -/
def smAt (K : PySem.W.Frag) (C : Addr) (f : Str) : Addr := match PySem.W.recIn K (ma K C f) "staticmethod" with
  | some (.ref g :: _) => g
  | _ => 0
def statB (K : PySem.W.Frag) (C : Addr) (f : Str) : Bool := match PySem.W.findCls K (.ref C) (.type "type") f with
  | some (.get (.builtin g) (.ref p) .none (.ref C2)) => decide (g = "staticmethod.__get__") && (decide (p = ma K C f) && decide (C2 = C))
  | _ => false
inductive Fb where
  | fa (f : Fa)
  | num (x : Str)
  | slot (x f : Str) (i : Nat)
  | prop (x f : Str)
  | stat (x f : Str)
def Fb.ok (K : PySem.W.Frag) : Fb → Bool
  | .fa f => f.ok K
  | .num x => (PySem.W.plainGet K (ga K x) Str.empty && (PySem.W.isClsIn K (ga K x) && (PySem.W.plainOver K (ga K x) && eqO (PySem.W.findIn K (.ref (ga K x)) "__setattr__") (some (some (.builtin "object.__setattr__")))))) &&
      ((eqO (PySem.W.findIn K (.ref (ga K x)) "__class__") (some (some (.builtin "object.__class__"))) && (eqO (PySem.W.specialIn K (.builtin "object.__class__") "__get__") (some (some (.builtin "getset_descriptor.__get__"))) &&
        (decide (PySem.W.takesIn K (.builtin "object.__class__") = some true) && decide (PySem.W.mroIn K (ga K x) (.type "object") = some true)))) &&
      (PySem.W.selfFirst K (ga K x) && decide (PySem.W.subIn K (.ref (ga K x)) (.type "int") = some false)))
  | .slot x f i => eqO (PySem.W.findIn K (.ref (ga K x)) f) (some (some (.ref (ma K (ga K x) f)))) && (eqO (PySem.W.specialIn K (.ref (ma K (ga K x) f)) "__get__") (some (some (.builtin "member_descriptor.__get__"))) &&
      (decide (PySem.W.takesIn K (.ref (ma K (ga K x) f)) = some true) && (decide (PySem.W.typeIn K (.ref (ma K (ga K x) f)) = some (.type "member_descriptor")) && (decide (PySem.W.slotIn K (ma K (ga K x) f) (ga K x) = some i) && decide (i < 1000)))))
  | .prop x f => eqO (PySem.W.findIn K (.ref (ga K x)) f) (some (some (.ref (ma K (ga K x) f)))) && (eqO (PySem.W.specialIn K (.ref (ma K (ga K x) f)) "__get__") (some (some (.builtin "property.__get__"))) &&
      (decide (PySem.W.takesIn K (.ref (ma K (ga K x) f)) = some true) && (match PySem.W.recIn K (ma K (ga K x) f) "property" with
        | some (.ref _ :: _) => true
        | _ => false)))
  | .stat x f => statB K (ga K x) f && ((match PySem.W.recIn K (ma K (ga K x) f) "staticmethod" with
        | some (.ref _ :: _) => true
        | _ => false) && (PySem.W.handedIn (.ref (smAt K (ga K x) f)) && (PySem.W.keepIn K (.ref (smAt K (ga K x) f)) && (PySem.W.readsIn K (ga K x) (.type "type") && eqO (PySem.W.specialIn K (.ref (ga K x)) "__getattribute__") (some (some (.builtin "type.__getattribute__")))))))
section
variable {K : PySem.W.Frag}
theorem num_ok {x : Str} (c : (Fb.num x).ok K = true) : NumC K (ga K x) := by
  obtain ⟨c1, c⟩ := ba c
  obtain ⟨a1, a⟩ := ba c1
  obtain ⟨a2, a⟩ := ba a
  obtain ⟨a3, a4⟩ := ba a
  obtain ⟨c2, c⟩ := ba c
  obtain ⟨b1, b⟩ := ba c2
  obtain ⟨b2, b⟩ := ba b
  obtain ⟨b3, b4⟩ := ba b
  obtain ⟨d1, d2⟩ := ba c
  refine ⟨⟨a1, a2, a3, eqO_ok a4⟩, ⟨eqO_ok b1, eqO_ok b2, of_decide_eq_true b3, of_decide_eq_true b4⟩, d1, of_decide_eq_true d2, ?_⟩
  unfold PySem.W.notFirst
  simp
theorem slot_ok {x f : Str} {i : Nat} (c : (Fb.slot x f i).ok K = true) : Slot1 K (ga K x) f (ma K (ga K x) f) i := by
  obtain ⟨c1, c⟩ := ba c
  obtain ⟨c2, c⟩ := ba c
  obtain ⟨c3, c⟩ := ba c
  obtain ⟨c4, c⟩ := ba c
  obtain ⟨c5, c6⟩ := ba c
  exact ⟨eqO_ok c1, eqO_ok c2, of_decide_eq_true c3, of_decide_eq_true c4, of_decide_eq_true c5, of_decide_eq_true c6⟩
theorem prop_ok {x f : Str} (c : (Fb.prop x f).ok K = true) : PropG K (ga K x) f (ma K (ga K x) f) (pgAt K (ga K x) f) := by
  obtain ⟨c1, c⟩ := ba c
  obtain ⟨c2, c⟩ := ba c
  obtain ⟨c3, c4⟩ := ba c
  refine ⟨eqO_ok c1, eqO_ok c2, of_decide_eq_true c3, ?_⟩
  unfold pgAt
  have c5 : (match PySem.W.recIn K (ma K (ga K x) f) "property" with
        | some (.ref _ :: _) => true
        | _ => false) = true := c4
  split at c5
  · rename_i g r q
    exact ⟨r, by rw [q]⟩
  · cases c5
theorem stat_ok {x f : Str} (c : (Fb.stat x f).ok K = true) : ClX.CRead K (ga K x) (.type "type") ∧ SMet K (ga K x) (.type "type") f (ma K (ga K x) f) (smAt K (ga K x) f) := by
  obtain ⟨c1, c⟩ := ba c
  obtain ⟨c2, c⟩ := ba c
  obtain ⟨c3, c⟩ := ba c
  obtain ⟨c4, c⟩ := ba c
  obtain ⟨c5, c6⟩ := ba c
  refine ⟨⟨c5, eqO_ok c6⟩, ?_, ?_, c3, c4⟩
  · unfold statB at c1
    split at c1
    · rename_i g p C2 q
      obtain ⟨d1, c1⟩ := ba c1
      obtain ⟨d2, d3⟩ := ba c1
      rw [q, of_decide_eq_true d1, of_decide_eq_true d2, of_decide_eq_true d3]
    · cases c1
  · unfold smAt
    have c7 : (match PySem.W.recIn K (ma K (ga K x) f) "staticmethod" with
        | some (.ref _ :: _) => true
        | _ => false) = true := c2
    split at c7
    · rename_i g r q
      exact ⟨r, by rw [q]⟩
    · cases c7
/-- the own classes told apart -/
def csB (K : PySem.W.Frag) (cs : List Addr) : Bool := cs.all fun C => (PySem.W.clsIn K C).isSome && decide (PySem.W.typeIn K (.ref C) = some (.type "type")) && tys.all (fun T => decide (PySem.W.subIn K (.ref C) (.type T) = some false)) &&
  cs.all fun D => decide (PySem.W.subIn K (.ref C) (.ref D) = some (decide (C = D)))
theorem csB_ok {cs : List Addr} (h : csB K cs = true) : Cs K cs := by
  unfold csB at h
  simp only [List.all_eq_true, Bool.and_eq_true, decide_eq_true_eq] at h
  exact ⟨fun C hC => (h C hC).1.1.1, fun C hC => (h C hC).1.1.2, fun C hC => (h C hC).1.2, fun C hC => (h C hC).2⟩
/-- all of them -/
def allB (l : List Fb) (K : PySem.W.Frag) : Bool := l.all fun f => f.ok K
theorem allB_at {l : List Fb} (h : allB l K = true) (i : Nat) {f : Fb} (e : l[i]? = some f := by rfl) : f.ok K = true :=
  List.all_eq_true.mp h f (List.mem_of_getElem? e)
end
theorem blt_ok {K : PySem.W.Frag} {h : Heap} {mg : Str → Option Value} (X : K.In h) (G : h.Ns mainGlobals mg) {l : List Fb} (c : allB l K = true) (hl : l.take blts.length = blts.map fun x => Fb.fa (.free x)) : Blt mg := by
  intro x hx
  have hm : Fb.fa (.free x) ∈ l.take blts.length := by
    rw [hl]
    exact List.mem_map_of_mem hx
  exact free_ok X G (List.all_eq_true.mp c _ (List.mem_of_mem_take hm))
end Hv
/-! HZ: the law's end for a promise that knows that no repr is under way. -/
namespace Hv
open PySem PySem.Spec PyProof.Rows L2
theorem room_caller {k : Nat} (h : Room k callerA) : RoomG k callerA := ⟨h, rfl⟩
section
variable {P : Program} {w : World} {K : PySem.W.Frag} {mg mb : Str → Option Value} {k : Nat} {fa a : Addr} {sp : Sp} {s : Shared} {vs : List Value} {ns : List Int}
/-- what is tracked at the law's entry: the script alone, as it stands; nothing if it is the module's own -/
def hp0 (K : PySem.W.Frag) (a : Addr) (o : Obj) (xs : List V) : Hp := fun b => if b = a ∧ K.lookup a = none then some (.frz o (.lst xs)) else none
theorem hp0_at {o : Obj} {xs : List V} {b : Addr} {u : HO} (h : hp0 K a o xs b = some u) : b = a ∧ K.lookup a = none ∧ u = .frz o (.lst xs) := by
  unfold hp0 at h
  split at h
  · rename_i c
    exact ⟨c.1, c.2, (Option.some.inj h).symm⟩
  · cases h
/-- the law's promise at the heap behind the top -/
theorem law_run (KX : K.In s.heap) (hns : s.heap.Ns mainGlobals mg) (hb : s.heap.Ns builtinsNs mb) (hbb : ∀ x : Str, x ≠ "__name__" → mb x = bootBuiltins x) (hlim : s.heap.NoLimit) (hg : s.gens = #[])
    (ha : s.heap.get? a = some { cls := .type "list", data := .seq vs.toArray }) (hi : IntsAre vs ns) (hl : ns.length ≤ sizeLine) (hr : Room k callerA)
    (F : ∀ base : Heap, K.In base → base.Ns mainGlobals mg → FnG P w K mg base k fa sp)
    (hsp : ∀ H : Hp, SqL K H a (ns.map V.int) → sp [.ref a] H (fun v _ => v = .bl true) E0) :
    codeAny (model P w) callerA (.call (.ref fa) ⟨[.ref a], []⟩) (fun r s' => r = .ok (.ret (.bool true)) ∧ OldK s.heap s'.heap ∧ s'.os = s.os ∧ AllBare s'.gens) s := by
  have rv := vals_ints hi
  have nl := hi.length
  let o : Obj := { cls := .type "list", data := .seq vs.toArray }
  let H := hp0 K a o (ns.map V.int)
  have hok : HOk P w H s.heap := fun b u z => by
    obtain ⟨rfl, _, rfl⟩ := hp0_at z
    exact ⟨ha, by rw [List.length_map]; exact hl, vs, _, rv, ha⟩
  have sq : SqL K H a (ns.map V.int) := by
    cases e : K.lookup a with
    | none => exact .inl (.inr ⟨o, by show (if _ then _ else _) = _; rw [if_pos ⟨rfl, e⟩]⟩)
    | some o' =>
      have z := KX a o' e
      rw [ha] at z
      cases z
      exact .inr ⟨_, vs.toArray, _, e, rfl, rfl, rfl, by rw [List.size_toArray, nl]; exact hl, by simpa using rv⟩
  have untr : ∀ {b : Addr} {ob : Obj}, s.heap.get? b = some ob → (∀ u, H b = some u → False) → (hidT s.heap H).get? b = some ob := fun {b ob} e n => hidT_get e (by
    cases z : H b with
    | none => rfl
    | some u => exact (n u z).elim)
  have dct : ∀ {b : Addr} {m : Str → Option Value}, s.heap.Ns b m → (hidT s.heap H).Ns b m := fun {b m} ⟨ob, es, ep, e, d, r⟩ => ⟨ob, es, ep, untr e (fun u z => by
    obtain ⟨rfl, _, _⟩ := hp0_at z
    rw [ha] at e
    cases e
    cases (show Data.seq vs.toArray _ = Data.dict es ep from d)), d, r⟩
  have kin : K.In (hidT s.heap H) := fun b ob e => untr (KX b ob e) fun u z => by
    obtain ⟨rfl, n, _⟩ := hp0_at z
    rw [n] at e
    cases e
  have md : Mod K mg (hidT s.heap H) := ⟨kin, dct hns, ⟨mb, dct hb, hbb⟩, let ⟨mc, h1, h2⟩ := hlim; ⟨mc, dct h1, h2⟩⟩
  have e0 : Env0 P w K mg (hidT s.heap H) callerA [] s H := ⟨rfl, md, fun b ob e => of_hidT e, Nat.le_of_eq (hidT_size _ _), trivial, fun b hb => absurd (show b ∈ ([] : List Addr) from hb) (by simp), hok, .of_eq hg⟩
  refine codeAny_mono (F _ kin (dct hns) callerA [] s H [.ref a] [.ref a] _ E0 (room_caller hr) e0 (.cons rfl .nil) (hsp H sq)) fun r s' z => ?_
  match r, z with
  | .error e, z => exact (noX z).elim
  | .ok (.ret u), z =>
    obtain ⟨v, H', os, bare, un, hok', r', q⟩ := z
    have q' : v = .bl true := q
    subst q'
    obtain rfl : u = Value.bool true := r'
    refine ⟨rfl, OldK.of_keep fun b ob e => ?_, os, bare⟩
    cases z : H b with
    | none => exact un.keep b ob e z (by intro z; exact absurd (show b ∈ ([] : List Addr) from z) (by simp)) (by simp)
    | some u =>
      obtain ⟨rfl, _, rfl⟩ := hp0_at z
      obtain ⟨e1, _⟩ := hok' b _ (un.frzs b _ _ z)
      rw [ha] at e
      cases e
      exact e1
/-- a law, from its promise: the goal that the head leaves -/
theorem walk_end {l : PySem.W.OpenLaw} {n k : Nat} {q : Program} {loose : List Str} {XP : (Str → Option Value) → Heap → Prop} {YP : World → Heap → Prop} {d : DefRec}
    (hn : l.most = some n) (hn2 : n ≤ sizeLine) (hdf : d.params.defaults = []) (hr : Room k callerA)
    (F : ∀ (w : World) (mg : Str → Option Value) (fa : Addr) (h : Heap), YP w h → h.Ns mainGlobals mg → mg d.name = some (.ref fa) →
      ∃ (K : PySem.W.Frag) (sp : Sp), K.In h ∧ (∀ (H : Hp) (a : Addr) (ns : List Int), ns.length ≤ n → SqL K H a (ns.map V.int) → sp [.ref a] H (fun v _ => v = .bl true) E0) ∧
        ∀ base : Heap, K.In base → base.Ns mainGlobals mg → FnG l.prog w K mg base k fa sp) :
    PySem.W.WalkO q loose XP YP l.row.toRowW d [] (fun f vs => PySem.call f vs) := by
  refine Att.attach_call hn hdf fun w s₀ s₁ mg mb fa o pm cd doc a vs ns G Y ho hd hcd hmg hobj hints hlen hg => ?_
  obtain ⟨K, sp, KX, hsp, hF⟩ := F w mg fa _ Y G.T.g hmg
  exact law_run KX G.T.g G.T.b G.T.builtins G.T.nolimit hg hobj hints (Nat.le_trans hlen hn2) hr hF fun H hS => hsp H a ns hlen hS
end
end Hv
/-! the head: where the defs stand, what the top leaves -/
namespace HvT
open PySem PySem.Spec PyProof.Rows L2 Hv
def topS (i : Nat) : Stmt := PySem.Challenge.pw_hoverrest_k11_whole_ratios_in_sequence.main.body.getD i (.Pass ⟨0, 0, 0, 0⟩)
def d_is_integer : De := ⟨fun K => He.ga K "is_integer", "is_integer", "is_integer", topS 7, [], [], []⟩
def d_common_divisor : De := ⟨fun K => He.ga K "common_divisor", "common_divisor", "common_divisor", topS 8, [], [], []⟩
def d_is_figures : De := ⟨fun K => He.ga K "is_figures", "is_figures", "is_figures", topS 9, [], [], []⟩
def d_is_number : De := ⟨fun K => He.ga K "is_number", "is_number", "is_number", topS 11, [], [], []⟩
def d_ratio_of : De := ⟨fun K => He.ga K "ratio_of", "ratio_of", "ratio_of", topS 12, [], [], []⟩
def d_spacing : De := ⟨fun K => He.ga K "spacing", "spacing", "spacing", topS 13, [], [], []⟩
def d_plus : De := ⟨fun K => He.ga K "plus", "plus", "plus", topS 14, [], [], []⟩
def d_minus : De := ⟨fun K => He.ga K "minus", "minus", "minus", topS 15, [], [], []⟩
def d_times : De := ⟨fun K => He.ga K "times", "times", "times", topS 16, [], [], []⟩
def d__law_pot : De := ⟨fun K => He.ga K "_law_pot", "_law_pot", "_law_pot", topS 18, [], [], []⟩
def d__law_take : De := ⟨fun K => He.ga K "_law_take", "_law_take", "_law_take", topS 19, [], [], []⟩
def d__law_of : De := ⟨fun K => He.ga K "_law_of", "_law_of", "_law_of", topS 20, [], [], []⟩
def d__law_frac : De := ⟨fun K => He.ga K "_law_frac", "_law_frac", "_law_frac", topS 21, [], [], []⟩
def d__law_plus : De := ⟨fun K => He.ga K "_law_plus", "_law_plus", "_law_plus", topS 22, [], [], []⟩
def d__law_ratio : De := ⟨fun K => He.ga K "_law_ratio", "_law_ratio", "_law_ratio", topS 23, [], [], []⟩
def d__law_drawn_pair : De := ⟨fun K => He.ga K "_law_drawn_pair", "_law_drawn_pair", "_law_drawn_pair", topS 24, [], [], []⟩
def d__law_is_ratio : De := ⟨fun K => He.ga K "_law_is_ratio", "_law_is_ratio", "_law_is_ratio", topS 25, [], [], []⟩
def d__law_is_before : De := ⟨fun K => He.ga K "_law_is_before", "_law_is_before", "_law_is_before", topS 26, [], [], []⟩
def d__law_laid : De := ⟨fun K => He.ga K "_law_laid", "_law_laid", "_law_laid", topS 27, [], [], []⟩
def d__law_told_laid : De := ⟨fun K => He.ga K "_law_told_laid", "_law_told_laid", "_law_told_laid", topS 28, [], [], []⟩
def d__law_right : De := ⟨fun K => He.ga K "_law_right", "_law_right", "_law_right", topS 29, [], [], []⟩
def d_law : De := ⟨fun K => He.ga K "law", "law", "law", topS 30, [], [], []⟩
def d_HoverError___init__ : De := ⟨fun K => He.ma K (He.ga K "HoverError") "__init__", "__init__", "HoverError.__init__", inClass (topS 1) 0, [], [], ["__class__"]⟩
def d_Ratio___init__ : De := ⟨fun K => He.ma K (He.ga K "Ratio") "__init__", "__init__", "Ratio.__init__", inClass (topS 10) 1, [.int 1], [], []⟩
def d_Ratio_number : De := ⟨fun K => pgAt K (He.ga K "Ratio") "number", "number", "Ratio.number", inClass (topS 10) 2, [], [], []⟩
def d_Ratio_under : De := ⟨fun K => pgAt K (He.ga K "Ratio") "under", "under", "Ratio.under", inClass (topS 10) 3, [], [], []⟩
def d_Ratio_text : De := ⟨fun K => pgAt K (He.ga K "Ratio") "text", "text", "Ratio.text", inClass (topS 10) 4, [], [], []⟩
def d_Ratio_of : De := ⟨fun K => smAt K (He.ga K "Ratio") "of", "of", "Ratio.of", inClass (topS 10) 5, [], [], []⟩
def d_Ratio_halved : De := ⟨fun K => He.ma K (He.ga K "Ratio") "halved", "halved", "Ratio.halved", inClass (topS 10) 6, [], [], []⟩
def d_Ratio___repr__ : De := ⟨fun K => He.ma K (He.ga K "Ratio") "__repr__", "__repr__", "Ratio.__repr__", inClass (topS 10) 7, [], [], []⟩
def d_Ratio___eq__ : De := ⟨fun K => He.ma K (He.ga K "Ratio") "__eq__", "__eq__", "Ratio.__eq__", inClass (topS 10) 8, [], [], []⟩
def d_Ratio___lt__ : De := ⟨fun K => He.ma K (He.ga K "Ratio") "__lt__", "__lt__", "Ratio.__lt__", inClass (topS 10) 9, [], [], []⟩
def d_Ratio___le__ : De := ⟨fun K => He.ma K (He.ga K "Ratio") "__le__", "__le__", "Ratio.__le__", inClass (topS 10) 10, [], [], []⟩
def d_Ratio___gt__ : De := ⟨fun K => He.ma K (He.ga K "Ratio") "__gt__", "__gt__", "Ratio.__gt__", inClass (topS 10) 11, [], [], []⟩
def d_Ratio___ge__ : De := ⟨fun K => He.ma K (He.ga K "Ratio") "__ge__", "__ge__", "Ratio.__ge__", inClass (topS 10) 12, [], [], []⟩
def d_Ratio___neg__ : De := ⟨fun K => He.ma K (He.ga K "Ratio") "__neg__", "__neg__", "Ratio.__neg__", inClass (topS 10) 13, [], [], []⟩
def d_Ratio___abs__ : De := ⟨fun K => He.ma K (He.ga K "Ratio") "__abs__", "__abs__", "Ratio.__abs__", inClass (topS 10) 14, [], [], []⟩
def d_Ratio___add__ : De := ⟨fun K => He.ma K (He.ga K "Ratio") "__add__", "__add__", "Ratio.__add__", inClass (topS 10) 15, [], [], []⟩
def d_Ratio___radd__ : De := ⟨fun K => He.ma K (He.ga K "Ratio") "__radd__", "__radd__", "Ratio.__radd__", inClass (topS 10) 16, [], [], []⟩
def d_Ratio___sub__ : De := ⟨fun K => He.ma K (He.ga K "Ratio") "__sub__", "__sub__", "Ratio.__sub__", inClass (topS 10) 17, [], [], []⟩
def d_Ratio___rsub__ : De := ⟨fun K => He.ma K (He.ga K "Ratio") "__rsub__", "__rsub__", "Ratio.__rsub__", inClass (topS 10) 18, [], [], []⟩
def d_Ratio___mul__ : De := ⟨fun K => He.ma K (He.ga K "Ratio") "__mul__", "__mul__", "Ratio.__mul__", inClass (topS 10) 19, [], [], []⟩
def d_Ratio___rmul__ : De := ⟨fun K => He.ma K (He.ga K "Ratio") "__rmul__", "__rmul__", "Ratio.__rmul__", inClass (topS 10) 20, [], [], []⟩
abbrev n_is_integer : List PySem.Str := ["value"]
abbrev p_is_integer : List PySem.Str := ["value"]
theorem s_is_integer : FnScope n_is_integer p_is_integer (defScope d_is_integer.st) := sc_ok (by decide +kernel)
abbrev n_common_divisor : List PySem.Str := ["one", "other"]
abbrev p_common_divisor : List PySem.Str := ["one", "other"]
theorem s_common_divisor : FnScope n_common_divisor p_common_divisor (defScope d_common_divisor.st) := sc_ok (by decide +kernel)
abbrev n_is_figures : List PySem.Str := ["text", "sign"]
abbrev p_is_figures : List PySem.Str := ["text"]
theorem s_is_figures : FnScope n_is_figures p_is_figures (defScope d_is_figures.st) := sc_ok (by decide +kernel)
abbrev n_is_number : List PySem.Str := ["value"]
abbrev p_is_number : List PySem.Str := ["value"]
theorem s_is_number : FnScope n_is_number p_is_number (defScope d_is_number.st) := sc_ok (by decide +kernel)
abbrev n_ratio_of : List PySem.Str := ["number"]
abbrev p_ratio_of : List PySem.Str := ["number"]
theorem s_ratio_of : FnScope n_ratio_of p_ratio_of (defScope d_ratio_of.st) := sc_ok (by decide +kernel)
abbrev n_spacing : List PySem.Str := ["one", "other", "beside"]
abbrev p_spacing : List PySem.Str := ["one", "other"]
theorem s_spacing : FnScope n_spacing p_spacing (defScope d_spacing.st) := sc_ok (by decide +kernel)
abbrev n_plus : List PySem.Str := ["one", "other"]
abbrev p_plus : List PySem.Str := ["one", "other"]
theorem s_plus : FnScope n_plus p_plus (defScope d_plus.st) := sc_ok (by decide +kernel)
abbrev n_minus : List PySem.Str := ["one", "other"]
abbrev p_minus : List PySem.Str := ["one", "other"]
theorem s_minus : FnScope n_minus p_minus (defScope d_minus.st) := sc_ok (by decide +kernel)
abbrev n_times : List PySem.Str := ["one", "other"]
abbrev p_times : List PySem.Str := ["one", "other"]
theorem s_times : FnScope n_times p_times (defScope d_times.st) := sc_ok (by decide +kernel)
abbrev n__law_pot : List PySem.Str := ["_law_script", "_law_k", "_law_cell", "_law_own", "_law_small"]
abbrev p__law_pot : List PySem.Str := ["_law_script", "_law_k"]
theorem s__law_pot : FnScope n__law_pot p__law_pot (defScope d__law_pot.st) := sc_ok (by decide +kernel)
abbrev n__law_take : List PySem.Str := ["_law_pot_here", "_law_upto", "_law_prime", "_law_mixed", "_law_digit"]
abbrev p__law_take : List PySem.Str := ["_law_pot_here", "_law_upto"]
theorem s__law_take : FnScope n__law_take p__law_take (defScope d__law_take.st) := sc_ok (by decide +kernel)
abbrev n__law_of : List PySem.Str := ["_law_pot_here", "_law_some"]
abbrev p__law_of : List PySem.Str := ["_law_pot_here", "_law_some"]
theorem s__law_of : FnScope n__law_of p__law_of (defScope d__law_of.st) := sc_ok (by decide +kernel)
abbrev n__law_frac : List PySem.Str := ["_law_num", "_law_den", "_law_one", "_law_other"]
abbrev p__law_frac : List PySem.Str := ["_law_num", "_law_den"]
theorem s__law_frac : FnScope n__law_frac p__law_frac (defScope d__law_frac.st) := sc_ok (by decide +kernel)
abbrev n__law_plus : List PySem.Str := ["_law_one", "_law_other"]
abbrev p__law_plus : List PySem.Str := ["_law_one", "_law_other"]
theorem s__law_plus : FnScope n__law_plus p__law_plus (defScope d__law_plus.st) := sc_ok (by decide +kernel)
abbrev n__law_ratio : List PySem.Str := ["_law_pair"]
abbrev p__law_ratio : List PySem.Str := ["_law_pair"]
theorem s__law_ratio : FnScope n__law_ratio p__law_ratio (defScope d__law_ratio.st) := sc_ok (by decide +kernel)
abbrev n__law_drawn_pair : List PySem.Str := ["_law_pot_here", "_law_den", "_law_some"]
abbrev p__law_drawn_pair : List PySem.Str := ["_law_pot_here"]
theorem s__law_drawn_pair : FnScope n__law_drawn_pair p__law_drawn_pair (defScope d__law_drawn_pair.st) := sc_ok (by decide +kernel)
abbrev n__law_is_ratio : List PySem.Str := ["_law_value", "_law_pair"]
abbrev p__law_is_ratio : List PySem.Str := ["_law_value", "_law_pair"]
theorem s__law_is_ratio : FnScope n__law_is_ratio p__law_is_ratio (defScope d__law_is_ratio.st) := sc_ok (by decide +kernel)
abbrev n__law_is_before : List PySem.Str := ["_law_one", "_law_other"]
abbrev p__law_is_before : List PySem.Str := ["_law_one", "_law_other"]
theorem s__law_is_before : FnScope n__law_is_before p__law_is_before (defScope d__law_is_before.st) := sc_ok (by decide +kernel)
abbrev n__law_laid : List PySem.Str := ["_law_pairs", "_law_found", "_law_pair", "_law_at"]
abbrev p__law_laid : List PySem.Str := ["_law_pairs"]
theorem s__law_laid : FnScope n__law_laid p__law_laid (defScope d__law_laid.st) := sc_ok (by decide +kernel)
abbrev n__law_told_laid : List PySem.Str := ["_law_numbers", "_law_found", "_law_number", "_law_at"]
abbrev p__law_told_laid : List PySem.Str := ["_law_numbers"]
theorem s__law_told_laid : FnScope n__law_told_laid p__law_told_laid (defScope d__law_told_laid.st) := sc_ok (by decide +kernel)
abbrev n__law_right : List PySem.Str := ["_law_pot_here", "_law_pairs", "_law_numbers", "_law_by", "_law_laid_here", "_law_shift", "_law_one", "_law_other", "_law_space", "_law_turn", "_law_pair", "_law_number"]
abbrev p__law_right : List PySem.Str := ["_law_pot_here"]
theorem s__law_right : FnScope n__law_right p__law_right (defScope d__law_right.st) := sc_ok (by decide +kernel)
abbrev n_law : List PySem.Str := ["_law_script", "_law_k", "_law_pot_here", "_law_turn"]
abbrev p_law : List PySem.Str := ["_law_script"]
theorem s_law : FnScope n_law p_law (defScope d_law.st) := sc_ok (by decide +kernel)
abbrev n_HoverError___init__ : List PySem.Str := ["self", "value"]
abbrev p_HoverError___init__ : List PySem.Str := ["self", "value"]
abbrev n_Ratio___init__ : List PySem.Str := ["self", "number", "under", "common"]
abbrev p_Ratio___init__ : List PySem.Str := ["self", "number", "under"]
theorem s_Ratio___init__ : FnScope n_Ratio___init__ p_Ratio___init__ (defScope d_Ratio___init__.st) := sc_ok (by decide +kernel)
abbrev n_Ratio_number : List PySem.Str := ["self"]
abbrev p_Ratio_number : List PySem.Str := ["self"]
theorem s_Ratio_number : FnScope n_Ratio_number p_Ratio_number (defScope d_Ratio_number.st) := sc_ok (by decide +kernel)
abbrev n_Ratio_under : List PySem.Str := ["self"]
abbrev p_Ratio_under : List PySem.Str := ["self"]
theorem s_Ratio_under : FnScope n_Ratio_under p_Ratio_under (defScope d_Ratio_under.st) := sc_ok (by decide +kernel)
abbrev n_Ratio_text : List PySem.Str := ["self"]
abbrev p_Ratio_text : List PySem.Str := ["self"]
theorem s_Ratio_text : FnScope n_Ratio_text p_Ratio_text (defScope d_Ratio_text.st) := sc_ok (by decide +kernel)
abbrev n_Ratio_of : List PySem.Str := ["text", "under", "found", "head", "more", "part"]
abbrev p_Ratio_of : List PySem.Str := ["text"]
theorem s_Ratio_of : FnScope n_Ratio_of p_Ratio_of (defScope d_Ratio_of.st) := sc_ok (by decide +kernel)
abbrev n_Ratio_halved : List PySem.Str := ["self"]
abbrev p_Ratio_halved : List PySem.Str := ["self"]
theorem s_Ratio_halved : FnScope n_Ratio_halved p_Ratio_halved (defScope d_Ratio_halved.st) := sc_ok (by decide +kernel)
abbrev n_Ratio___repr__ : List PySem.Str := ["self"]
abbrev p_Ratio___repr__ : List PySem.Str := ["self"]
theorem s_Ratio___repr__ : FnScope n_Ratio___repr__ p_Ratio___repr__ (defScope d_Ratio___repr__.st) := sc_ok (by decide +kernel)
abbrev n_Ratio___eq__ : List PySem.Str := ["self", "other"]
abbrev p_Ratio___eq__ : List PySem.Str := ["self", "other"]
theorem s_Ratio___eq__ : FnScope n_Ratio___eq__ p_Ratio___eq__ (defScope d_Ratio___eq__.st) := sc_ok (by decide +kernel)
abbrev n_Ratio___lt__ : List PySem.Str := ["self", "other"]
abbrev p_Ratio___lt__ : List PySem.Str := ["self", "other"]
theorem s_Ratio___lt__ : FnScope n_Ratio___lt__ p_Ratio___lt__ (defScope d_Ratio___lt__.st) := sc_ok (by decide +kernel)
abbrev n_Ratio___le__ : List PySem.Str := ["self", "other"]
abbrev p_Ratio___le__ : List PySem.Str := ["self", "other"]
theorem s_Ratio___le__ : FnScope n_Ratio___le__ p_Ratio___le__ (defScope d_Ratio___le__.st) := sc_ok (by decide +kernel)
abbrev n_Ratio___gt__ : List PySem.Str := ["self", "other"]
abbrev p_Ratio___gt__ : List PySem.Str := ["self", "other"]
theorem s_Ratio___gt__ : FnScope n_Ratio___gt__ p_Ratio___gt__ (defScope d_Ratio___gt__.st) := sc_ok (by decide +kernel)
abbrev n_Ratio___ge__ : List PySem.Str := ["self", "other"]
abbrev p_Ratio___ge__ : List PySem.Str := ["self", "other"]
theorem s_Ratio___ge__ : FnScope n_Ratio___ge__ p_Ratio___ge__ (defScope d_Ratio___ge__.st) := sc_ok (by decide +kernel)
abbrev n_Ratio___neg__ : List PySem.Str := ["self"]
abbrev p_Ratio___neg__ : List PySem.Str := ["self"]
theorem s_Ratio___neg__ : FnScope n_Ratio___neg__ p_Ratio___neg__ (defScope d_Ratio___neg__.st) := sc_ok (by decide +kernel)
abbrev n_Ratio___abs__ : List PySem.Str := ["self"]
abbrev p_Ratio___abs__ : List PySem.Str := ["self"]
theorem s_Ratio___abs__ : FnScope n_Ratio___abs__ p_Ratio___abs__ (defScope d_Ratio___abs__.st) := sc_ok (by decide +kernel)
abbrev n_Ratio___add__ : List PySem.Str := ["self", "other"]
abbrev p_Ratio___add__ : List PySem.Str := ["self", "other"]
theorem s_Ratio___add__ : FnScope n_Ratio___add__ p_Ratio___add__ (defScope d_Ratio___add__.st) := sc_ok (by decide +kernel)
abbrev n_Ratio___radd__ : List PySem.Str := ["self", "other"]
abbrev p_Ratio___radd__ : List PySem.Str := ["self", "other"]
theorem s_Ratio___radd__ : FnScope n_Ratio___radd__ p_Ratio___radd__ (defScope d_Ratio___radd__.st) := sc_ok (by decide +kernel)
abbrev n_Ratio___sub__ : List PySem.Str := ["self", "other"]
abbrev p_Ratio___sub__ : List PySem.Str := ["self", "other"]
theorem s_Ratio___sub__ : FnScope n_Ratio___sub__ p_Ratio___sub__ (defScope d_Ratio___sub__.st) := sc_ok (by decide +kernel)
abbrev n_Ratio___rsub__ : List PySem.Str := ["self", "other"]
abbrev p_Ratio___rsub__ : List PySem.Str := ["self", "other"]
theorem s_Ratio___rsub__ : FnScope n_Ratio___rsub__ p_Ratio___rsub__ (defScope d_Ratio___rsub__.st) := sc_ok (by decide +kernel)
abbrev n_Ratio___mul__ : List PySem.Str := ["self", "other"]
abbrev p_Ratio___mul__ : List PySem.Str := ["self", "other"]
theorem s_Ratio___mul__ : FnScope n_Ratio___mul__ p_Ratio___mul__ (defScope d_Ratio___mul__.st) := sc_ok (by decide +kernel)
abbrev n_Ratio___rmul__ : List PySem.Str := ["self", "other"]
abbrev p_Ratio___rmul__ : List PySem.Str := ["self", "other"]
theorem s_Ratio___rmul__ : FnScope n_Ratio___rmul__ p_Ratio___rmul__ (defScope d_Ratio___rmul__.st) := sc_ok (by decide +kernel)
def fn : List De := [d_is_integer, d_common_divisor, d_is_figures, d_is_number, d_ratio_of, d_spacing, d_plus, d_minus, d_times, d__law_pot, d__law_take, d__law_of, d__law_frac, d__law_plus, d__law_ratio, d__law_drawn_pair, d__law_is_ratio, d__law_is_before, d__law_laid, d__law_told_laid, d__law_right, d_law, d_HoverError___init__, d_Ratio___init__, d_Ratio_number, d_Ratio_under, d_Ratio_text, d_Ratio_of, d_Ratio_halved, d_Ratio___repr__, d_Ratio___eq__, d_Ratio___lt__, d_Ratio___le__, d_Ratio___gt__, d_Ratio___ge__, d_Ratio___neg__, d_Ratio___abs__, d_Ratio___add__, d_Ratio___radd__, d_Ratio___sub__, d_Ratio___rsub__, d_Ratio___mul__, d_Ratio___rmul__]
def fb : List Fb := [.fa (.free "abs"),
  .fa (.free "all"),
  .fa (.free "any"),
  .fa (.free "bool"),
  .fa (.free "dict"),
  .fa (.free "enumerate"),
  .fa (.free "int"),
  .fa (.free "isinstance"),
  .fa (.free "len"),
  .fa (.free "list"),
  .fa (.free "max"),
  .fa (.free "min"),
  .fa (.free "range"),
  .fa (.free "repr"),
  .fa (.free "reversed"),
  .fa (.free "sorted"),
  .fa (.free "str"),
  .fa (.free "sum"),
  .fa (.free "tuple"),
  .fa (.free "type"),
  .fa (.free "zip"),
  .fa (.free "NotImplemented"),
  .fa (.glo "is_integer"),
  .fa (.glo "common_divisor"),
  .fa (.glo "is_figures"),
  .fa (.glo "is_number"),
  .fa (.glo "ratio_of"),
  .fa (.glo "spacing"),
  .fa (.glo "plus"),
  .fa (.glo "minus"),
  .fa (.glo "times"),
  .fa (.glo "_law_pot"),
  .fa (.glo "_law_take"),
  .fa (.glo "_law_of"),
  .fa (.glo "_law_frac"),
  .fa (.glo "_law_plus"),
  .fa (.glo "_law_ratio"),
  .fa (.glo "_law_drawn_pair"),
  .fa (.glo "_law_is_ratio"),
  .fa (.glo "_law_is_before"),
  .fa (.glo "_law_laid"),
  .fa (.glo "_law_told_laid"),
  .fa (.glo "_law_right"),
  .fa (.glo "law"),
  .fa (.str "DIGITS" "0123456789"),
  .fa (.int "MOST_SIGNS" 1802),
  .fa (.glo "Ratio"),
  .num "Ratio",
  .slot "Ratio" "above" 0,
  .slot "Ratio" "below" 1,
  .fa (.mkr "Ratio"),
  .prop "Ratio" "number",
  .prop "Ratio" "under",
  .prop "Ratio" "text",
  .stat "Ratio" "of",
  .fa (.meth "Ratio" "halved"),
  .fa (.meth "Ratio" "__repr__"),
  .fa (.meth "Ratio" "__eq__"),
  .fa (.meth "Ratio" "__lt__"),
  .fa (.meth "Ratio" "__le__"),
  .fa (.meth "Ratio" "__gt__"),
  .fa (.meth "Ratio" "__ge__"),
  .fa (.meth "Ratio" "__neg__"),
  .fa (.meth "Ratio" "__abs__"),
  .fa (.meth "Ratio" "__add__"),
  .fa (.meth "Ratio" "__radd__"),
  .fa (.meth "Ratio" "__sub__"),
  .fa (.meth "Ratio" "__rsub__"),
  .fa (.meth "Ratio" "__mul__"),
  .fa (.meth "Ratio" "__rmul__")]
def ex (K : PySem.W.Frag) : Bool := allB fb K && csB K [He.ga K "Ratio"]
abbrev R : PySem.W.OpenRow := PySem.W.OpenLaw.row PySem.Challenge.rw_hoverrest_k11_whole_ratios_in_sequence
abbrev hk : PySem.W.Hook := hookG 5 ex fn
def ob (s : PySem.W.SharedT) : Al := obsG 5 ex fn (HandSHeadRun.getT s)
theorem ob_eq (s : PySem.W.SharedT) : ob s = hk.obs s.abs := obsG_eq (HandSHeadRun.getT_eq s)
def loose0 : List PySem.Str := ["HoverError", "BadRatio", "BadText", "DIGITS", "MOST_SIGNS", "is_integer", "common_divisor", "is_figures", "Ratio", "is_number", "ratio_of", "spacing", "plus", "minus", "times", "_law_pot", "_law_take", "_law_of", "_law_frac", "_law_plus", "_law_ratio", "_law_drawn_pair", "_law_is_ratio", "_law_is_before", "_law_laid", "_law_told_laid", "_law_right"]
def loose : List PySem.Str := loose0
theorem run (w : World) : HandSHeadRun.RunEq R (PySem.W.view R.prog [30]) hk ob 4000 loose w := by
  intro os
  kernel_rfl
end HvT
/-! the program's Ratio: what each def promises -/
namespace HvP
open PySem PySem.Spec PyProof.Rows L2 Hv HvT SlX
local macro_rules | `(tactic| walk_at "hv name") => `(tactic| first
  | refine ev_var 0 (pv 0) rfl ?_ | refine ev_var 1 (pv 1) rfl ?_ | refine ev_var 2 (pv 2) rfl ?_ | refine ev_var 3 (pv 3) rfl ?_ | refine ev_var 4 (pv 4) rfl ?_
  | refine ev_var 5 (pv 5) rfl ?_ | refine ev_var 6 (pv 6) rfl ?_ | refine ev_var 7 (pv 7) rfl ?_ | refine ev_var 8 (pv 8) rfl ?_ | refine ev_var 9 (pv 9) rfl ?_
  | refine ev_var 10 (pv 10) rfl ?_ | refine ev_var 11 (pv 11) rfl ?_ | refine ev_var 12 (pv 12) rfl ?_ | refine ev_var 13 (pv 13) rfl ?_ | refine ev_var 14 (pv 14) rfl ?_)
local macro_rules | `(tactic| walk_at "hv hp") => `(tactic| first
  | with_reducible assumption
  | with_reducible exact upd_same
  | ((with_reducible refine' upd_keep ?a ?b); (case a => with_reducible assumption); (case b => walk_at "hv hp"))
  | ((with_reducible refine' Same.get ?a ?b); (case a => with_reducible assumption); (case b => walk_at "hv hp"))
  | ((with_reducible refine' ExB.gt ?a ?b ?c); (case a => with_reducible assumption); (case b => walk_at "hv hp"); (case c => walk_at "hv ne")))
local macro_rules | `(tactic| walk_at "hv ne") => `(tactic| first
  | assumption
  | (exact ne_of_none (by assumption) (by assumption))
  | (refine ne_of (by assumption) (by assumption) ?_; (intro hx; cases hx; done)))
local macro_rules | `(tactic| walk_at "hv same") => `(tactic| first
  | with_reducible assumption
  | with_reducible exact Same.refl _
  | ((with_reducible refine' Same.nw ?a ?b); (case a => with_reducible assumption); (case b => walk_at "hv same"))
  | ((with_reducible refine' Same.tr ?a ?b); (case a => with_reducible assumption); (case b => walk_at "hv same")))
local macro_rules | `(tactic| walk_at "hv exb") => `(tactic| first
  | with_reducible assumption
  | with_reducible exact ExB.refl _ _
  | ((with_reducible refine' ExB.nw ?a ?b); (case a => with_reducible assumption); (case b => walk_at "hv exb"))
  | ((with_reducible refine' ExB.trs ?a ?b); (case a => with_reducible assumption); (case b => walk_at "hv exb"))
  | ((with_reducible refine' ExB.tr ?a ?b); (case a => with_reducible assumption); (case b => walk_at "hv exb")))
local macro_rules | `(tactic| walk_at "hv sq") => `(tactic| first
  | assumption
  | exact .inl (by assumption)
  | exact .inr (by assumption)
  | ((with_reducible refine' SqL.of ?a); (case a => walk_at "hv hp"))
  | ((with_reducible refine' SqT.of ?a); (case a => walk_at "hv hp"))
  | ((with_reducible refine' Or.inl (SqL.of ?a)); (case a => walk_at "hv hp"))
  | ((with_reducible refine' Or.inr (SqT.of ?a)); (case a => walk_at "hv hp")))
local macro_rules | `(tactic| walk_at "hv op") => `(tactic| first
  | with_reducible refine ov_add ?_ | with_reducible refine ov_sub ?_ | ((with_reducible refine ov_mul ?h ?_); (case h => first | assumption | (walk_at "hv side"))) | ((with_reducible refine ov_mod ?h ?_); (case h => first | assumption | omega | (walk_at "hv side"))) | ((with_reducible refine ov_div ?h ?_); (case h => first | assumption | (walk_at "hv side"))) | ((with_reducible refine ov_pow ?h ?_); (case h => first | assumption | (walk_at "hv side")))
  | with_reducible refine ov_lt ?_ | with_reducible refine ov_le ?_ | with_reducible refine ov_gt ?_ | with_reducible refine ov_ge ?_ | with_reducible refine ov_eq ?_ | with_reducible refine ov_ne ?_ | with_reducible refine ov_eqs ?_ | with_reducible refine ov_nes ?_
  | with_reducible refine uv_neg ?_ | with_reducible refine cv_abs ?_ | with_reducible refine cv_int ?_ | with_reducible refine cv_intb ?_ | with_reducible refine cv_boolb ?_ | ((with_reducible refine cv_max ?h ?_); (case h => rfl)) | ((with_reducible refine cv_min ?h ?_); (case h => rfl))
  | ((with_reducible refine' cv_len ?h ?_); (case h => walk_at "hv sq")) | ((with_reducible refine' iv_lst ?h ?g ?_); (case h => walk_at "hv sq"); (case g => rfl)) | ((with_reducible refine' iv_tup ?h ?g ?_); (case h => walk_at "hv sq"); (case g => rfl)))
local macro_rules | `(tactic| walk_at "hv blt") => `(tactic| first
  | refine ev_intc (by assumption) ?_ | refine ev_abs (by assumption) ?_ | refine ev_len (by assumption) ?_ | refine ev_isinst (by assumption) ?_ | refine ev_repr (by assumption) ?_ | refine ev_all (by assumption) ?_ | refine ev_any (by assumption) ?_
  | refine ev_max (by assumption) ?_ | refine ev_min (by assumption) ?_ | refine ev_boolc (by assumption) ?_ | refine ev_sorted (by assumption) ?_ | refine ev_listc (by assumption) ?_ | refine ev_strc (by assumption) ?_ | refine ev_tuplec (by assumption) ?_ | refine ev_dictc (by assumption) ?_ | refine ev_sum (by assumption) ?_)
local macro_rules | `(tactic| walk_at "hv nblt") => `(tactic| first
  | refine ev_nint (by assumption) ?_ | refine ev_nbool (by assumption) ?_ | refine ev_nstr (by assumption) ?_ | refine ev_ndict (by assumption) ?_ | refine ev_nlist (by assumption) ?_ | refine ev_ntuple (by assumption) ?_)
local macro_rules | `(tactic| walk_at "hv one") => `(tactic| first
  | with_reducible refine bv_cons ?_ | ((with_reducible refine bv_id ?_); (refine bv_cons ?_)) | with_reducible refine bv_nil ?_ | with_reducible refine sv_ret ?_ | ((with_reducible refine sv_id ?_); (walk_at "hv set")) | with_reducible refine sv_if ?_ | ((with_reducible refine sv_expr ?_ ?h); (case h => rfl)) | ((with_reducible refine sv_slot ?_ ?h); (case h => rfl)) | ((with_reducible refine sv_seti ?_ ?a ?b ?c); (case a => (intro x; rfl)); (case b => rfl); (case c => rfl))
  | ((with_reducible refine ev_nm ?_); (first | walk_at "hv name" | walk_at "hv nblt"))
  | with_reducible refine ev_int ?_ | with_reducible refine ev_op ?_ | ((with_reducible refine ev_cmp ?_ ?h); (case h => first | exact nobehind _ (by decide) (by decide) | rfl))
  | ((with_reducible refine av_cons ?_ ?h); (case h => rfl)) | with_reducible refine av_nil ?_
  | with_reducible refine ev_str ?_ | with_reducible refine ev_bl ?_ | with_reducible refine ev_non ?_ | with_reducible refine ev_un ?_ | with_reducible refine ev_one ?_ | with_reducible refine ev_and ?_ | with_reducible refine ev_or ?_ | with_reducible refine ev_if ?_
  | with_reducible refine ev_tup ?_ | with_reducible refine ev_lst ?_ | ((with_reducible refine ev_ix ?h ?_); (case h => exact fun _ _ => rfl))
  | with_reducible refine tv_and ?_ | with_reducible refine tv_or ?_ | with_reducible refine tv_not ?_ | ((with_reducible refine tv_cmp ?_ ?h); (case h => first | exact nobehind _ (by decide) (by decide) | rfl)) | with_reducible refine wv_and ?_ | with_reducible refine wv_or ?_ | with_reducible refine wv_and1 ?_ | with_reducible refine wv_or1 ?_
  | walk_at "hv op"
  | ((with_reducible refine ev_cl ?_); (walk_at "hv blt"))
  | with_reducible refine ex_bl ?_ | with_reducible refine tru_bl ?_ | walk_at "hv ite"
  | ((with_reducible refine tv_val ?_ ?h); (case h => (intro x; rfl))))
local macro_rules | `(tactic| walk_at "hv loc") => `(tactic| first | exact .inl rfl | exact .inr rfl)
local macro_rules | `(tactic| walk_at "hv set") => `(tactic| first
  | refine sv_setS 0 rfl (by assumption) (by walk_at "hv loc") ?_ | refine sv_setS 1 rfl (by assumption) (by walk_at "hv loc") ?_ | refine sv_setS 2 rfl (by assumption) (by walk_at "hv loc") ?_ | refine sv_setS 3 rfl (by assumption) (by walk_at "hv loc") ?_
  | refine sv_setS 4 rfl (by assumption) (by walk_at "hv loc") ?_ | refine sv_setS 5 rfl (by assumption) (by walk_at "hv loc") ?_ | refine sv_setS 6 rfl (by assumption) (by walk_at "hv loc") ?_ | refine sv_setS 7 rfl (by assumption) (by walk_at "hv loc") ?_
  | refine sv_setS 8 rfl (by assumption) (by walk_at "hv loc") ?_ | refine sv_setS 9 rfl (by assumption) (by walk_at "hv loc") ?_ | refine sv_setS 10 rfl (by assumption) (by walk_at "hv loc") ?_ | refine sv_setS 11 rfl (by assumption) (by walk_at "hv loc") ?_)
local macro_rules | `(tactic| walk_at "hv dec") => `(tactic| first | assumption | rfl | omega | decide | (intro hz; cases hz; done))
local macro_rules | `(tactic| walk_at "hv ite") => `(tactic| first
  | with_reducible refine iteT ?_ | with_reducible refine iteF ?_ | with_reducible refine iteNF ?_ | with_reducible refine iteNT ?_
  | ((with_reducible refine ite_dec1 ?h ?_); (case h => walk_at "hv dec")) | ((with_reducible refine ite_dec0 ?h ?_); (case h => walk_at "hv dec"))
  | ((with_reducible refine ite_decN1 ?h ?_); (case h => walk_at "hv dec")) | ((with_reducible refine ite_decN0 ?h ?_); (case h => walk_at "hv dec")))
local macro_rules | `(tactic| walk_at "hv s") => `(tactic| (repeat (walk_at "hv one")))
abbrev CR (K : PySem.W.Frag) : Addr := He.ga K "Ratio"
abbrev RatO (K : PySem.W.Frag) (a dx : Addr) (n d : Int) : HO := SlO a (CR K) dx [some (.int n), some (.int d)]
def RatV (K : PySem.W.Frag) (H : Hp) (v : V) (q : Rat) : Prop := ∃ a dx, v = .ref a ∧ H a = some (RatO K a dx q.num q.den) ∧ H dx = some (.xd [])
section
variable {K : PySem.W.Frag} {H H' : Hp} {v : V} {q : Rat} {p : Addr} {xs : List V}
theorem RatV.slt (h : RatV K H v q) : ∃ a dx, v = .ref a ∧ Slt H a (CR K) dx [some (.int q.num), some (.int q.den)] :=
  let ⟨a, dx, e, h1, h2⟩ := h
  ⟨a, dx, e, .inr ⟨h1, h2⟩⟩
theorem RatV.same (h : RatV K H v q) (e : Same H H') : RatV K H' v q :=
  let ⟨a, dx, e1, h1, h2⟩ := h
  ⟨a, dx, e1, e _ _ h1, e _ _ h2⟩
theorem RatV.sm (e : Same H H') (h : RatV K H v q) : RatV K H' v q := h.same e
theorem RatV.nw {o : HO} (hp : H p = none) (h : RatV K H v q) : RatV K (upd H p o) v q := h.same (same_upd hp)
theorem RatV.exb (h : RatV K H v q) (hp : H p = some (.lst xs)) (e : ExB p H H') : RatV K H' v q :=
  let ⟨a, dx, e1, h1, h2⟩ := h
  ⟨a, dx, e1, e _ _ (ne_of h1 hp fun z => by cases z) h1, e _ _ (ne_of h2 hp fun z => by cases z) h2⟩
end
/-- what the written part says of Ratio; cs: the own classes that are told apart -/
structure RW (K : PySem.W.Frag) (mg : Str → Option Value) (cs : List Addr) : Prop where
  B : Blt mg
  num : NumC K (CR K)
  gl : mg "Ratio" = some (.ref (CR K))
  s0 : Slot1 K (CR K) "above" (He.ma K (CR K) "above") 0
  s1 : Slot1 K (CR K) "below" (He.ma K (CR K) "below") 1
  mak : Mk K (CR K) (He.ma K (CR K) "__init__")
  csk : Cs K cs
  mem : CR K ∈ cs
section
variable {P : Program} {w : World} {K : PySem.W.Frag} {mg : Str → Option Value} {base : Heap} {cs : List Addr} {f : Addr} {fd : FuncData}
abbrev FD (K : PySem.W.Frag) (d : De) (fd : FuncData) : Prop := FunD K d.name d.qual (defArgs d.st) (defBody d.st) (defScope d.st) (d.dvs K) (d.kws K) (d.at_ K) fd
theorem RW.kr (R : RW K mg cs) {H : Hp} {v : V} {q : Rat} (h : RatV K H v q) : HasK K cs H v (.own (CR K)) := by
  obtain ⟨a, dx, rfl, h2⟩ := h.slt
  exact .slt R.mem R.num.sc R.num.si h2
def sp_common_divisor : Sp := fun vs H Q _ => ∃ a b : Nat, vs = [.int a, .int b] ∧ Q (.int (Nat.gcd a b : Nat)) H
theorem ok_common_divisor (F : FD K d_common_divisor fd) : FnG P w K mg base 1 (d_common_divisor.at_ K) sp_common_divisor := by
  have S : FnScope ["one", "other"] ["one", "other"] (defScope d_common_divisor.st) := sc_ok (by decide +kernel)
  refine okG (dv := []) (ds := []) F S (FunD.bindsN F fun _ _ _ _ _ _ us hl => match us, hl with | [_, _], _ => rfl) .nil (fun vs H Q E h => ?_) (fun cdv A outer s H vs Q E hr h => ?_)
  · obtain ⟨a, b, rfl, _⟩ := h; rfl
  obtain ⟨a, b, rfl, q⟩ := h
  refine ex_bv ?_
  refine bv_cons ?_
  refine sv_while (passes_of rfl) (fun σ H' => H' = H ∧ ∃ x y : Nat, σ = [some (.int x), some (.int y)] ∧ Nat.gcd x y = Nat.gcd a b) (fun σ _ => match σ with | [_, some (.int y)] => y.toNat | _ => 0) ⟨rfl, a, b, rfl, rfl⟩ ?_
  rintro σ H' ⟨rfl, x, y, rfl, e⟩
  walk_at "hv s"
  refine ite_dec (fun hy => ?_) (fun hy => ?_)
  · refine bv_cons ?_
    refine sv_par 0 1 rfl S.nd rfl rfl (by decide) rfl rfl ?_
    walk_at "hv s"
    refine ⟨_, _, rfl, ?_⟩
    refine bv_nil ⟨⟨rfl, y, x % y, ?_, ?_⟩, ?_⟩
    · have : ((x : Int) % (y : Int)) = ((x % y : Nat) : Int) := (Int.natCast_emod x y).symm
      show [some (V.int y), some (V.int ((x : Int) % (y : Int)))] = _
      rw [this]
    · rw [← e, Nat.gcd_comm x y, Nat.gcd_rec y x, Nat.gcd_comm]
    · show ((x : Int) % (y : Int)).toNat < (y : Int).toNat
      have := Int.emod_lt_of_pos (x : Int) hy
      have := Int.emod_nonneg (x : Int) (Int.ne_of_gt hy)
      omega
  · walk_at "hv s"
    have : y = 0 := by omega
    subst this
    rw [Nat.gcd_zero_right] at e
    rw [e]
    exact q
def sp_is_integer (K : PySem.W.Frag) (cs : List Addr) : Sp := fun vs H Q _ => ∃ x k, vs = [x] ∧ HasK K cs H x k ∧ Q (.bl (decide (k = .int))) H
theorem int_k (k : Hv.Kind) : (if k.isT "int" = true then !k.isT "bool" else false) = decide (k = .int) := by cases k <;> rfl
theorem ok_is_integer (B : Blt mg) (c : Cs K cs) (F : FD K d_is_integer fd) : FnG P w K mg base 1 (d_is_integer.at_ K) (sp_is_integer K cs) := by
  have S : FnScope ["value"] ["value"] (defScope d_is_integer.st) := sc_ok (by decide +kernel)
  refine okG (dv := []) (ds := []) F S (FunD.bindsN F fun _ _ _ _ _ _ us hl => match us, hl with | [_], _ => rfl) .nil (fun vs H Q E h => ?_) (fun cdv A outer s H vs Q E hr h => ?_)
  · obtain ⟨a, b, rfl, _⟩ := h; rfl
  obtain ⟨x, k, rfl, hk, q⟩ := h
  refine ex_bv ?_
  walk_at "hv s"
  refine cv_isT c hk (by decide) ?_
  refine tru_bl ?_
  rw [← int_k] at q
  split
  · rename_i h1
    rw [if_pos h1] at q
    refine ev_one (ev_not ?_)
    walk_at "hv s"
    refine cv_isT c hk (by decide) ?_
    refine tru_bl ?_
    exact q
  · rename_i h1
    rw [if_neg h1] at q
    rw [Bool.eq_false_iff.mpr h1]
    exact q
theorem gf {d : De} {k : Nat} {sp : Sp} (F : FD K d fd) (hm : mg d.name = some (.ref (d.at_ K))) (h : FnG P w K mg base k (d.at_ K) sp) : GF P w K mg base k d.name sp := ⟨_, hm, F.kp, h⟩
/-- __init__: number, under, both ints, under not nought -/
def sp_init (K : PySem.W.Frag) : Sp := fun vs H Q _ => ∃ a dx n u, vs = [.ref a, .int n, .int u] ∧ Slt H a (CR K) dx [] ∧ dx ≠ a ∧ u ≠ 0 ∧ n.natAbs < 2 ^ 8000 ∧ u.natAbs < 2 ^ 8000 ∧
  Q .non (slH H a (CR K) dx [some (.int (Rat.divInt n u).num), some (.int (Rat.divInt n u).den)])
theorem divz {z : Int} {n u : Int} (h : u ≠ 0) (hu : u.natAbs < 2 ^ 8000) : CDivZ z (comm n u) :=
  ⟨comm_ne h, Nat.lt_of_lt_of_le (PySem.Flt.log2_lt_of (k := 8000) (by decide) (comm_lt h hu)) (by decide)⟩
theorem init_body (B : Blt mg) (R : RW K mg cs) (gi : GF P w K mg base 1 "is_integer" (sp_is_integer K cs)) (gc : GF P w K mg base 1 "common_divisor" sp_common_divisor)
    (S : FnScope ["self", "number", "under", "common"] ["self", "number", "under"] (defScope d_Ratio___init__.st)) (cdv : Value) (A : Around) (outer : List Env) (s : Shared) (H : Hp) (Q : VK) (E : XK)
    (hr : RoomG 1 (A.deeper (envOfC d_Ratio___init__.qual (defScope d_Ratio___init__.st) s.heap.objs.size (d_Ratio___init__.at_ K) cdv)))
    {a dx : Addr} {n u : Int} (hs : Slt H a (CR K) dx []) (hne : dx ≠ a) (hu : u ≠ 0) (b1 : n.natAbs < 2 ^ 8000) (b2 : u.natAbs < 2 ^ 8000) (q : Q .non (slH H a (CR K) dx [some (.int (Rat.divInt n u).num), some (.int (Rat.divInt n u).den)])) :
    ∃ t, PSs (cxOf (L2.CX P w) P w K mg base ["self", "number", "under", "common"] d_Ratio___init__.qual (defScope d_Ratio___init__.st) (d_Ratio___init__.at_ K) cdv A outer s H E) (defBody d_Ratio___init__.st) t ∧
      t { nx := fun _ H' => Q .non H', rt := Q } (start ["self", "number", "under", "common"] [.ref a, .int n, .int u]) H := by
  refine ex_bv ?_
  walk_at "hv s"
  refine ev_call gi hr (by decide) rfl passL ?_
  walk_at "hv s"
  refine ⟨_, .int, rfl, .int n, ?_⟩
  walk_at "hv s"
  refine ev_call gi hr (by decide) rfl passL ?_
  walk_at "hv s"
  refine ⟨_, .int, rfl, .int u, ?_⟩
  walk_at "hv s"
  refine ev_call gc hr (by decide) rfl passL ?_
  walk_at "hv s"
  refine ⟨_, _, rfl, ?_⟩
  walk_at "hv s"
  have fin : ∀ (D : Ends) (σ : L2.St), D.rt = Q → (D.nx = fun _ H' => Q .non H') → ∀ H' : Hp, H' = slH (slH H a (CR K) dx (putS 0 (.int (n.fdiv (comm n u))) [])) a (CR K) dx (putS 1 (.int (u.fdiv (comm n u))) (putS 0 (.int (n.fdiv (comm n u))) [])) → D.nx σ H' := by
    intro D σ _ e H' e2
    rw [e, e2, slH_twice hne, above_eq hu, below_eq hu]
    exact q
  refine ite_dec (fun h => ?_) (fun h => ?_)
  · have e : -((Nat.gcd n.natAbs u.natAbs : Nat) : Int) = comm n u := by unfold comm; rw [if_pos h]
    walk_at "hv s"
    rw [e]
    refine ov_fdiv (divz hu b2) ?_
    walk_at "hv s"
    refine ⟨a, _, dx, _, _, _, rfl, hs, R.num.sc, R.s0, ?_⟩
    walk_at "hv s"
    refine ov_fdiv (divz hu b2) ?_
    walk_at "hv s"
    refine ⟨a, _, dx, _, _, _, rfl, slH_slt hne, R.num.sc, R.s1, ?_⟩
    walk_at "hv s"
    exact fin { nx := fun _ H' => Q .non H', rt := Q } [] rfl rfl _ rfl
  · have e : ((Nat.gcd n.natAbs u.natAbs : Nat) : Int) = comm n u := by unfold comm; rw [if_neg h]
    walk_at "hv s"
    rw [e]
    refine ov_fdiv (divz hu b2) ?_
    walk_at "hv s"
    refine ⟨a, _, dx, _, _, _, rfl, hs, R.num.sc, R.s0, ?_⟩
    walk_at "hv s"
    refine ov_fdiv (divz hu b2) ?_
    walk_at "hv s"
    refine ⟨a, _, dx, _, _, _, rfl, slH_slt hne, R.num.sc, R.s1, ?_⟩
    walk_at "hv s"
    exact fin { nx := fun _ H' => Q .non H', rt := Q } [] rfl rfl _ rfl
theorem ok_init2 (B : Blt mg) (R : RW K mg cs) (gi : GF P w K mg base 1 "is_integer" (sp_is_integer K cs)) (gc : GF P w K mg base 1 "common_divisor" sp_common_divisor) (F : FD K d_Ratio___init__ fd) :
    FnG P w K mg base 2 (d_Ratio___init__.at_ K) (sp_init K) := by
  have S : FnScope ["self", "number", "under", "common"] ["self", "number", "under"] (defScope d_Ratio___init__.st) := sc_ok (by decide +kernel)
  obtain ⟨ds, hd, hb⟩ := FunD.binds1 (ps := ["self", "number", "under"]) F 3 1 (by intro z; cases z) rfl fun T kV doc pm an cdv ct us its h1 h2 => match us, its, h1, h2 with | [_, _, _], [_], _, _ => ⟨_, rfl, rfl⟩
  refine okG (dv := []) F S hb hd (fun vs H Q E h => ?_) (fun cdv A outer s H vs Q E hr h => ?_)
  · obtain ⟨_, _, _, _, rfl, _⟩ := h; rfl
  obtain ⟨a, dx, n, u, rfl, hs, hne, hu, b1, b2, q⟩ := h
  exact init_body B R gi gc S cdv A outer s H Q E hr hs hne hu b1 b2 q
def sp_init1 (K : PySem.W.Frag) : Sp := fun vs H Q _ => ∃ a dx n, vs = [.ref a, .int n] ∧ Slt H a (CR K) dx [] ∧ dx ≠ a ∧ n.natAbs < 2 ^ 8000 ∧
  Q .non (slH H a (CR K) dx [some (.int (n : Rat).num), some (.int (n : Rat).den)])
theorem ok_init1 (B : Blt mg) (R : RW K mg cs) (gi : GF P w K mg base 1 "is_integer" (sp_is_integer K cs)) (gc : GF P w K mg base 1 "common_divisor" sp_common_divisor) (F : FD K d_Ratio___init__ fd) :
    FnG P w K mg base 2 (d_Ratio___init__.at_ K) (sp_init1 K) := by
  have S : FnScope ["self", "number", "under", "common"] ["self", "number", "under"] (defScope d_Ratio___init__.st) := sc_ok (by decide +kernel)
  obtain ⟨ds, hd, hb⟩ := FunD.binds1 (ps := ["self", "number", "under"]) F 2 0 (by intro z; cases z) rfl fun T kV doc pm an cdv ct us its h1 h2 => match us, its, h1, h2 with | [_, _], [_], _, _ => ⟨_, rfl, rfl⟩
  refine okG (dv := [.int 1]) F S hb hd (fun vs H Q E h => ?_) (fun cdv A outer s H vs Q E hr h => ?_)
  · obtain ⟨_, _, _, rfl, _⟩ := h; rfl
  obtain ⟨a, dx, n, rfl, hs, hne, b1, q⟩ := h
  refine init_body B R gi gc S cdv A outer s H Q E hr hs hne (u := 1) (by decide) b1 (Nat.one_lt_two_pow (by decide)) ?_
  rw [show Rat.divInt n 1 = (n : Rat) from by rw [show (1 : Int) = ((1 : Nat) : Int) from rfl, Rat.divInt_ofNat, Rat.mkRat_one]]
  exact q
/-- Ratio(number, under) as a new thing -/
def sp_mk2 (K : PySem.W.Frag) : Sp := fun vs H Q _ => ∃ n u, vs = [.int n, .int u] ∧ u ≠ 0 ∧ n.natAbs < 2 ^ 8000 ∧ u.natAbs < 2 ^ 8000 ∧ ∀ v H', RatV K H' v (Rat.divInt n u) → Same H H' → Q v H'
def sp_mk1 (K : PySem.W.Frag) : Sp := fun vs H Q _ => ∃ n, vs = [.int n] ∧ n.natAbs < 2 ^ 8000 ∧ ∀ v H', RatV K H' v (n : Rat) → Same H H' → Q v H'
theorem made_same {H : Hp} {a dx C : Addr} {vs : List (Option V)} (ha : H a = none) (hd : H dx = none) (n : dx ≠ a) : Same H (slH (upd (upd H dx (.own a)) a (.ins C dx [])) a C dx vs) := fun b o e => by
  have h1 := ne_of_none e ha
  have h2 := ne_of_none e hd
  rw [slH_ne h1 h2, upd_ne h1, upd_ne h2]
  exact e
theorem made_rat {H : Hp} {a dx : Addr} {n d : Int} {q : Rat} (h : dx ≠ a) (e1 : q.num = n) (e2 : (q.den : Int) = d) : RatV K (slH H a (CR K) dx [some (.int n), some (.int d)]) (.ref a) q := by
  subst e1 e2
  exact ⟨a, dx, rfl, upd_same, by unfold slH; rw [upd_ne h, upd_same]⟩
theorem gm_mk2 (R : RW K mg cs) (h : FnG P w K mg base 2 (d_Ratio___init__.at_ K) (sp_init K)) : GM P w K mg base 2 "Ratio" (sp_mk2 K) := by
  refine ⟨_, _, _, R.gl, R.mak, h, ?_⟩
  rintro vs H Q E ⟨n, u, rfl, hu, b1, b2, q⟩ a dx ha hd hne
  exact ⟨a, dx, n, u, rfl, .inl ⟨upd_same, rfl⟩, hne, hu, b1, b2, rfl, q _ _ (made_rat hne rfl rfl) (made_same ha hd hne)⟩
theorem gm_mk1 (R : RW K mg cs) (h : FnG P w K mg base 2 (d_Ratio___init__.at_ K) (sp_init1 K)) : GM P w K mg base 2 "Ratio" (sp_mk1 K) := by
  refine ⟨_, _, _, R.gl, R.mak, h, ?_⟩
  rintro vs H Q E ⟨n, rfl, b1, q⟩ a dx ha hd hne
  exact ⟨a, dx, n, rfl, .inl ⟨upd_same, rfl⟩, hne, b1, rfl, q _ _ (made_rat hne rfl rfl) (made_same ha hd hne)⟩
section
variable {X : Cx} {e o a : Expr} {σ : L2.St} {H : Hp} {Q : VK} {pos : Pos}
theorem ev_above (R : RW X.K mg cs) (q : EV X o σ H fun x H1 => ∃ q, RatV X.K H1 x q ∧ Q (.int q.num) H1) (hb : attributeBase o "above" X.env (eval o X.env) = eval o X.env := by rfl) : EV X (.Attribute o "above" pos) σ H Q := by
  refine ev_slot (ev_mono q fun x H1 h => ?_) hb
  obtain ⟨q, hq, h⟩ := h
  obtain ⟨a, dx, rfl, hs⟩ := hq.slt
  exact ⟨a, _, dx, _, _, _, _, rfl, hs, R.num.sc, R.s0, rfl, h⟩
theorem ev_below (R : RW X.K mg cs) (q : EV X o σ H fun x H1 => ∃ q, RatV X.K H1 x q ∧ Q (.int q.den) H1) (hb : attributeBase o "below" X.env (eval o X.env) = eval o X.env := by rfl) : EV X (.Attribute o "below" pos) σ H Q := by
  refine ev_slot (ev_mono q fun x H1 h => ?_) hb
  obtain ⟨q, hq, h⟩ := h
  obtain ⟨a, dx, rfl, hs⟩ := hq.slt
  exact ⟨a, _, dx, _, _, _, _, rfl, hs, R.num.sc, R.s1, rfl, h⟩
end
/-- a number: an int or a Ratio -/
def NumV (K : PySem.W.Frag) (H : Hp) (v : V) (q : Rat) : Prop := (∃ i : Int, v = .int i ∧ q = (i : Rat)) ∨ RatV K H v q
theorem NumV.same {H H' : Hp} {v : V} {q : Rat} (h : NumV K H v q) (e : Same H H') : NumV K H' v q := h.imp id fun r => r.same e
def sp_is_number (K : PySem.W.Frag) (cs : List Addr) : Sp := fun vs H Q _ => ∃ x k, vs = [x] ∧ HasK K cs H x k ∧ Q (.bl (decide (k = .int ∨ k = .own (CR K)))) H
theorem ok_is_number (B : Blt mg) (R : RW K mg cs) (gi : GF P w K mg base 1 "is_integer" (sp_is_integer K cs)) (F : FD K d_is_number fd) : FnG P w K mg base 2 (d_is_number.at_ K) (sp_is_number K cs) := by
  have S : FnScope ["value"] ["value"] (defScope d_is_number.st) := sc_ok (by decide +kernel)
  refine okG (dv := []) (ds := []) F S (FunD.bindsN F fun _ _ _ _ _ _ us hl => match us, hl with | [_], _ => rfl) .nil (fun vs H Q E h => ?_) (fun cdv A outer s H vs Q E hr h => ?_)
  · obtain ⟨a, b, rfl, _⟩ := h; rfl
  obtain ⟨x, k, rfl, hk, q⟩ := h
  refine ex_bv ?_
  walk_at "hv s"
  refine ev_call gi hr (by decide) rfl passL ?_
  walk_at "hv s"
  refine ⟨x, k, rfl, hk, ?_⟩
  walk_at "hv s"
  refine ite_dec (fun h => ?_) (fun h => ?_)
  · rw [decide_eq_true (.inl h)] at q
    rw [decide_eq_true h]
    exact q
  · walk_at "hv s"
    refine ev_gl rfl R.gl (v := .ref (CR K)) rfl ?_
    walk_at "hv s"
    refine cv_isO R.csk hk R.mem ?_
    simpa [h] using q
def sp_ratio_of (K : PySem.W.Frag) : Sp := fun vs H Q _ => ∃ x q, vs = [x] ∧ NumV K H x q ∧ Sz 3000 q ∧ ∀ v H', RatV K H' v q → Same H H' → Q v H'
theorem ok_ratio_of (B : Blt mg) (R : RW K mg cs) (g1 : GM P w K mg base 2 "Ratio" (sp_mk1 K)) (F : FD K d_ratio_of fd) : FnG P w K mg base 4 (d_ratio_of.at_ K) (sp_ratio_of K) := by
  have S : FnScope ["number"] ["number"] (defScope d_ratio_of.st) := sc_ok (by decide +kernel)
  refine okG (dv := []) (ds := []) F S (FunD.bindsN F fun _ _ _ _ _ _ us hl => match us, hl with | [_], _ => rfl) .nil (fun vs H Q E h => ?_) (fun cdv A outer s H vs Q E hr h => ?_)
  · obtain ⟨a, b, rfl, _⟩ := h; rfl
  obtain ⟨x, q, rfl, hk, hz, h⟩ := h
  refine ex_bv ?_
  walk_at "hv s"
  rcases hk with ⟨i, rfl, rfl⟩ | hk
  · refine cv_isT R.csk (.int i) (by decide) ?_
    refine ex_bl ?_
    refine iteT ?_
    refine ev_make g1 hr (by decide) rfl passL ?_
    walk_at "hv s"
    exact ⟨_, rfl, Nat.lt_of_lt_of_le hz.1 (Nat.pow_le_pow_right (by decide) (by decide)), h⟩
  · refine cv_isT R.csk (R.kr hk) (by decide) ?_
    refine ex_bl ?_
    try refine iteF ?_
    walk_at "hv s"
    exact h _ _ hk (Same.refl _)
/-- two Ratios in, one out -/
def sp_rat2 (K : PySem.W.Frag) (g : Rat → Rat → Rat) : Sp := fun vs H Q _ => ∃ x y p q, vs = [x, y] ∧ RatV K H x p ∧ RatV K H y q ∧ Sz 3000 p ∧ Sz 3000 q ∧ ∀ v H', RatV K H' v (g p q) → Same H H' → Q v H'
def sp_spacing (K : PySem.W.Frag) : Sp := fun vs H Q _ => ∃ x y p q, vs = [x, y] ∧ RatV K H x p ∧ NumV K H y q ∧ Sz 3000 p ∧ Sz 3000 q ∧ ∀ H', Same H H' → Q (.int (p.num * q.den - q.num * p.den)) H'
/-- a Ratio and a number in, a Ratio out -/
def sp_ratn (K : PySem.W.Frag) (g : Rat → Rat → Rat) : Sp := fun vs H Q _ => ∃ x y p q, vs = [x, y] ∧ RatV K H x p ∧ NumV K H y q ∧ Sz 3000 p ∧ Sz 3000 q ∧ ∀ v H', RatV K H' v (g p q) → Same H H' → Q v H'
def sp_ratc (K : PySem.W.Frag) (g : Rat → Rat → Bool) : Sp := fun vs H Q _ => ∃ x y p q, vs = [x, y] ∧ RatV K H x p ∧ NumV K H y q ∧ Sz 3000 p ∧ Sz 3000 q ∧ ∀ H', Same H H' → Q (.bl (g p q)) H'
def sp_rat1 (K : PySem.W.Frag) (g : Rat → Rat) : Sp := fun vs H Q _ => ∃ x p, vs = [x] ∧ RatV K H x p ∧ Sz 3000 p ∧ ∀ v H', RatV K H' v (g p) → Same H H' → Q v H'
theorem m11 {p q : Rat} (hp : Sz 3000 p) (hq : Sz 3000 q) : CMulW p.num q.den := wide_mul hp.1 (den_abs hq) (by decide) (by decide) (by decide)
theorem m22 {p q : Rat} (hp : Sz 3000 p) (hq : Sz 3000 q) : CMulW p.num q.num := wide_mul hp.1 hq.1 (by decide) (by decide) (by decide)
theorem m33 {p q : Rat} (hp : Sz 3000 p) (hq : Sz 3000 q) : CMulW p.den q.den := wide_mul (den_abs hp) (den_abs hq) (by decide) (by decide) (by decide)
local macro_rules | `(tactic| walk_at "hv side") => `(tactic| first | exact m11 (by assumption) (by assumption) | exact m22 (by assumption) (by assumption) | exact m33 (by assumption) (by assumption))
local macro_rules | `(tactic| walk_at "hv rat") => `(tactic| first
  | assumption
  | ((with_reducible refine' RatV.nw ?a ?b); (case a => with_reducible assumption); (case b => walk_at "hv rat"))
  | ((with_reducible refine' RatV.sm ?a ?b); (case a => with_reducible assumption); (case b => walk_at "hv rat")))
local macro_rules | `(tactic| walk_at "hv fld") => `(tactic| first
  | ((refine ev_above (by assumption) ?_); (walk_at "hv name"); (refine ⟨_, by walk_at "hv rat", ?_⟩))
  | ((refine ev_below (by assumption) ?_); (walk_at "hv name"); (refine ⟨_, by walk_at "hv rat", ?_⟩)))
local macro_rules | `(tactic| walk_at "hv r") => `(tactic| (repeat (first | (walk_at "hv fld") | (walk_at "hv one"))))
theorem ok_plus (R : RW K mg cs) (g2 : GM P w K mg base 2 "Ratio" (sp_mk2 K)) (F : FD K d_plus fd) : FnG P w K mg base 4 (d_plus.at_ K) (sp_rat2 K fun p q => p + q) := by
  have S : FnScope ["one", "other"] ["one", "other"] (defScope d_plus.st) := sc_ok (by decide +kernel)
  refine okG (dv := []) (ds := []) F S (FunD.bindsN F fun _ _ _ _ _ _ us hl => match us, hl with | [_, _], _ => rfl) .nil (fun vs H Q E h => ?_) (fun cdv A outer s H vs Q E hr h => ?_)
  · obtain ⟨_, _, _, _, rfl, _⟩ := h; rfl
  obtain ⟨x, y, p, q, rfl, hx, hy, zp, zq, h⟩ := h
  refine ex_bv ?_
  walk_at "hv r"
  refine ev_make g2 hr (by decide) rfl passL ?_
  walk_at "hv r"
  refine ⟨_, _, rfl, den_mul_ne p q, up (add_num_lt zp zq) (by decide), up (dens_lt zp zq) (by decide), fun v H' hv e => ?_⟩
  rw [add_form] at hv
  exact h v H' hv e
theorem ok_minus (R : RW K mg cs) (g2 : GM P w K mg base 2 "Ratio" (sp_mk2 K)) (F : FD K d_minus fd) : FnG P w K mg base 4 (d_minus.at_ K) (sp_rat2 K fun p q => p - q) := by
  have S : FnScope ["one", "other"] ["one", "other"] (defScope d_minus.st) := sc_ok (by decide +kernel)
  refine okG (dv := []) (ds := []) F S (FunD.bindsN F fun _ _ _ _ _ _ us hl => match us, hl with | [_, _], _ => rfl) .nil (fun vs H Q E h => ?_) (fun cdv A outer s H vs Q E hr h => ?_)
  · obtain ⟨_, _, _, _, rfl, _⟩ := h; rfl
  obtain ⟨x, y, p, q, rfl, hx, hy, zp, zq, h⟩ := h
  refine ex_bv ?_
  walk_at "hv r"
  refine ev_make g2 hr (by decide) rfl passL ?_
  walk_at "hv r"
  refine ⟨_, _, rfl, den_mul_ne p q, up (sub_num_lt zp zq) (by decide), up (dens_lt zp zq) (by decide), fun v H' hv e => ?_⟩
  rw [sub_form] at hv
  exact h v H' hv e
theorem ok_times (R : RW K mg cs) (g2 : GM P w K mg base 2 "Ratio" (sp_mk2 K)) (F : FD K d_times fd) : FnG P w K mg base 4 (d_times.at_ K) (sp_rat2 K fun p q => p * q) := by
  have S : FnScope ["one", "other"] ["one", "other"] (defScope d_times.st) := sc_ok (by decide +kernel)
  refine okG (dv := []) (ds := []) F S (FunD.bindsN F fun _ _ _ _ _ _ us hl => match us, hl with | [_, _], _ => rfl) .nil (fun vs H Q E h => ?_) (fun cdv A outer s H vs Q E hr h => ?_)
  · obtain ⟨_, _, _, _, rfl, _⟩ := h; rfl
  obtain ⟨x, y, p, q, rfl, hx, hy, zp, zq, h⟩ := h
  refine ex_bv ?_
  walk_at "hv r"
  refine ev_make g2 hr (by decide) rfl passL ?_
  walk_at "hv r"
  refine ⟨_, _, rfl, den_mul_ne p q, up (mul_num_lt zp zq) (by decide), up (dens_lt zp zq) (by decide), fun v H' hv e => ?_⟩
  rw [mul_form] at hv
  exact h v H' hv e
theorem ok_spacing (R : RW K mg cs) (gr : GF P w K mg base 4 "ratio_of" (sp_ratio_of K)) (F : FD K d_spacing fd) : FnG P w K mg base 5 (d_spacing.at_ K) (sp_spacing K) := by
  have S : FnScope ["one", "other", "beside"] ["one", "other"] (defScope d_spacing.st) := sc_ok (by decide +kernel)
  refine okG (ps := ["one", "other"]) (dv := []) (ds := []) F S (FunD.bindsN F fun _ _ _ _ _ _ us hl => match us, hl with | [_, _], _ => rfl) .nil (fun vs H Q E h => ?_) (fun cdv A outer s H vs Q E hr h => ?_)
  · obtain ⟨_, _, _, _, rfl, _⟩ := h; rfl
  obtain ⟨x, y, p, q, rfl, hx, hy, zp, zq, h⟩ := h
  refine ex_bv ?_
  walk_at "hv r"
  refine ev_call gr hr (by decide) rfl passL ?_
  walk_at "hv r"
  refine ⟨_, _, rfl, hy, zq, fun v H1 hv e => ?_⟩
  walk_at "hv r"
  exact h _ e
theorem NumV.kind (R : RW K mg cs) {H : Hp} {v : V} {q : Rat} (h : NumV K H v q) : ∃ k, HasK K cs H v k ∧ (k = .int ∨ k = .own (CR K)) := by
  rcases h with ⟨i, rfl, _⟩ | h
  · exact ⟨_, .int i, .inl rfl⟩
  · exact ⟨_, R.kr h, .inr rfl⟩
theorem sp_is_num {H : Hp} {v : V} {q : Rat} {Q : VK} {E : XK} (R : RW K mg cs) (h : NumV K H v q) (hq : Q (.bl true) H) : sp_is_number K cs [v] H Q E := by
  obtain ⟨k, h1, h2⟩ := h.kind R
  refine ⟨v, k, rfl, h1, ?_⟩
  rw [decide_eq_true h2]
  exact hq
theorem ok_Ratio___add__ (R : RW K mg cs) (gn : GF P w K mg base 2 "is_number" (sp_is_number K cs)) (gr : GF P w K mg base 4 "ratio_of" (sp_ratio_of K)) (gp : GF P w K mg base 4 "plus" (sp_rat2 K fun p q => p + q)) (F : FD K d_Ratio___add__ fd) : FnG P w K mg base 6 (d_Ratio___add__.at_ K) (sp_ratn K fun p q => p + q) := by
  have S : FnScope ["self", "other"] ["self", "other"] (defScope d_Ratio___add__.st) := sc_ok (by decide +kernel)
  refine okG (dv := []) (ds := []) F S (FunD.bindsN F fun _ _ _ _ _ _ us hl => match us, hl with | [_, _], _ => rfl) .nil (fun vs H Q E h => ?_) (fun cdv A outer s H vs Q E hr h => ?_)
  · obtain ⟨_, _, _, _, rfl, _⟩ := h; rfl
  obtain ⟨x, y, p, q, rfl, hx, hy, zp, zq, h⟩ := h
  refine ex_bv ?_
  walk_at "hv r"
  refine ev_call gn hr (by decide) rfl passL ?_
  walk_at "hv r"
  refine sp_is_num R hy ?_
  walk_at "hv r"
  try refine iteF ?_
  walk_at "hv r"
  refine ev_call gp hr (by decide) rfl passL ?_
  walk_at "hv r"
  refine ev_call gr hr (by decide) rfl passL ?_
  walk_at "hv r"
  refine ⟨_, _, rfl, hy, zq, fun v H1 hv e => ?_⟩
  walk_at "hv r"
  exact ⟨_, _, _, _, rfl, hx.same e, hv, zp, zq, fun v H2 hv e2 => h v H2 hv (e.trans e2)⟩
theorem ok_Ratio___radd__ (R : RW K mg cs) (gn : GF P w K mg base 2 "is_number" (sp_is_number K cs)) (gr : GF P w K mg base 4 "ratio_of" (sp_ratio_of K)) (gp : GF P w K mg base 4 "plus" (sp_rat2 K fun p q => p + q)) (F : FD K d_Ratio___radd__ fd) : FnG P w K mg base 6 (d_Ratio___radd__.at_ K) (sp_ratn K fun p q => p + q) := by
  have S : FnScope ["self", "other"] ["self", "other"] (defScope d_Ratio___radd__.st) := sc_ok (by decide +kernel)
  refine okG (dv := []) (ds := []) F S (FunD.bindsN F fun _ _ _ _ _ _ us hl => match us, hl with | [_, _], _ => rfl) .nil (fun vs H Q E h => ?_) (fun cdv A outer s H vs Q E hr h => ?_)
  · obtain ⟨_, _, _, _, rfl, _⟩ := h; rfl
  obtain ⟨x, y, p, q, rfl, hx, hy, zp, zq, h⟩ := h
  refine ex_bv ?_
  walk_at "hv r"
  refine ev_call gn hr (by decide) rfl passL ?_
  walk_at "hv r"
  refine sp_is_num R hy ?_
  walk_at "hv r"
  try refine iteF ?_
  walk_at "hv r"
  refine ev_call gp hr (by decide) rfl passL ?_
  walk_at "hv r"
  refine ev_call gr hr (by decide) rfl passL ?_
  walk_at "hv r"
  refine ⟨_, _, rfl, hy, zq, fun v H1 hv e => ?_⟩
  walk_at "hv r"
  exact ⟨_, _, _, _, rfl, hx.same e, hv, zp, zq, fun v H2 hv e2 => h v H2 hv (e.trans e2)⟩
theorem ok_Ratio___sub__ (R : RW K mg cs) (gn : GF P w K mg base 2 "is_number" (sp_is_number K cs)) (gr : GF P w K mg base 4 "ratio_of" (sp_ratio_of K)) (gp : GF P w K mg base 4 "minus" (sp_rat2 K fun p q => p - q)) (F : FD K d_Ratio___sub__ fd) : FnG P w K mg base 6 (d_Ratio___sub__.at_ K) (sp_ratn K fun p q => p - q) := by
  have S : FnScope ["self", "other"] ["self", "other"] (defScope d_Ratio___sub__.st) := sc_ok (by decide +kernel)
  refine okG (dv := []) (ds := []) F S (FunD.bindsN F fun _ _ _ _ _ _ us hl => match us, hl with | [_, _], _ => rfl) .nil (fun vs H Q E h => ?_) (fun cdv A outer s H vs Q E hr h => ?_)
  · obtain ⟨_, _, _, _, rfl, _⟩ := h; rfl
  obtain ⟨x, y, p, q, rfl, hx, hy, zp, zq, h⟩ := h
  refine ex_bv ?_
  walk_at "hv r"
  refine ev_call gn hr (by decide) rfl passL ?_
  walk_at "hv r"
  refine sp_is_num R hy ?_
  walk_at "hv r"
  try refine iteF ?_
  walk_at "hv r"
  refine ev_call gp hr (by decide) rfl passL ?_
  walk_at "hv r"
  refine ev_call gr hr (by decide) rfl passL ?_
  walk_at "hv r"
  refine ⟨_, _, rfl, hy, zq, fun v H1 hv e => ?_⟩
  walk_at "hv r"
  exact ⟨_, _, _, _, rfl, hx.same e, hv, zp, zq, fun v H2 hv e2 => h v H2 hv (e.trans e2)⟩
theorem ok_Ratio___rsub__ (R : RW K mg cs) (gn : GF P w K mg base 2 "is_number" (sp_is_number K cs)) (gr : GF P w K mg base 4 "ratio_of" (sp_ratio_of K)) (gp : GF P w K mg base 4 "minus" (sp_rat2 K fun p q => p - q)) (F : FD K d_Ratio___rsub__ fd) : FnG P w K mg base 6 (d_Ratio___rsub__.at_ K) (sp_ratn K fun p q => q - p) := by
  have S : FnScope ["self", "other"] ["self", "other"] (defScope d_Ratio___rsub__.st) := sc_ok (by decide +kernel)
  refine okG (dv := []) (ds := []) F S (FunD.bindsN F fun _ _ _ _ _ _ us hl => match us, hl with | [_, _], _ => rfl) .nil (fun vs H Q E h => ?_) (fun cdv A outer s H vs Q E hr h => ?_)
  · obtain ⟨_, _, _, _, rfl, _⟩ := h; rfl
  obtain ⟨x, y, p, q, rfl, hx, hy, zp, zq, h⟩ := h
  refine ex_bv ?_
  walk_at "hv r"
  refine ev_call gn hr (by decide) rfl passL ?_
  walk_at "hv r"
  refine sp_is_num R hy ?_
  walk_at "hv r"
  try refine iteF ?_
  walk_at "hv r"
  refine ev_call gp hr (by decide) rfl passL ?_
  walk_at "hv r"
  refine ev_call gr hr (by decide) rfl passL ?_
  walk_at "hv r"
  refine ⟨_, _, rfl, hy, zq, fun v H1 hv e => ?_⟩
  walk_at "hv r"
  exact ⟨_, _, _, _, rfl, hv, hx.same e, zq, zp, fun v H2 hv e2 => h v H2 hv (e.trans e2)⟩
theorem ok_Ratio___mul__ (R : RW K mg cs) (gn : GF P w K mg base 2 "is_number" (sp_is_number K cs)) (gr : GF P w K mg base 4 "ratio_of" (sp_ratio_of K)) (gp : GF P w K mg base 4 "times" (sp_rat2 K fun p q => p * q)) (F : FD K d_Ratio___mul__ fd) : FnG P w K mg base 6 (d_Ratio___mul__.at_ K) (sp_ratn K fun p q => p * q) := by
  have S : FnScope ["self", "other"] ["self", "other"] (defScope d_Ratio___mul__.st) := sc_ok (by decide +kernel)
  refine okG (dv := []) (ds := []) F S (FunD.bindsN F fun _ _ _ _ _ _ us hl => match us, hl with | [_, _], _ => rfl) .nil (fun vs H Q E h => ?_) (fun cdv A outer s H vs Q E hr h => ?_)
  · obtain ⟨_, _, _, _, rfl, _⟩ := h; rfl
  obtain ⟨x, y, p, q, rfl, hx, hy, zp, zq, h⟩ := h
  refine ex_bv ?_
  walk_at "hv r"
  refine ev_call gn hr (by decide) rfl passL ?_
  walk_at "hv r"
  refine sp_is_num R hy ?_
  walk_at "hv r"
  try refine iteF ?_
  walk_at "hv r"
  refine ev_call gp hr (by decide) rfl passL ?_
  walk_at "hv r"
  refine ev_call gr hr (by decide) rfl passL ?_
  walk_at "hv r"
  refine ⟨_, _, rfl, hy, zq, fun v H1 hv e => ?_⟩
  walk_at "hv r"
  exact ⟨_, _, _, _, rfl, hx.same e, hv, zp, zq, fun v H2 hv e2 => h v H2 hv (e.trans e2)⟩
theorem ok_Ratio___rmul__ (R : RW K mg cs) (gn : GF P w K mg base 2 "is_number" (sp_is_number K cs)) (gr : GF P w K mg base 4 "ratio_of" (sp_ratio_of K)) (gp : GF P w K mg base 4 "times" (sp_rat2 K fun p q => p * q)) (F : FD K d_Ratio___rmul__ fd) : FnG P w K mg base 6 (d_Ratio___rmul__.at_ K) (sp_ratn K fun p q => p * q) := by
  have S : FnScope ["self", "other"] ["self", "other"] (defScope d_Ratio___rmul__.st) := sc_ok (by decide +kernel)
  refine okG (dv := []) (ds := []) F S (FunD.bindsN F fun _ _ _ _ _ _ us hl => match us, hl with | [_, _], _ => rfl) .nil (fun vs H Q E h => ?_) (fun cdv A outer s H vs Q E hr h => ?_)
  · obtain ⟨_, _, _, _, rfl, _⟩ := h; rfl
  obtain ⟨x, y, p, q, rfl, hx, hy, zp, zq, h⟩ := h
  refine ex_bv ?_
  walk_at "hv r"
  refine ev_call gn hr (by decide) rfl passL ?_
  walk_at "hv r"
  refine sp_is_num R hy ?_
  walk_at "hv r"
  try refine iteF ?_
  walk_at "hv r"
  refine ev_call gp hr (by decide) rfl passL ?_
  walk_at "hv r"
  refine ev_call gr hr (by decide) rfl passL ?_
  walk_at "hv r"
  refine ⟨_, _, rfl, hy, zq, fun v H1 hv e => ?_⟩
  walk_at "hv r"
  exact ⟨_, _, _, _, rfl, hx.same e, hv, zp, zq, fun v H2 hv e2 => h v H2 hv (e.trans e2)⟩
theorem sp_lt {p q : Rat} : (p.num * q.den - q.num * p.den < 0) = (p < q) := by
  rw [Rat.lt_iff]
  exact propext ⟨fun h => by omega, fun h => by omega⟩
theorem sp_le {p q : Rat} : (p.num * q.den - q.num * p.den ≤ 0) = (p ≤ q) := by
  rw [Rat.le_iff]
  exact propext ⟨fun h => by omega, fun h => by omega⟩
theorem sp_gt {p q : Rat} : (0 < p.num * q.den - q.num * p.den) = (q < p) := by
  rw [Rat.lt_iff]
  exact propext ⟨fun h => by omega, fun h => by omega⟩
theorem sp_ge {p q : Rat} : (0 ≤ p.num * q.den - q.num * p.den) = (q ≤ p) := by
  rw [Rat.le_iff]
  exact propext ⟨fun h => by omega, fun h => by omega⟩
theorem dec_of {a b : Prop} [Decidable a] [Decidable b] (e : a = b) : decide a = decide b := decide_eq_decide.mpr (by rw [e])
theorem ok_Ratio___lt__ (R : RW K mg cs) (gn : GF P w K mg base 2 "is_number" (sp_is_number K cs)) (gs : GF P w K mg base 5 "spacing" (sp_spacing K)) (F : FD K d_Ratio___lt__ fd) : FnG P w K mg base 6 (d_Ratio___lt__.at_ K) (sp_ratc K fun p q => decide (p < q)) := by
  have S : FnScope ["self", "other"] ["self", "other"] (defScope d_Ratio___lt__.st) := sc_ok (by decide +kernel)
  refine okG (dv := []) (ds := []) F S (FunD.bindsN F fun _ _ _ _ _ _ us hl => match us, hl with | [_, _], _ => rfl) .nil (fun vs H Q E h => ?_) (fun cdv A outer s H vs Q E hr h => ?_)
  · obtain ⟨_, _, _, _, rfl, _⟩ := h; rfl
  obtain ⟨x, y, p, q, rfl, hx, hy, zp, zq, h⟩ := h
  refine ex_bv ?_
  walk_at "hv r"
  refine ev_call gn hr (by decide) rfl passL ?_
  walk_at "hv r"
  refine sp_is_num R hy ?_
  walk_at "hv r"
  try refine iteF ?_
  walk_at "hv r"
  refine ev_call gs hr (by decide) rfl passL ?_
  walk_at "hv r"
  refine ⟨_, _, _, _, rfl, hx, hy, zp, zq, fun H1 e => ?_⟩
  walk_at "hv r"
  rw [dec_of sp_lt]
  exact h _ e
theorem ok_Ratio___le__ (R : RW K mg cs) (gn : GF P w K mg base 2 "is_number" (sp_is_number K cs)) (gs : GF P w K mg base 5 "spacing" (sp_spacing K)) (F : FD K d_Ratio___le__ fd) : FnG P w K mg base 6 (d_Ratio___le__.at_ K) (sp_ratc K fun p q => decide (p ≤ q)) := by
  have S : FnScope ["self", "other"] ["self", "other"] (defScope d_Ratio___le__.st) := sc_ok (by decide +kernel)
  refine okG (dv := []) (ds := []) F S (FunD.bindsN F fun _ _ _ _ _ _ us hl => match us, hl with | [_, _], _ => rfl) .nil (fun vs H Q E h => ?_) (fun cdv A outer s H vs Q E hr h => ?_)
  · obtain ⟨_, _, _, _, rfl, _⟩ := h; rfl
  obtain ⟨x, y, p, q, rfl, hx, hy, zp, zq, h⟩ := h
  refine ex_bv ?_
  walk_at "hv r"
  refine ev_call gn hr (by decide) rfl passL ?_
  walk_at "hv r"
  refine sp_is_num R hy ?_
  walk_at "hv r"
  try refine iteF ?_
  walk_at "hv r"
  refine ev_call gs hr (by decide) rfl passL ?_
  walk_at "hv r"
  refine ⟨_, _, _, _, rfl, hx, hy, zp, zq, fun H1 e => ?_⟩
  walk_at "hv r"
  rw [dec_of sp_le]
  exact h _ e
theorem ok_Ratio___gt__ (R : RW K mg cs) (gn : GF P w K mg base 2 "is_number" (sp_is_number K cs)) (gs : GF P w K mg base 5 "spacing" (sp_spacing K)) (F : FD K d_Ratio___gt__ fd) : FnG P w K mg base 6 (d_Ratio___gt__.at_ K) (sp_ratc K fun p q => decide (q < p)) := by
  have S : FnScope ["self", "other"] ["self", "other"] (defScope d_Ratio___gt__.st) := sc_ok (by decide +kernel)
  refine okG (dv := []) (ds := []) F S (FunD.bindsN F fun _ _ _ _ _ _ us hl => match us, hl with | [_, _], _ => rfl) .nil (fun vs H Q E h => ?_) (fun cdv A outer s H vs Q E hr h => ?_)
  · obtain ⟨_, _, _, _, rfl, _⟩ := h; rfl
  obtain ⟨x, y, p, q, rfl, hx, hy, zp, zq, h⟩ := h
  refine ex_bv ?_
  walk_at "hv r"
  refine ev_call gn hr (by decide) rfl passL ?_
  walk_at "hv r"
  refine sp_is_num R hy ?_
  walk_at "hv r"
  try refine iteF ?_
  walk_at "hv r"
  refine ev_call gs hr (by decide) rfl passL ?_
  walk_at "hv r"
  refine ⟨_, _, _, _, rfl, hx, hy, zp, zq, fun H1 e => ?_⟩
  walk_at "hv r"
  rw [dec_of sp_gt]
  exact h _ e
theorem ok_Ratio___ge__ (R : RW K mg cs) (gn : GF P w K mg base 2 "is_number" (sp_is_number K cs)) (gs : GF P w K mg base 5 "spacing" (sp_spacing K)) (F : FD K d_Ratio___ge__ fd) : FnG P w K mg base 6 (d_Ratio___ge__.at_ K) (sp_ratc K fun p q => decide (q ≤ p)) := by
  have S : FnScope ["self", "other"] ["self", "other"] (defScope d_Ratio___ge__.st) := sc_ok (by decide +kernel)
  refine okG (dv := []) (ds := []) F S (FunD.bindsN F fun _ _ _ _ _ _ us hl => match us, hl with | [_, _], _ => rfl) .nil (fun vs H Q E h => ?_) (fun cdv A outer s H vs Q E hr h => ?_)
  · obtain ⟨_, _, _, _, rfl, _⟩ := h; rfl
  obtain ⟨x, y, p, q, rfl, hx, hy, zp, zq, h⟩ := h
  refine ex_bv ?_
  walk_at "hv r"
  refine ev_call gn hr (by decide) rfl passL ?_
  walk_at "hv r"
  refine sp_is_num R hy ?_
  walk_at "hv r"
  try refine iteF ?_
  walk_at "hv r"
  refine ev_call gs hr (by decide) rfl passL ?_
  walk_at "hv r"
  refine ⟨_, _, _, _, rfl, hx, hy, zp, zq, fun H1 e => ?_⟩
  walk_at "hv r"
  rw [dec_of sp_ge]
  exact h _ e
theorem ok_Ratio___neg__ (R : RW K mg cs) (g2 : GM P w K mg base 2 "Ratio" (sp_mk2 K)) (F : FD K d_Ratio___neg__ fd) : FnG P w K mg base 6 (d_Ratio___neg__.at_ K) (sp_rat1 K fun p => -p) := by
  have S : FnScope ["self"] ["self"] (defScope d_Ratio___neg__.st) := sc_ok (by decide +kernel)
  refine okG (dv := []) (ds := []) F S (FunD.bindsN F fun _ _ _ _ _ _ us hl => match us, hl with | [_], _ => rfl) .nil (fun vs H Q E h => ?_) (fun cdv A outer s H vs Q E hr h => ?_)
  · obtain ⟨_, _, rfl, _⟩ := h; rfl
  obtain ⟨x, p, rfl, hx, zp, h⟩ := h
  refine ex_bv ?_
  walk_at "hv r"
  refine ev_make g2 hr (by decide) rfl passL ?_
  walk_at "hv r"
  refine ⟨_, _, rfl, den_ne p, ?_, up (den_abs zp) (by decide), fun v H' hv e => ?_⟩
  · rw [Int.natAbs_neg]
    exact up zp.1 (by decide)
  · rw [← Rat.neg_divInt, Rat.num_divInt_den] at hv
    exact h v H' hv e
theorem ok_Ratio___abs__ (R : RW K mg cs) (g2 : GM P w K mg base 2 "Ratio" (sp_mk2 K)) (F : FD K d_Ratio___abs__ fd) : FnG P w K mg base 6 (d_Ratio___abs__.at_ K) (sp_rat1 K fun p => if p < 0 then -p else p) := by
  have S : FnScope ["self"] ["self"] (defScope d_Ratio___abs__.st) := sc_ok (by decide +kernel)
  refine okG (dv := []) (ds := []) F S (FunD.bindsN F fun _ _ _ _ _ _ us hl => match us, hl with | [_], _ => rfl) .nil (fun vs H Q E h => ?_) (fun cdv A outer s H vs Q E hr h => ?_)
  · obtain ⟨_, _, rfl, _⟩ := h; rfl
  obtain ⟨x, p, rfl, hx, zp, h⟩ := h
  have B := R.B
  refine ex_bv ?_
  walk_at "hv r"
  refine ev_make g2 hr (by decide) rfl passL ?_
  walk_at "hv r"
  refine ⟨_, _, rfl, den_ne p, ?_, up (den_abs zp) (by decide), fun v H' hv e => ?_⟩
  · exact up zp.1 (by decide)
  · refine h v H' ?_ e
    dsimp only
    split
    · rename_i hp
      have : p.num < 0 := Int.not_le.mp fun z => absurd hp (Rat.not_lt.mpr (Rat.num_nonneg.mp z))
      rw [show ((p.num.natAbs : Nat) : Int) = -p.num by omega, ← Rat.neg_divInt, Rat.num_divInt_den] at hv
      exact hv
    · rename_i hp
      have : 0 ≤ p.num := Rat.num_nonneg.mpr (Rat.not_lt.mp hp)
      rw [show ((p.num.natAbs : Nat) : Int) = p.num by omega, Rat.num_divInt_den] at hv
      exact hv
theorem ok_Ratio_halved (R : RW K mg cs) (g2 : GM P w K mg base 2 "Ratio" (sp_mk2 K)) (F : FD K d_Ratio_halved fd) : FnG P w K mg base 6 (d_Ratio_halved.at_ K) (sp_rat1 K fun p => p * Rat.divInt 1 2) := by
  have S : FnScope ["self"] ["self"] (defScope d_Ratio_halved.st) := sc_ok (by decide +kernel)
  refine okG (dv := []) (ds := []) F S (FunD.bindsN F fun _ _ _ _ _ _ us hl => match us, hl with | [_], _ => rfl) .nil (fun vs H Q E h => ?_) (fun cdv A outer s H vs Q E hr h => ?_)
  · obtain ⟨_, _, rfl, _⟩ := h; rfl
  obtain ⟨x, p, rfl, hx, zp, h⟩ := h
  refine ex_bv ?_
  walk_at "hv r"
  refine ev_make g2 hr (by decide) rfl passL ?_
  walk_at "hv r"
  refine ov_mul (wide_mul (a := 2) (b := 3000) (by decide) (den_abs zp) (by decide) (by decide) (by decide)) ?_
  walk_at "hv r"
  have := p.den_pos
  refine ⟨_, _, rfl, by omega, up zp.1 (by decide), up (abs_mul_lt (a := 2) (b := 3000) (by decide) (den_abs zp)) (by decide), fun v H' hv e => ?_⟩
  refine h v H' ?_ e
  dsimp only
  have e2 : p * Rat.divInt 1 2 = Rat.divInt p.num (2 * p.den) := by
    conv => lhs; lhs; rw [← Rat.num_divInt_den p]
    rw [Rat.divInt_mul_divInt, Int.mul_one, Int.mul_comm]
  rw [e2]
  exact hv
theorem ok_Ratio_number (R : RW K mg cs) (F : FD K d_Ratio_number fd) : FnG P w K mg base 1 (d_Ratio_number.at_ K) (fun vs H Q _ => ∃ x p, vs = [x] ∧ RatV K H x p ∧ Q (.int p.num) H) := by
  have S : FnScope ["self"] ["self"] (defScope d_Ratio_number.st) := sc_ok (by decide +kernel)
  refine okG (dv := []) (ds := []) F S (FunD.bindsN F fun _ _ _ _ _ _ us hl => match us, hl with | [_], _ => rfl) .nil (fun vs H Q E h => ?_) (fun cdv A outer s H vs Q E hr h => ?_)
  · obtain ⟨_, _, rfl, _⟩ := h; rfl
  obtain ⟨x, p, rfl, hx, h⟩ := h
  refine ex_bv ?_
  walk_at "hv r"
  exact h
theorem ok_Ratio_under (R : RW K mg cs) (F : FD K d_Ratio_under fd) : FnG P w K mg base 1 (d_Ratio_under.at_ K) (fun vs H Q _ => ∃ x p, vs = [x] ∧ RatV K H x p ∧ Q (.int (p.den : Int)) H) := by
  have S : FnScope ["self"] ["self"] (defScope d_Ratio_under.st) := sc_ok (by decide +kernel)
  refine okG (dv := []) (ds := []) F S (FunD.bindsN F fun _ _ _ _ _ _ us hl => match us, hl with | [_], _ => rfl) .nil (fun vs H Q E h => ?_) (fun cdv A outer s H vs Q E hr h => ?_)
  · obtain ⟨_, _, rfl, _⟩ := h; rfl
  obtain ⟨x, p, rfl, hx, h⟩ := h
  refine ex_bv ?_
  walk_at "hv r"
  exact h
end
end HvP
/-! the law's pots: what is drawn -/
namespace HvP
open PySem PySem.Spec PyProof.Rows L2 Hv HvT SlX
local macro_rules | `(tactic| walk_at "hv name") => `(tactic| first
  | refine ev_var 0 (pv 0) rfl ?_ | refine ev_var 1 (pv 1) rfl ?_ | refine ev_var 2 (pv 2) rfl ?_ | refine ev_var 3 (pv 3) rfl ?_ | refine ev_var 4 (pv 4) rfl ?_
  | refine ev_var 5 (pv 5) rfl ?_ | refine ev_var 6 (pv 6) rfl ?_ | refine ev_var 7 (pv 7) rfl ?_ | refine ev_var 8 (pv 8) rfl ?_ | refine ev_var 9 (pv 9) rfl ?_
  | refine ev_var 10 (pv 10) rfl ?_ | refine ev_var 11 (pv 11) rfl ?_ | refine ev_var 12 (pv 12) rfl ?_ | refine ev_var 13 (pv 13) rfl ?_ | refine ev_var 14 (pv 14) rfl ?_)
local macro_rules | `(tactic| walk_at "hv hp") => `(tactic| first
  | with_reducible assumption
  | with_reducible exact upd_same
  | ((with_reducible refine' upd_keep ?a ?b); (case a => with_reducible assumption); (case b => walk_at "hv hp"))
  | ((with_reducible refine' Same.get ?a ?b); (case a => with_reducible assumption); (case b => walk_at "hv hp"))
  | ((with_reducible refine' ExB.gt ?a ?b ?c); (case a => with_reducible assumption); (case b => walk_at "hv hp"); (case c => walk_at "hv ne")))
local macro_rules | `(tactic| walk_at "hv ne") => `(tactic| first
  | assumption
  | (exact ne_of_none (by assumption) (by assumption))
  | (refine ne_of (by assumption) (by assumption) ?_; (intro hx; cases hx; done)))
local macro_rules | `(tactic| walk_at "hv same") => `(tactic| first
  | with_reducible assumption
  | with_reducible exact Same.refl _
  | ((with_reducible refine' Same.nw ?a ?b); (case a => with_reducible assumption); (case b => walk_at "hv same"))
  | ((with_reducible refine' Same.tr ?a ?b); (case a => with_reducible assumption); (case b => walk_at "hv same")))
local macro_rules | `(tactic| walk_at "hv exb") => `(tactic| first
  | with_reducible assumption
  | with_reducible exact ExB.refl _ _
  | ((with_reducible refine' ExB.nw ?a ?b); (case a => with_reducible assumption); (case b => walk_at "hv exb"))
  | ((with_reducible refine' ExB.trs ?a ?b); (case a => with_reducible assumption); (case b => walk_at "hv exb"))
  | ((with_reducible refine' ExB.tr ?a ?b); (case a => with_reducible assumption); (case b => walk_at "hv exb")))
local macro_rules | `(tactic| walk_at "hv sq") => `(tactic| first
  | assumption
  | exact .inl (by assumption)
  | exact .inr (by assumption)
  | ((with_reducible refine' SqL.of ?a); (case a => walk_at "hv hp"))
  | ((with_reducible refine' SqT.of ?a); (case a => walk_at "hv hp"))
  | ((with_reducible refine' Or.inl (SqL.of ?a)); (case a => walk_at "hv hp"))
  | ((with_reducible refine' Or.inr (SqT.of ?a)); (case a => walk_at "hv hp")))
local macro_rules | `(tactic| walk_at "hv op") => `(tactic| first
  | with_reducible refine ov_add ?_ | with_reducible refine ov_sub ?_ | ((with_reducible refine ov_mul ?h ?_); (case h => first | assumption | (walk_at "hv side"))) | ((with_reducible refine ov_mod ?h ?_); (case h => first | assumption | omega | (walk_at "hv side"))) | ((with_reducible refine ov_div ?h ?_); (case h => first | assumption | (walk_at "hv side"))) | ((with_reducible refine ov_pow ?h ?_); (case h => first | assumption | (walk_at "hv side")))
  | with_reducible refine ov_lt ?_ | with_reducible refine ov_le ?_ | with_reducible refine ov_gt ?_ | with_reducible refine ov_ge ?_ | with_reducible refine ov_eq ?_ | with_reducible refine ov_ne ?_ | with_reducible refine ov_eqs ?_ | with_reducible refine ov_nes ?_
  | with_reducible refine uv_neg ?_ | with_reducible refine cv_abs ?_ | with_reducible refine cv_int ?_ | with_reducible refine cv_intb ?_ | with_reducible refine cv_boolb ?_ | ((with_reducible refine cv_max ?h ?_); (case h => rfl)) | ((with_reducible refine cv_min ?h ?_); (case h => rfl))
  | ((with_reducible refine' cv_len ?h ?_); (case h => walk_at "hv sq")) | ((with_reducible refine' iv_lst ?h ?g ?_); (case h => walk_at "hv sq"); (case g => rfl)) | ((with_reducible refine' iv_tup ?h ?g ?_); (case h => walk_at "hv sq"); (case g => rfl)))
local macro_rules | `(tactic| walk_at "hv blt") => `(tactic| first
  | refine ev_intc (by assumption) ?_ | refine ev_abs (by assumption) ?_ | refine ev_len (by assumption) ?_ | refine ev_isinst (by assumption) ?_ | refine ev_repr (by assumption) ?_ | refine ev_all (by assumption) ?_ | refine ev_any (by assumption) ?_
  | refine ev_max (by assumption) ?_ | refine ev_min (by assumption) ?_ | refine ev_boolc (by assumption) ?_ | refine ev_sorted (by assumption) ?_ | refine ev_listc (by assumption) ?_ | refine ev_strc (by assumption) ?_ | refine ev_tuplec (by assumption) ?_ | refine ev_dictc (by assumption) ?_ | refine ev_sum (by assumption) ?_)
local macro_rules | `(tactic| walk_at "hv nblt") => `(tactic| first
  | refine ev_nint (by assumption) ?_ | refine ev_nbool (by assumption) ?_ | refine ev_nstr (by assumption) ?_ | refine ev_ndict (by assumption) ?_ | refine ev_nlist (by assumption) ?_ | refine ev_ntuple (by assumption) ?_)
local macro_rules | `(tactic| walk_at "hv one") => `(tactic| first
  | with_reducible refine bv_cons ?_ | ((with_reducible refine bv_id ?_); (refine bv_cons ?_)) | with_reducible refine bv_nil ?_ | with_reducible refine sv_ret ?_ | ((with_reducible refine sv_id ?_); (walk_at "hv set")) | with_reducible refine sv_if ?_ | ((with_reducible refine sv_expr ?_ ?h); (case h => rfl)) | ((with_reducible refine sv_slot ?_ ?h); (case h => rfl)) | ((with_reducible refine sv_seti ?_ ?a ?b ?c); (case a => (intro x; rfl)); (case b => rfl); (case c => rfl))
  | ((with_reducible refine ev_nm ?_); (first | walk_at "hv name" | walk_at "hv nblt"))
  | with_reducible refine ev_int ?_ | with_reducible refine ev_op ?_ | ((with_reducible refine ev_cmp ?_ ?h); (case h => first | exact nobehind _ (by decide) (by decide) | rfl))
  | ((with_reducible refine av_cons ?_ ?h); (case h => rfl)) | with_reducible refine av_nil ?_
  | with_reducible refine ev_str ?_ | with_reducible refine ev_bl ?_ | with_reducible refine ev_non ?_ | with_reducible refine ev_un ?_ | with_reducible refine ev_one ?_ | with_reducible refine ev_and ?_ | with_reducible refine ev_or ?_ | with_reducible refine ev_if ?_
  | with_reducible refine ev_tup ?_ | with_reducible refine ev_lst ?_ | ((with_reducible refine ev_ix ?h ?_); (case h => exact fun _ _ => rfl))
  | with_reducible refine tv_and ?_ | with_reducible refine tv_or ?_ | with_reducible refine tv_not ?_ | ((with_reducible refine tv_cmp ?_ ?h); (case h => first | exact nobehind _ (by decide) (by decide) | rfl)) | with_reducible refine wv_and ?_ | with_reducible refine wv_or ?_ | with_reducible refine wv_and1 ?_ | with_reducible refine wv_or1 ?_
  | walk_at "hv op"
  | ((with_reducible refine ev_cl ?_); (walk_at "hv blt"))
  | with_reducible refine ex_bl ?_ | with_reducible refine tru_bl ?_ | walk_at "hv ite"
  | ((with_reducible refine tv_val ?_ ?h); (case h => (intro x; rfl))))
local macro_rules | `(tactic| walk_at "hv loc") => `(tactic| first | exact .inl rfl | exact .inr rfl)
local macro_rules | `(tactic| walk_at "hv set") => `(tactic| first
  | refine sv_setS 0 rfl (by assumption) (by walk_at "hv loc") ?_ | refine sv_setS 1 rfl (by assumption) (by walk_at "hv loc") ?_ | refine sv_setS 2 rfl (by assumption) (by walk_at "hv loc") ?_ | refine sv_setS 3 rfl (by assumption) (by walk_at "hv loc") ?_
  | refine sv_setS 4 rfl (by assumption) (by walk_at "hv loc") ?_ | refine sv_setS 5 rfl (by assumption) (by walk_at "hv loc") ?_ | refine sv_setS 6 rfl (by assumption) (by walk_at "hv loc") ?_ | refine sv_setS 7 rfl (by assumption) (by walk_at "hv loc") ?_
  | refine sv_setS 8 rfl (by assumption) (by walk_at "hv loc") ?_ | refine sv_setS 9 rfl (by assumption) (by walk_at "hv loc") ?_ | refine sv_setS 10 rfl (by assumption) (by walk_at "hv loc") ?_ | refine sv_setS 11 rfl (by assumption) (by walk_at "hv loc") ?_)
local macro_rules | `(tactic| walk_at "hv dec") => `(tactic| first | assumption | rfl | omega | decide | (intro hz; cases hz; done))
local macro_rules | `(tactic| walk_at "hv ite") => `(tactic| first
  | with_reducible refine iteT ?_ | with_reducible refine iteF ?_ | with_reducible refine iteNF ?_ | with_reducible refine iteNT ?_
  | ((with_reducible refine ite_dec1 ?h ?_); (case h => walk_at "hv dec")) | ((with_reducible refine ite_dec0 ?h ?_); (case h => walk_at "hv dec"))
  | ((with_reducible refine ite_decN1 ?h ?_); (case h => walk_at "hv dec")) | ((with_reducible refine ite_decN0 ?h ?_); (case h => walk_at "hv dec")))
local macro_rules | `(tactic| walk_at "hv s") => `(tactic| (repeat (walk_at "hv one")))
/-- a pot: what is left of the cell's own digits, the seed, how often it was drawn from -/
def Pot (H : Hp) (p : Addr) (c : Nat) : Prop := ∃ own seed n : Int, H p = some (.lst [.int own, .int seed, .int n]) ∧ 0 ≤ own ∧ 0 ≤ seed ∧ seed < 2305843009213693951 ∧ 0 ≤ n ∧ n ≤ c
theorem Pot.mono {H : Hp} {p : Addr} {c d : Nat} (h : Pot H p c) (l : c ≤ d) : Pot H p d := by
  obtain ⟨a, b, n, h1, h2, h3, h4, h5, h6⟩ := h
  exact ⟨a, b, n, h1, h2, h3, h4, h5, by omega⟩
theorem Pot.same {H H' : Hp} {p : Addr} {c : Nat} (h : Pot H p c) (e : Same H H') : Pot H' p c := by
  obtain ⟨a, b, n, h1, h2⟩ := h
  exact ⟨a, b, n, e _ _ h1, h2⟩
theorem Pot.at_ {H : Hp} {p : Addr} {c : Nat} (h : Pot H p c) : ∃ xs, H p = some (.lst xs) := let ⟨_, _, _, h1, _⟩ := h; ⟨_, h1⟩
theorem prime_at (n : Int) : ∃ v : Int, atI [V.int 2147483647, V.int 2147483629, V.int 2147483587, V.int 2147483579, V.int 2147483563] (n % 5) = some (.int v) ∧ 2147483563 ≤ v ∧ v ≤ 2147483647 := by
  have h : n % 5 = 0 ∨ n % 5 = 1 ∨ n % 5 = 2 ∨ n % 5 = 3 ∨ n % 5 = 4 := by omega
  rcases h with h | h | h | h | h <;> rw [h]
  · exact ⟨_, rfl, by decide, by decide⟩
  · exact ⟨_, rfl, by decide, by decide⟩
  · exact ⟨_, rfl, by decide, by decide⟩
  · exact ⟨_, rfl, by decide, by decide⟩
  · exact ⟨_, rfl, by decide, by decide⟩
theorem lo_of {i : Int} {b : Nat} (h0 : 0 ≤ i) (h : i < 2 ^ b) (hb : 0 < b) : i.natAbs.log2 < b := PySem.Flt.log2_lt_of hb (by
  have : ((i.natAbs : Nat) : Int) < ((2 ^ b : Nat) : Int) := by
    rw [Int.natCast_pow]
    show ((i.natAbs : Nat) : Int) < (2 : Int) ^ b
    omega
  omega)
theorem mulw {i j : Int} {a b : Nat} (hi0 : 0 ≤ i) (hi : i < 2 ^ a) (hj0 : 0 ≤ j) (hj : j < 2 ^ b) (ha : 0 < a) (hb : 0 < b) (h : a + b ≤ 1000000) : CMulW i j := by
  have h1 := lo_of hi0 hi ha
  have h2 := lo_of hj0 hj hb
  unfold CMulW
  omega
section
variable {P : Program} {w : World} {K : PySem.W.Frag} {mg : Str → Option Value} {base : Heap} {fd : FuncData}
def sp_take : Sp := fun vs H Q _ => ∃ (p : Addr) (u : Int) (c : Nat), vs = [.ref p, .int u] ∧ 0 < u ∧ u < 2 ^ 1000 ∧ Pot H p c ∧ c < 1000000 ∧ ∀ r H', 0 ≤ r → r < u → ExB p H H' → Pot H' p (c + 1) → Q (.int r) H'
theorem ok_take (B : Blt mg) (F : FD K d__law_take fd) : FnG P w K mg base 1 (d__law_take.at_ K) sp_take := by
  have S := s__law_take
  refine okG (dv := []) (ds := []) F S (FunD.bindsN F fun _ _ _ _ _ _ us hl => match us, hl with | [_, _], _ => rfl) .nil (fun vs H Q E h => ?_) (fun cdv A outer s H vs Q E hr h => ?_)
  · obtain ⟨_, _, _, rfl, _⟩ := h; rfl
  obtain ⟨p, u, c, rfl, u0, u1, ⟨own, seed, n, hp, o0, s0, s1, n0, n1⟩, hc, q⟩ := h
  refine ex_bv ?_
  walk_at "hv s"
  refine ite_dec (fun h => ?_) (fun h => ?_)
  · have cd : CDivW own u := ⟨u0, Nat.lt_trans (lo_of (b := 1000) (by omega) u1 (by decide)) (by decide)⟩
    walk_at "hv s"
    refine ⟨p, _, 0, 0, rfl, rfl, hp, rfl, ?_⟩
    walk_at "hv s"
    refine q _ _ (Int.emod_nonneg _ (by omega)) (Int.emod_lt_of_pos _ u0) (ExB.refl p H).put ⟨own / u, seed, n, upd_same, Int.ediv_nonneg o0 (by omega), s0, s1, n0, by omega⟩
  · have n2 : n + 1 < 2 ^ 20 := by omega
    walk_at "hv s"
    refine ⟨p, _, 2, 2, rfl, rfl, hp, rfl, ?_⟩
    obtain ⟨pr, hpr, pr0, pr1⟩ := prime_at (n + 1)
    have hP : ∀ q : Addr, H q = none → p ≠ q := fun q hq => ne_of_none hp hq
    have hp2 : upd H p (.lst ([V.int own, V.int seed, V.int n].set 2 (V.int (n + 1)))) p = some (.lst [V.int own, V.int seed, V.int (n + 1)]) := upd_same
    have eb : ExB p H (upd H p (.lst ([V.int own, V.int seed, V.int n].set 2 (V.int (n + 1))))) := (ExB.refl p H).put
    generalize upd H p (.lst ([V.int own, V.int seed, V.int n].set 2 (V.int (n + 1)))) = H2 at hp2 eb ⊢
    walk_at "hv s"
    refine ⟨sz_ok (by simp), fun t ht => ?_⟩
    have ntp : p ≠ t := ne_of_none hp2 ht
    have hp3 : upd H2 t (.lst [V.int 2147483647, V.int 2147483629, V.int 2147483587, V.int 2147483579, V.int 2147483563]) p = some (.lst [V.int own, V.int seed, V.int (n + 1)]) := upd_keep ht hp2
    walk_at "hv s"
    refine iv_lst (by walk_at "hv sq") hpr ?_
    have eb3 : ExB p H (upd H2 t (.lst [V.int 2147483647, V.int 2147483629, V.int 2147483587, V.int 2147483579, V.int 2147483563])) := eb.new ht
    generalize upd H2 t (.lst [V.int 2147483647, V.int 2147483629, V.int 2147483587, V.int 2147483579, V.int 2147483563]) = H3 at hp3 eb3 ⊢
    have n0' : 0 ≤ n + 1 := by omega
    have m1 : CMulW 104743 (n + 1) := mulw (a := 17) (b := 20) (by decide) (by decide) n0' n2 (by decide) (by decide) (by decide)
    have a0 : 0 ≤ 104743 * (n + 1) := by omega
    have a1 : 104743 * (n + 1) < 2 ^ 40 := by omega
    have m2 : CMulW (104743 * (n + 1)) (n + 1) := mulw a0 a1 n0' n2 (by decide) (by decide) (by decide)
    have b0 : 0 ≤ 104743 * (n + 1) * (n + 1) := Int.mul_nonneg a0 n0'
    have b1 : 104743 * (n + 1) * (n + 1) < 2 ^ 60 := Int.lt_of_le_of_lt (Int.mul_le_mul (show _ ≤ (2 : Int) ^ 40 - 1 by omega) (show n + 1 ≤ 2 ^ 20 - 1 by omega) n0' (by decide)) (by decide)
    walk_at "hv s"
    refine ov_pow ⟨by decide, ?_⟩ ?_
    · have lo := lo_of (i := seed + 104743 * (n + 1) * (n + 1) + 37) (b := 63) (by omega) (by omega) (by decide)
      have : Builtin.Int.intBits (seed + 104743 * (n + 1) * (n + 1) + 37) ≤ (seed + 104743 * (n + 1) * (n + 1) + 37).natAbs.log2 + 1 := by
        unfold Builtin.Int.intBits
        split <;> omega
      omega
    walk_at "hv s"
    generalize (seed + 104743 * (n + 1) * (n + 1) + 37) ^ (3 : Int).toNat = X3
    have x0 : 0 ≤ X3 % pr := Int.emod_nonneg _ (by omega)
    have x1 : X3 % pr < 2147483647 := Int.lt_of_lt_of_le (Int.emod_lt_of_pos _ (by omega)) pr1
    generalize X3 % pr = X4 at x0 x1
    have y0 : 0 ≤ X4 % 10037 := Int.emod_nonneg _ (by decide)
    have y1 : X4 % 10037 < 10037 := Int.emod_lt_of_pos _ (by decide)
    have m3 : CMulW 103 (n + 1) := mulw (a := 7) (b := 20) (by decide) (by decide) n0' n2 (by decide) (by decide) (by decide)
    have m4 : CMulW X4 (X4 % 10037 + 103 * (n + 1)) := mulw (a := 31) (b := 40) x0 (by omega) (by omega) (by omega) (by decide) (by decide) (by decide)
    have d113 : ∀ z, CDivW z 113 := fun z => ⟨by decide, by decide +kernel⟩
    walk_at "hv s"
    refine ov_div (d113 _) ?_
    walk_at "hv s"
    exact q _ _ (Int.emod_nonneg _ (by omega)) (Int.emod_lt_of_pos _ u0) eb3 ⟨own, seed, n + 1, hp3, o0, s0, s1, by omega, by omega⟩
/-- one of a list -/
def sp_of (K : PySem.W.Frag) : Sp := fun vs H Q _ => ∃ (p l : Addr) (xs : List V) (c : Nat), vs = [.ref p, .ref l] ∧ H l = some (.lst xs) ∧ l ≠ p ∧ 0 < xs.length ∧ xs.length ≤ 1000 ∧ Pot H p c ∧ c < 1000000 ∧
  ∀ (i : Nat) v H', xs[i]? = some v → ExB p H H' → Pot H' p (c + 1) → Q v H'
theorem ok_of (B : Blt mg) (gt : GF P w K mg base 1 "_law_take" sp_take) (F : FD K d__law_of fd) : FnG P w K mg base 2 (d__law_of.at_ K) (sp_of K) := by
  have S := s__law_of
  refine okG (dv := []) (ds := []) F S (FunD.bindsN F fun _ _ _ _ _ _ us hl => match us, hl with | [_, _], _ => rfl) .nil (fun vs H Q E h => ?_) (fun cdv A outer s H vs Q E hr h => ?_)
  · obtain ⟨_, _, _, _, rfl, _⟩ := h; rfl
  obtain ⟨p, l, xs, c, rfl, hl, nlp, x0, x1, hp, hc, q⟩ := h
  refine ex_bv ?_
  walk_at "hv s"
  refine ev_call gt hr (by decide) rfl passL ?_
  walk_at "hv s"
  refine ⟨p, _, c, rfl, by omega, by omega, hp, hc, fun r H' r0 r1 e hp' => ?_⟩
  have hl' := e _ _ nlp hl
  have hi : r.toNat < xs.length := by omega
  refine iv_lst (.of hl') (v := xs[r.toNat]) ?_ ?_
  · have := atI_nat (xs := xs) (j := r.toNat) (v := xs[r.toNat]) (by simp [hi])
    rwa [show ((r.toNat : Nat) : Int) = r by omega] at this
  · exact q r.toNat _ _ (by simp [hi]) e hp'
/-- a pair of the law's own: a tuple of the two parts in least terms -/
def PairV (H : Hp) (v : V) (q : Rat) : Prop := ∃ T, v = .ref T ∧ H T = some (.tup [.int q.num, .int q.den])
theorem PairV.sm {H H' : Hp} {v : V} {q : Rat} (e : Same H H') (h : PairV H v q) : PairV H' v q := let ⟨T, e1, h1⟩ := h; ⟨T, e1, e _ _ h1⟩
theorem PairV.nw {H : Hp} {v : V} {q : Rat} {p : Addr} {o : HO} (hp : H p = none) (h : PairV H v q) : PairV (upd H p o) v q := h.sm (same_upd hp)
theorem PairV.exb {H H' : Hp} {v : V} {q : Rat} {p : Addr} {xs : List V} (e : ExB p H H') (hp : H p = some (.lst xs)) (h : PairV H v q) : PairV H' v q :=
  let ⟨T, e1, h1⟩ := h
  ⟨T, e1, e _ _ (ne_of h1 hp fun z => by cases z) h1⟩
def sp_frac : Sp := fun vs H Q _ => ∃ n d : Int, vs = [.int n, .int d] ∧ 0 < d ∧ d.natAbs < 2 ^ 8000 ∧ ∀ v H', PairV H' v (Rat.divInt n d) → Same H H' → Q v H'
theorem ok_frac (B : Blt mg) (F : FD K d__law_frac fd) : FnG P w K mg base 1 (d__law_frac.at_ K) sp_frac := by
  have S := s__law_frac
  refine okG (dv := []) (ds := []) F S (FunD.bindsN F fun _ _ _ _ _ _ us hl => match us, hl with | [_, _], _ => rfl) .nil (fun vs H Q E h => ?_) (fun cdv A outer s H vs Q E hr h => ?_)
  · obtain ⟨_, _, rfl, _⟩ := h; rfl
  obtain ⟨n, d, rfl, d0, d1, q⟩ := h
  have ed : ((d.natAbs : Nat) : Int) = d := by omega
  have ec : comm n d = ((Nat.gcd n.natAbs d.natAbs : Nat) : Int) := by unfold comm; rw [if_neg (by omega)]
  refine ex_bv ?_
  refine bv_cons ?_
  refine sv_par 2 3 rfl S.nd rfl rfl (by decide) rfl rfl ?_
  walk_at "hv s"
  refine ⟨_, _, rfl, ?_⟩
  refine bv_cons ?_
  refine sv_while (passes_of rfl) (fun σ H' => H' = H ∧ ∃ x y : Nat, σ = [some (.int n), some (.int d), some (.int x), some (.int y)] ∧ Nat.gcd x y = Nat.gcd n.natAbs d.natAbs) (fun σ _ => match σ with | [_, _, _, some (.int y)] => y.toNat | _ => 0)
    ⟨rfl, n.natAbs, d.natAbs, by rw [ed]; rfl, rfl⟩ ?_
  rintro σ H' ⟨rfl, x, y, rfl, e⟩
  walk_at "hv s"
  refine ite_dec (fun hy => ?_) (fun hy => ?_)
  · refine bv_cons ?_
    refine sv_par 2 3 rfl S.nd rfl rfl (by decide) rfl rfl ?_
    walk_at "hv s"
    refine ⟨_, _, rfl, ?_⟩
    refine bv_nil ⟨⟨rfl, y, x % y, ?_, ?_⟩, ?_⟩
    · have : ((x : Int) % (y : Int)) = ((x % y : Nat) : Int) := (Int.natCast_emod x y).symm
      show [some (V.int n), some (V.int d), some (V.int y), some (V.int ((x : Int) % (y : Int)))] = _
      rw [this]
    · rw [← e, Nat.gcd_comm x y, Nat.gcd_rec y x, Nat.gcd_comm]
    · show ((x : Int) % (y : Int)).toNat < (y : Int).toNat
      have := Int.emod_lt_of_pos (x : Int) hy
      have := Int.emod_nonneg (x : Int) (Int.ne_of_gt hy)
      omega
  · have y0 : y = 0 := by omega
    subst y0
    rw [Nat.gcd_zero_right] at e
    have ex : (x : Int) = comm n d := by rw [ec, e]
    have dz : ∀ z, CDivZ z (comm n d) := fun z => divz (by omega) d1
    walk_at "hv s"
    rw [ex]
    refine ov_fdiv (dz _) ?_
    walk_at "hv s"
    refine ov_fdiv (dz _) ?_
    walk_at "hv s"
    refine ⟨sz_ok (by simp), fun T hT => ?_⟩
    rw [above_eq (by omega), below_eq (by omega)]
    exact q _ _ ⟨T, rfl, upd_same⟩ (same_upd hT)
def sp_pair2 (g : Rat → Rat → Rat) : Sp := fun vs H Q _ => ∃ x y p q, vs = [x, y] ∧ PairV H x p ∧ PairV H y q ∧ Sz 3000 p ∧ Sz 3000 q ∧ ∀ v H', PairV H' v (g p q) → Same H H' → Q v H'
theorem pos_dens (p q : Rat) : (0 : Int) < p.den * q.den := by
  have h1 := p.den_pos
  have h2 := q.den_pos
  exact Int.mul_pos (by omega) (by omega)
theorem at0 {a b : V} : atI [a, b] 0 = some a := rfl
theorem at1 {a b : V} : atI [a, b] 1 = some b := rfl
local macro_rules | `(tactic| walk_at "hv side") => `(tactic| first | exact m11 (by assumption) (by assumption) | exact m22 (by assumption) (by assumption) | exact m33 (by assumption) (by assumption))
theorem ok_lplus (gf : GF P w K mg base 1 "_law_frac" sp_frac) (F : FD K d__law_plus fd) : FnG P w K mg base 2 (d__law_plus.at_ K) (sp_pair2 fun p q => p + q) := by
  have S := s__law_plus
  refine okG (dv := []) (ds := []) F S (FunD.bindsN F fun _ _ _ _ _ _ us hl => match us, hl with | [_, _], _ => rfl) .nil (fun vs H Q E h => ?_) (fun cdv A outer s H vs Q E hr h => ?_)
  · obtain ⟨_, _, _, _, rfl, _⟩ := h; rfl
  obtain ⟨_, _, p, q, rfl, ⟨T, rfl, hT⟩, ⟨U, rfl, hU⟩, zp, zq, h⟩ := h
  refine ex_bv ?_
  walk_at "hv s"
  refine ev_call gf hr (by decide) rfl passL ?_
  walk_at "hv s"
  refine ⟨_, _, rfl, pos_dens p q, up (dens_lt zp zq) (by decide), fun v H' hv e => ?_⟩
  rw [add_form] at hv
  exact h v H' hv e
def sp_lratio (K : PySem.W.Frag) : Sp := fun vs H Q _ => ∃ x q, vs = [x] ∧ PairV H x q ∧ Sz 7000 q ∧ ∀ v H', RatV K H' v q → Same H H' → Q v H'
theorem ok_lratio (g2 : GM P w K mg base 2 "Ratio" (sp_mk2 K)) (F : FD K d__law_ratio fd) : FnG P w K mg base 4 (d__law_ratio.at_ K) (sp_lratio K) := by
  have S := s__law_ratio
  refine okG (dv := []) (ds := []) F S (FunD.bindsN F fun _ _ _ _ _ _ us hl => match us, hl with | [_], _ => rfl) .nil (fun vs H Q E h => ?_) (fun cdv A outer s H vs Q E hr h => ?_)
  · obtain ⟨_, _, rfl, _⟩ := h; rfl
  obtain ⟨_, q, rfl, ⟨T, rfl, hT⟩, zq, h⟩ := h
  refine ex_bv ?_
  walk_at "hv s"
  refine ev_make g2 hr (by decide) rfl passL ?_
  walk_at "hv s"
  refine ⟨_, _, rfl, den_ne q, up zq.1 (by decide), up (den_abs zq) (by decide), fun v H' hv e => ?_⟩
  rw [Rat.num_divInt_den] at hv
  exact h v H' hv e
end
end HvP
/-! using Ratios: operators, comparisons, properties, methods -/
namespace HvP
open PySem PySem.Spec PyProof.Rows L2 Hv HvT SlX
local macro_rules | `(tactic| walk_at "hv name") => `(tactic| first
  | refine ev_var 0 (pv 0) rfl ?_ | refine ev_var 1 (pv 1) rfl ?_ | refine ev_var 2 (pv 2) rfl ?_ | refine ev_var 3 (pv 3) rfl ?_ | refine ev_var 4 (pv 4) rfl ?_
  | refine ev_var 5 (pv 5) rfl ?_ | refine ev_var 6 (pv 6) rfl ?_ | refine ev_var 7 (pv 7) rfl ?_ | refine ev_var 8 (pv 8) rfl ?_ | refine ev_var 9 (pv 9) rfl ?_
  | refine ev_var 10 (pv 10) rfl ?_ | refine ev_var 11 (pv 11) rfl ?_ | refine ev_var 12 (pv 12) rfl ?_ | refine ev_var 13 (pv 13) rfl ?_ | refine ev_var 14 (pv 14) rfl ?_)
local macro_rules | `(tactic| walk_at "hv hp") => `(tactic| first
  | with_reducible assumption
  | with_reducible exact upd_same
  | ((with_reducible refine' upd_keep ?a ?b); (case a => with_reducible assumption); (case b => walk_at "hv hp"))
  | ((with_reducible refine' Same.get ?a ?b); (case a => with_reducible assumption); (case b => walk_at "hv hp"))
  | ((with_reducible refine' ExB.gt ?a ?b ?c); (case a => with_reducible assumption); (case b => walk_at "hv hp"); (case c => walk_at "hv ne")))
local macro_rules | `(tactic| walk_at "hv ne") => `(tactic| first
  | assumption
  | (exact ne_of_none (by assumption) (by assumption))
  | (refine ne_of (by assumption) (by assumption) ?_; (intro hx; cases hx; done)))
local macro_rules | `(tactic| walk_at "hv same") => `(tactic| first
  | with_reducible assumption
  | with_reducible exact Same.refl _
  | ((with_reducible refine' Same.nw ?a ?b); (case a => with_reducible assumption); (case b => walk_at "hv same"))
  | ((with_reducible refine' Same.tr ?a ?b); (case a => with_reducible assumption); (case b => walk_at "hv same")))
local macro_rules | `(tactic| walk_at "hv exb") => `(tactic| first
  | with_reducible assumption
  | with_reducible exact ExB.refl _ _
  | ((with_reducible refine' ExB.nw ?a ?b); (case a => with_reducible assumption); (case b => walk_at "hv exb"))
  | ((with_reducible refine' ExB.trs ?a ?b); (case a => with_reducible assumption); (case b => walk_at "hv exb"))
  | ((with_reducible refine' ExB.tr ?a ?b); (case a => with_reducible assumption); (case b => walk_at "hv exb")))
local macro_rules | `(tactic| walk_at "hv sq") => `(tactic| first
  | assumption
  | exact .inl (by assumption)
  | exact .inr (by assumption)
  | ((with_reducible refine' SqL.of ?a); (case a => walk_at "hv hp"))
  | ((with_reducible refine' SqT.of ?a); (case a => walk_at "hv hp"))
  | ((with_reducible refine' Or.inl (SqL.of ?a)); (case a => walk_at "hv hp"))
  | ((with_reducible refine' Or.inr (SqT.of ?a)); (case a => walk_at "hv hp")))
local macro_rules | `(tactic| walk_at "hv op") => `(tactic| first
  | with_reducible refine ov_add ?_ | with_reducible refine ov_sub ?_ | ((with_reducible refine ov_mul ?h ?_); (case h => first | assumption | (walk_at "hv side"))) | ((with_reducible refine ov_mod ?h ?_); (case h => first | assumption | omega | (walk_at "hv side"))) | ((with_reducible refine ov_div ?h ?_); (case h => first | assumption | (walk_at "hv side"))) | ((with_reducible refine ov_pow ?h ?_); (case h => first | assumption | (walk_at "hv side")))
  | with_reducible refine ov_lt ?_ | with_reducible refine ov_le ?_ | with_reducible refine ov_gt ?_ | with_reducible refine ov_ge ?_ | with_reducible refine ov_eq ?_ | with_reducible refine ov_ne ?_ | with_reducible refine ov_eqs ?_ | with_reducible refine ov_nes ?_
  | with_reducible refine uv_neg ?_ | with_reducible refine cv_abs ?_ | with_reducible refine cv_int ?_ | with_reducible refine cv_intb ?_ | with_reducible refine cv_boolb ?_ | ((with_reducible refine cv_max ?h ?_); (case h => rfl)) | ((with_reducible refine cv_min ?h ?_); (case h => rfl))
  | ((with_reducible refine' cv_len ?h ?_); (case h => walk_at "hv sq")) | ((with_reducible refine' iv_lst ?h ?g ?_); (case h => walk_at "hv sq"); (case g => rfl)) | ((with_reducible refine' iv_tup ?h ?g ?_); (case h => walk_at "hv sq"); (case g => rfl)))
local macro_rules | `(tactic| walk_at "hv blt") => `(tactic| first
  | refine ev_intc (by assumption) ?_ | refine ev_abs (by assumption) ?_ | refine ev_len (by assumption) ?_ | refine ev_isinst (by assumption) ?_ | refine ev_repr (by assumption) ?_ | refine ev_all (by assumption) ?_ | refine ev_any (by assumption) ?_
  | refine ev_max (by assumption) ?_ | refine ev_min (by assumption) ?_ | refine ev_boolc (by assumption) ?_ | refine ev_sorted (by assumption) ?_ | refine ev_listc (by assumption) ?_ | refine ev_strc (by assumption) ?_ | refine ev_tuplec (by assumption) ?_ | refine ev_dictc (by assumption) ?_ | refine ev_sum (by assumption) ?_)
local macro_rules | `(tactic| walk_at "hv nblt") => `(tactic| first
  | refine ev_nint (by assumption) ?_ | refine ev_nbool (by assumption) ?_ | refine ev_nstr (by assumption) ?_ | refine ev_ndict (by assumption) ?_ | refine ev_nlist (by assumption) ?_ | refine ev_ntuple (by assumption) ?_)
local macro_rules | `(tactic| walk_at "hv one") => `(tactic| first
  | with_reducible refine bv_cons ?_ | ((with_reducible refine bv_id ?_); (refine bv_cons ?_)) | with_reducible refine bv_nil ?_ | with_reducible refine sv_ret ?_ | ((with_reducible refine sv_id ?_); (walk_at "hv set")) | with_reducible refine sv_if ?_ | ((with_reducible refine sv_expr ?_ ?h); (case h => rfl)) | ((with_reducible refine sv_slot ?_ ?h); (case h => rfl)) | ((with_reducible refine sv_seti ?_ ?a ?b ?c); (case a => (intro x; rfl)); (case b => rfl); (case c => rfl))
  | ((with_reducible refine ev_nm ?_); (first | walk_at "hv name" | walk_at "hv nblt"))
  | with_reducible refine ev_int ?_ | with_reducible refine ev_op ?_ | ((with_reducible refine ev_cmp ?_ ?h); (case h => first | exact nobehind _ (by decide) (by decide) | rfl))
  | ((with_reducible refine av_cons ?_ ?h); (case h => rfl)) | with_reducible refine av_nil ?_
  | with_reducible refine ev_str ?_ | with_reducible refine ev_bl ?_ | with_reducible refine ev_non ?_ | with_reducible refine ev_un ?_ | with_reducible refine ev_one ?_ | with_reducible refine ev_and ?_ | with_reducible refine ev_or ?_ | with_reducible refine ev_if ?_
  | with_reducible refine ev_tup ?_ | with_reducible refine ev_lst ?_ | ((with_reducible refine ev_ix ?h ?_); (case h => exact fun _ _ => rfl))
  | with_reducible refine tv_and ?_ | with_reducible refine tv_or ?_ | with_reducible refine tv_not ?_ | ((with_reducible refine tv_cmp ?_ ?h); (case h => first | exact nobehind _ (by decide) (by decide) | rfl)) | with_reducible refine wv_and ?_ | with_reducible refine wv_or ?_ | with_reducible refine wv_and1 ?_ | with_reducible refine wv_or1 ?_
  | walk_at "hv op"
  | ((with_reducible refine ev_cl ?_); (walk_at "hv blt"))
  | with_reducible refine ex_bl ?_ | with_reducible refine tru_bl ?_ | walk_at "hv ite"
  | ((with_reducible refine tv_val ?_ ?h); (case h => (intro x; rfl))))
local macro_rules | `(tactic| walk_at "hv loc") => `(tactic| first | exact .inl rfl | exact .inr rfl)
local macro_rules | `(tactic| walk_at "hv set") => `(tactic| first
  | refine sv_setS 0 rfl (by assumption) (by walk_at "hv loc") ?_ | refine sv_setS 1 rfl (by assumption) (by walk_at "hv loc") ?_ | refine sv_setS 2 rfl (by assumption) (by walk_at "hv loc") ?_ | refine sv_setS 3 rfl (by assumption) (by walk_at "hv loc") ?_
  | refine sv_setS 4 rfl (by assumption) (by walk_at "hv loc") ?_ | refine sv_setS 5 rfl (by assumption) (by walk_at "hv loc") ?_ | refine sv_setS 6 rfl (by assumption) (by walk_at "hv loc") ?_ | refine sv_setS 7 rfl (by assumption) (by walk_at "hv loc") ?_
  | refine sv_setS 8 rfl (by assumption) (by walk_at "hv loc") ?_ | refine sv_setS 9 rfl (by assumption) (by walk_at "hv loc") ?_ | refine sv_setS 10 rfl (by assumption) (by walk_at "hv loc") ?_ | refine sv_setS 11 rfl (by assumption) (by walk_at "hv loc") ?_)
local macro_rules | `(tactic| walk_at "hv dec") => `(tactic| first | assumption | rfl | omega | decide | (intro hz; cases hz; done))
local macro_rules | `(tactic| walk_at "hv ite") => `(tactic| first
  | with_reducible refine iteT ?_ | with_reducible refine iteF ?_ | with_reducible refine iteNF ?_ | with_reducible refine iteNT ?_
  | ((with_reducible refine ite_dec1 ?h ?_); (case h => walk_at "hv dec")) | ((with_reducible refine ite_dec0 ?h ?_); (case h => walk_at "hv dec"))
  | ((with_reducible refine ite_decN1 ?h ?_); (case h => walk_at "hv dec")) | ((with_reducible refine ite_decN0 ?h ?_); (case h => walk_at "hv dec")))
local macro_rules | `(tactic| walk_at "hv s") => `(tactic| (repeat (walk_at "hv one")))
section
variable (P : Program) (w : World) (K : PySem.W.Frag) (mg : Str → Option Value) (base : Heap)
structure ROp (op : Operator) (g : Rat → Rat → Rat) : Prop where
  ex : ∃ a b, Meth K (CR K) (PySem.dunder op.info.2) a ∧ Meth K (CR K) (dunderR op.info.2) b ∧ FnG P w K mg base 6 a (sp_ratn K g) ∧ FnG P w K mg base 6 b (sp_ratn K fun p q => g q p)
structure RCmp (op : CmpOp) (g : Rat → Rat → Bool) : Prop where
  ex : ∃ a b, Meth K (CR K) (cmpInfo op).2.1 a ∧ Meth K (CR K) (cmpInfo op).2.2 b ∧ FnG P w K mg base 6 a (sp_ratc K g) ∧ FnG P w K mg base 6 b (sp_ratc K fun p q => g q p)
structure RMt (m : Str) (g : Rat → Rat) : Prop where
  ex : ∃ a, Meth K (CR K) m a ∧ FnG P w K mg base 6 a (sp_rat1 K g)
structure RPr (m : Str) (g : Rat → Int) : Prop where
  ex : ∃ pr a, PropG K (CR K) m pr a ∧ FnG P w K mg base 1 a (fun vs H Q _ => ∃ x p, vs = [x] ∧ RatV K H x p ∧ Q (.int (g p)) H)
end
section
variable {X : Cx} {cs : List Addr} {σ : L2.St} {H : Hp} {Q : VK} {j : Nat} {x y : V} {p q : Rat} {o : Expr} {pos apos : Pos} {g : Rat → Rat → Rat} {gc : Rat → Rat → Bool} {g1 : Rat → Rat} {id : String} {B : Builtin}
theorem RatV.isIn {K : PySem.W.Frag} (h : RatV K H x p) : IsIn (CR K) H x := let ⟨a, dx, e, s⟩ := h.slt; ⟨a, dx, _, e, s⟩
theorem ov_rat {op : Operator} (O : ROp X.prog X.w X.K X.mg X.base op g) (R : RW X.K X.mg cs) (hr : RoomG j X.A) (hj : 6 ≤ j) (tb : IntTab op.info.2) (io : IntOp (PySem.dunder op.info.2) id B)
    (hx : NumV X.K H x p) (hy : NumV X.K H y q) (ho : RatV X.K H x p ∨ RatV X.K H y q) (zp : Sz 3000 p) (zq : Sz 3000 q) (h : ∀ v H', RatV X.K H' v (g p q) → Same H H' → Q v H') : OV X (binaryOp op) x y H Q := by
  obtain ⟨a, b, ma, mb, Fa, Fb⟩ := O.ex
  refine ⟨_, op_num (E := E0) R.num ma mb Fa Fb hr hj passL tb io, ?_⟩
  by_cases hx' : RatV X.K H x p
  · refine .inl ⟨hx'.isIn, ?_, x, y, p, q, rfl, hx', hy, zp, zq, h⟩
    rcases hy with ⟨i, rfl, _⟩ | hy
    · exact .inr ⟨i, rfl⟩
    · exact .inl hy.isIn
  · have hy' : RatV X.K H y q := ho.resolve_left hx'
    refine .inr ⟨?_, hy'.isIn, y, x, q, p, rfl, hy', hx, zq, zp, h⟩
    rcases hx with ⟨i, rfl, _⟩ | hx
    · exact ⟨i, rfl⟩
    · exact absurd hx hx'
theorem ov_ratc {op : CmpOp} (hop : ∀ a b, compareOp op a b = richCompare op a b) (O : RCmp X.prog X.w X.K X.mg X.base op gc) (R : RW X.K X.mg cs) (hr : RoomG j X.A) (hj : 6 ≤ j) (io : IntOp (cmpInfo op).2.1 id B)
    (hx : NumV X.K H x p) (hy : NumV X.K H y q) (ho : RatV X.K H x p ∨ RatV X.K H y q) (zp : Sz 3000 p) (zq : Sz 3000 q) (h : ∀ H', Same H H' → Q (.bl (gc p q)) H') : OV X (compareOp op) x y H Q := by
  obtain ⟨a, b, ma, mb, Fa, Fb⟩ := O.ex
  refine ⟨_, op_cmpn (E := E0) hop R.num ma mb Fa Fb hr hj passL io, ?_⟩
  by_cases hx' : RatV X.K H x p
  · refine .inl ⟨hx'.isIn, ?_, x, y, p, q, rfl, hx', hy, zp, zq, h⟩
    rcases hy with ⟨i, rfl, _⟩ | hy
    · exact .inr ⟨i, rfl⟩
    · exact .inl hy.isIn
  · have hy' : RatV X.K H y q := ho.resolve_left hx'
    refine .inr ⟨?_, hy'.isIn, y, x, q, p, rfl, hy', hx, zq, zp, h⟩
    rcases hx with ⟨i, rfl, _⟩ | hx
    · exact ⟨i, rfl⟩
    · exact absurd hx hx'
theorem uv_ratneg (O : RMt X.prog X.w X.K X.mg X.base "__neg__" g1) (hr : RoomG j X.A) (hj : 6 ≤ j) (hx : RatV X.K H x p) (zp : Sz 3000 p) (h : ∀ v H', RatV X.K H' v (g1 p) → Same H H' → Q v H') : UV X (unaryOp .USub) x H Q := by
  obtain ⟨a, ma, Fa⟩ := O.ex
  exact ⟨_, un_negn (C := CR X.K) (E := E0) ma Fa hr hj passL, hx.isIn, x, p, rfl, hx, zp, h⟩
theorem cv_ratabs (O : RMt X.prog X.w X.K X.mg X.base "__abs__" g1) (hr : RoomG j X.A) (hj : 7 ≤ j) (hx : RatV X.K H x p) (zp : Sz 3000 p) (h : ∀ v H', RatV X.K H' v (g1 p) → Same H H' → Q v H') : CV X (.builtin "abs") [x] H Q := by
  obtain ⟨a, ma, Fa⟩ := O.ex
  exact ⟨_, call_absn (C := CR X.K) (E := E0) ma Fa hr hj passL, x, rfl, hx.isIn, x, p, rfl, hx, zp, h⟩
theorem ev_ratm {m : Str} {pl : Sem Bool} (O : RMt X.prog X.w X.K X.mg X.base m g1) (R : RW X.K X.mg cs) (hr : RoomG j X.A) (hj : 6 ≤ j)
    (q : EV X o σ H fun x H1 => ∃ p, RatV X.K H1 x p ∧ Sz 3000 p ∧ ∀ v H', RatV X.K H' v (g1 p) → Same H1 H' → Q v H')
    (ht : eval (.Call (.Attribute o m apos) [] [] pos) X.env = (do
      let ov ← eval o X.env
      standAt apos.atName
      let (f, first) ← holding [ov] (getMethod ov m pl)
      callWith pos f first (backTo pos (starEach [] X.env)) (backToKw pos (keywordEach [] X.env))) := by rfl) : EV X (.Call (.Attribute o m apos) [] [] pos) σ H Q := by
  obtain ⟨a, ma, Fa⟩ := O.ex
  refine ev_meth0 (E := E0) R.num.sc ma Fa hr hj passL (ev_mono q fun x H1 ⟨p, hp, zp, h⟩ => ?_) ht
  obtain ⟨a, dx, e, hs⟩ := hp.slt
  exact ⟨a, dx, _, e, hs, x, p, rfl, hp, zp, h⟩
theorem ev_ratp {m : Str} {gi : Rat → Int} (O : RPr X.prog X.w X.K X.mg X.base m gi) (R : RW X.K X.mg cs) (hr : RoomG j X.A) (hj : 2 ≤ j)
    (q : EV X o σ H fun x H1 => ∃ p, RatV X.K H1 x p ∧ Q (.int (gi p)) H1) (hb : attributeBase o m X.env (eval o X.env) = eval o X.env := by rfl) : EV X (.Attribute o m pos) σ H Q := by
  obtain ⟨pr, a, hp, Fa⟩ := O.ex
  refine ev_prop R.num.sc hp Fa hr hj (ev_mono q fun x H1 ⟨p, hp, h⟩ => ?_) hb
  obtain ⟨a, dx, e, hs⟩ := hp.slt
  subst e
  exact ⟨a, dx, _, rfl, hs, .ref a, p, rfl, hp, h⟩
end
/-! ### texts of data -/
theorem log_of {i : Int} (h : i.natAbs < 2 ^ 1900) : i.natAbs.log2 < 1920 := Nat.lt_trans (PySem.Flt.log2_lt_of (k := 1900) (by decide) h) (by decide)
/-- data whose text is told: depth and weight small, ints short -/
structure Tx (d : PyData) : Prop where
  sh : d.showable = true
  nd : d.hasDict = false
  dp : d.depth ≤ 60
  lf : d.leavesShort 1921 = true
  wt : d.weight ≤ 5000
theorem Tx.fits {d : PyData} (t : Tx d) : d.shown.length ≤ sizeLine := by
  have := PyData.shown_le 1921 (by decide) d t.lf
  have e : (1921 + 2) * d.weight ≤ 1923 * 5000 := Nat.mul_le_mul (by decide) t.wt
  rw [sizeLine_eq]
  omega
theorem short_int {i : Int} (h : i.natAbs.log2 < 1920) : PyData.leavesShort 1921 (.int i) = true := by
  simp only [PyData.leavesShort, decide_eq_true_eq]
  exact int_text_len_1921 h
section
variable {X : Cx} {H : Hp} {Q : VK} {k : Nat} {a : Addr} {d : PyData}
theorem cv_tx (hr : RoomG k X.A) (h : Dp X.K H (.ref a) d) (t : Tx d) (q : Q (.str d.shown) H) : CV X (.builtin "repr") [.ref a] H Q := cv_repr hr h t.sh t.nd t.dp t.fits q
end
theorem tx_pair {a b : Int} (ha : a.natAbs.log2 < 1920) (hb : b.natAbs.log2 < 1920) : Tx (.tuple [.int a, .int b]) := by
  refine ⟨?_, rfl, ?_, ?_, ?_⟩
  · simp [PyData.showable, PyData.showableAll, ha, hb]
  · simp [PyData.depth, PyData.depthAll]
  · have h1 := short_int ha
    have h2 := short_int hb
    simp only [PyData.leavesShort, PyData.leavesShortAll, Bool.and_eq_true] at h1 h2 ⊢
    exact ⟨h1, h2, trivial⟩
  · have t : ∀ i : Int, i.natAbs.log2 < 1920 → (if i = 0 then 0 else i.natAbs.log2 + 1) ≤ 1920 := fun i h => by split <;> omega
    have h1 := t a ha
    have h2 := t b hb
    simp [PyData.weight, PyData.weightAll]
    omega
theorem dp_pair {K : PySem.W.Frag} {H : Hp} {T : Addr} {a b : Int} (h : H T = some (.tup [.int a, .int b])) : Dp K H (.ref T) (.tuple [.int a, .int b]) := .tup (.of h) (.cons (.int _) (.cons (.int _) .nil))
theorem dp_bls {K : PySem.W.Frag} {H : Hp} : ∀ bs : List Bool, DpAll K H (bs.map V.bl) (bs.map PyData.bool)
  | [] => .nil
  | b :: bs => .cons (.bl b) (dp_bls bs)
end HvP
/-! a Ratio's text, told and read; == of Ratios -/
namespace HvP
open PySem PySem.Spec PyProof.Rows L2 Hv HvT SlX SX
local macro_rules | `(tactic| walk_at "hv name") => `(tactic| first
  | refine ev_var 0 (pv 0) rfl ?_ | refine ev_var 1 (pv 1) rfl ?_ | refine ev_var 2 (pv 2) rfl ?_ | refine ev_var 3 (pv 3) rfl ?_ | refine ev_var 4 (pv 4) rfl ?_
  | refine ev_var 5 (pv 5) rfl ?_ | refine ev_var 6 (pv 6) rfl ?_ | refine ev_var 7 (pv 7) rfl ?_ | refine ev_var 8 (pv 8) rfl ?_ | refine ev_var 9 (pv 9) rfl ?_
  | refine ev_var 10 (pv 10) rfl ?_ | refine ev_var 11 (pv 11) rfl ?_ | refine ev_var 12 (pv 12) rfl ?_ | refine ev_var 13 (pv 13) rfl ?_ | refine ev_var 14 (pv 14) rfl ?_)
local macro_rules | `(tactic| walk_at "hv hp") => `(tactic| first
  | with_reducible assumption
  | with_reducible exact upd_same
  | ((with_reducible refine' upd_keep ?a ?b); (case a => with_reducible assumption); (case b => walk_at "hv hp"))
  | ((with_reducible refine' Same.get ?a ?b); (case a => with_reducible assumption); (case b => walk_at "hv hp"))
  | ((with_reducible refine' ExB.gt ?a ?b ?c); (case a => with_reducible assumption); (case b => walk_at "hv hp"); (case c => walk_at "hv ne")))
local macro_rules | `(tactic| walk_at "hv ne") => `(tactic| first
  | assumption
  | (exact ne_of_none (by assumption) (by assumption))
  | (refine ne_of (by assumption) (by assumption) ?_; (intro hx; cases hx; done)))
local macro_rules | `(tactic| walk_at "hv same") => `(tactic| first
  | with_reducible assumption
  | with_reducible exact Same.refl _
  | ((with_reducible refine' Same.nw ?a ?b); (case a => with_reducible assumption); (case b => walk_at "hv same"))
  | ((with_reducible refine' Same.tr ?a ?b); (case a => with_reducible assumption); (case b => walk_at "hv same")))
local macro_rules | `(tactic| walk_at "hv exb") => `(tactic| first
  | with_reducible assumption
  | with_reducible exact ExB.refl _ _
  | ((with_reducible refine' ExB.nw ?a ?b); (case a => with_reducible assumption); (case b => walk_at "hv exb"))
  | ((with_reducible refine' ExB.trs ?a ?b); (case a => with_reducible assumption); (case b => walk_at "hv exb"))
  | ((with_reducible refine' ExB.tr ?a ?b); (case a => with_reducible assumption); (case b => walk_at "hv exb")))
local macro_rules | `(tactic| walk_at "hv sq") => `(tactic| first
  | assumption
  | exact .inl (by assumption)
  | exact .inr (by assumption)
  | ((with_reducible refine' SqL.of ?a); (case a => walk_at "hv hp"))
  | ((with_reducible refine' SqT.of ?a); (case a => walk_at "hv hp"))
  | ((with_reducible refine' Or.inl (SqL.of ?a)); (case a => walk_at "hv hp"))
  | ((with_reducible refine' Or.inr (SqT.of ?a)); (case a => walk_at "hv hp")))
local macro_rules | `(tactic| walk_at "hv op") => `(tactic| first
  | with_reducible refine ov_add ?_ | with_reducible refine ov_sub ?_ | ((with_reducible refine ov_mul ?h ?_); (case h => first | assumption | (walk_at "hv side"))) | ((with_reducible refine ov_mod ?h ?_); (case h => first | assumption | omega | (walk_at "hv side"))) | ((with_reducible refine ov_div ?h ?_); (case h => first | assumption | (walk_at "hv side"))) | ((with_reducible refine ov_pow ?h ?_); (case h => first | assumption | (walk_at "hv side")))
  | with_reducible refine ov_lt ?_ | with_reducible refine ov_le ?_ | with_reducible refine ov_gt ?_ | with_reducible refine ov_ge ?_ | with_reducible refine ov_eq ?_ | with_reducible refine ov_ne ?_ | with_reducible refine ov_eqs ?_ | with_reducible refine ov_nes ?_
  | with_reducible refine uv_neg ?_ | with_reducible refine cv_abs ?_ | with_reducible refine cv_int ?_ | with_reducible refine cv_intb ?_ | with_reducible refine cv_boolb ?_ | ((with_reducible refine cv_max ?h ?_); (case h => rfl)) | ((with_reducible refine cv_min ?h ?_); (case h => rfl))
  | ((with_reducible refine' cv_len ?h ?_); (case h => walk_at "hv sq")) | ((with_reducible refine' iv_lst ?h ?g ?_); (case h => walk_at "hv sq"); (case g => rfl)) | ((with_reducible refine' iv_tup ?h ?g ?_); (case h => walk_at "hv sq"); (case g => rfl)))
local macro_rules | `(tactic| walk_at "hv blt") => `(tactic| first
  | refine ev_intc (by assumption) ?_ | refine ev_abs (by assumption) ?_ | refine ev_len (by assumption) ?_ | refine ev_isinst (by assumption) ?_ | refine ev_repr (by assumption) ?_ | refine ev_all (by assumption) ?_ | refine ev_any (by assumption) ?_
  | refine ev_max (by assumption) ?_ | refine ev_min (by assumption) ?_ | refine ev_boolc (by assumption) ?_ | refine ev_sorted (by assumption) ?_ | refine ev_listc (by assumption) ?_ | refine ev_strc (by assumption) ?_ | refine ev_tuplec (by assumption) ?_ | refine ev_dictc (by assumption) ?_ | refine ev_sum (by assumption) ?_)
local macro_rules | `(tactic| walk_at "hv nblt") => `(tactic| first
  | refine ev_nint (by assumption) ?_ | refine ev_nbool (by assumption) ?_ | refine ev_nstr (by assumption) ?_ | refine ev_ndict (by assumption) ?_ | refine ev_nlist (by assumption) ?_ | refine ev_ntuple (by assumption) ?_)
local macro_rules | `(tactic| walk_at "hv one") => `(tactic| first
  | with_reducible refine bv_cons ?_ | ((with_reducible refine bv_id ?_); (refine bv_cons ?_)) | with_reducible refine bv_nil ?_ | with_reducible refine sv_ret ?_ | ((with_reducible refine sv_id ?_); (walk_at "hv set")) | with_reducible refine sv_if ?_ | ((with_reducible refine sv_expr ?_ ?h); (case h => rfl)) | ((with_reducible refine sv_slot ?_ ?h); (case h => rfl)) | ((with_reducible refine sv_seti ?_ ?a ?b ?c); (case a => (intro x; rfl)); (case b => rfl); (case c => rfl))
  | ((with_reducible refine ev_nm ?_); (first | walk_at "hv name" | walk_at "hv nblt"))
  | with_reducible refine ev_int ?_ | with_reducible refine ev_op ?_ | ((with_reducible refine ev_cmp ?_ ?h); (case h => first | exact nobehind _ (by decide) (by decide) | rfl))
  | ((with_reducible refine av_cons ?_ ?h); (case h => rfl)) | with_reducible refine av_nil ?_
  | with_reducible refine ev_str ?_ | with_reducible refine ev_bl ?_ | with_reducible refine ev_non ?_ | with_reducible refine ev_un ?_ | with_reducible refine ev_one ?_ | with_reducible refine ev_and ?_ | with_reducible refine ev_or ?_ | with_reducible refine ev_if ?_
  | with_reducible refine ev_tup ?_ | with_reducible refine ev_lst ?_ | ((with_reducible refine ev_ix ?h ?_); (case h => exact fun _ _ => rfl))
  | with_reducible refine tv_and ?_ | with_reducible refine tv_or ?_ | with_reducible refine tv_not ?_ | ((with_reducible refine tv_cmp ?_ ?h); (case h => first | exact nobehind _ (by decide) (by decide) | rfl)) | with_reducible refine wv_and ?_ | with_reducible refine wv_or ?_ | with_reducible refine wv_and1 ?_ | with_reducible refine wv_or1 ?_
  | walk_at "hv op"
  | ((with_reducible refine ev_cl ?_); (walk_at "hv blt"))
  | with_reducible refine ex_bl ?_ | with_reducible refine tru_bl ?_ | walk_at "hv ite"
  | ((with_reducible refine tv_val ?_ ?h); (case h => (intro x; rfl))))
local macro_rules | `(tactic| walk_at "hv loc") => `(tactic| first | exact .inl rfl | exact .inr rfl)
local macro_rules | `(tactic| walk_at "hv set") => `(tactic| first
  | refine sv_setS 0 rfl (by assumption) (by walk_at "hv loc") ?_ | refine sv_setS 1 rfl (by assumption) (by walk_at "hv loc") ?_ | refine sv_setS 2 rfl (by assumption) (by walk_at "hv loc") ?_ | refine sv_setS 3 rfl (by assumption) (by walk_at "hv loc") ?_
  | refine sv_setS 4 rfl (by assumption) (by walk_at "hv loc") ?_ | refine sv_setS 5 rfl (by assumption) (by walk_at "hv loc") ?_ | refine sv_setS 6 rfl (by assumption) (by walk_at "hv loc") ?_ | refine sv_setS 7 rfl (by assumption) (by walk_at "hv loc") ?_
  | refine sv_setS 8 rfl (by assumption) (by walk_at "hv loc") ?_ | refine sv_setS 9 rfl (by assumption) (by walk_at "hv loc") ?_ | refine sv_setS 10 rfl (by assumption) (by walk_at "hv loc") ?_ | refine sv_setS 11 rfl (by assumption) (by walk_at "hv loc") ?_)
local macro_rules | `(tactic| walk_at "hv dec") => `(tactic| first | assumption | rfl | omega | decide | (intro hz; cases hz; done))
local macro_rules | `(tactic| walk_at "hv ite") => `(tactic| first
  | with_reducible refine iteT ?_ | with_reducible refine iteF ?_ | with_reducible refine iteNF ?_ | with_reducible refine iteNT ?_
  | ((with_reducible refine ite_dec1 ?h ?_); (case h => walk_at "hv dec")) | ((with_reducible refine ite_dec0 ?h ?_); (case h => walk_at "hv dec"))
  | ((with_reducible refine ite_decN1 ?h ?_); (case h => walk_at "hv dec")) | ((with_reducible refine ite_decN0 ?h ?_); (case h => walk_at "hv dec")))
local macro_rules | `(tactic| walk_at "hv s") => `(tactic| (repeat (walk_at "hv one")))
local macro_rules | `(tactic| walk_at "hv rat") => `(tactic| first
  | assumption
  | ((with_reducible refine' RatV.nw ?a ?b); (case a => with_reducible assumption); (case b => walk_at "hv rat"))
  | ((with_reducible refine' RatV.sm ?a ?b); (case a => with_reducible assumption); (case b => walk_at "hv rat")))
local macro_rules | `(tactic| walk_at "hv fld") => `(tactic| first
  | ((refine ev_above (by assumption) ?_); (walk_at "hv name"); (refine ⟨_, by walk_at "hv rat", ?_⟩))
  | ((refine ev_below (by assumption) ?_); (walk_at "hv name"); (refine ⟨_, by walk_at "hv rat", ?_⟩)))
local macro_rules | `(tactic| walk_at "hv r") => `(tactic| (repeat (first | (walk_at "hv fld") | (walk_at "hv one"))))
section
variable {P : Program} {w : World} {K : PySem.W.Frag} {mg : Str → Option Value} {base : Heap} {cs : List Addr} {f : Addr} {fd : FuncData}
theorem lo19 {i : Int} (h : i.natAbs < 2 ^ 1900) : i.natAbs.log2 < 1920 := Nat.lt_trans (PySem.Flt.log2_lt_of (k := 1900) (by decide) h) (by decide)
theorem lo19n {n : Nat} (h : n < 2 ^ 1900) : ((n : Int)).natAbs.log2 < 1920 := lo19 (by rw [Int.natAbs_natCast]; exact h)
theorem short_line {a : Nat} (h : a ≤ 5000) : a ≤ sizeLine := Nat.le_trans h (by rw [sizeLine_eq]; decide)
theorem cat_S (l : List Nat) : Str.empty ++ S l = S l := TL.ext_tl (by rw [TL.tl_append]; rfl)
theorem den_one {q : Rat} : ((q.den : Int) = 1) = (q.den = 1) := propext ⟨fun h => by omega, fun h => by omega⟩
def sp_text (K : PySem.W.Frag) : Sp := fun vs H Q _ => ∃ x p, vs = [x] ∧ RatV K H x p ∧ p.num.natAbs < 2 ^ 1900 ∧ p.den < 2 ^ 1900 ∧ Q (.str (ratT p)) H
theorem ok_Ratio_text (R : RW K mg cs) (F : FD K d_Ratio_text fd) : FnG P w K mg base 1 (d_Ratio_text.at_ K) (sp_text K) := by
  have S := s_Ratio_text
  refine okG (dv := []) (ds := []) F S (FunD.bindsN F fun _ _ _ _ _ _ us hl => match us, hl with | [_], _ => rfl) .nil (fun vs H Q E h => ?_) (fun cdv A outer s H vs Q E hr h => ?_)
  · obtain ⟨_, _, rfl, _⟩ := h; rfl
  obtain ⟨x, p, rfl, hx, b1, b2, h⟩ := h
  have B := R.B
  refine ex_bv ?_
  walk_at "hv r"
  refine ite_dec (fun h1 => ?_) (fun h1 => ?_)
  · walk_at "hv r"
    refine cv_strI (lo19 b1) ?_
    rw [den_one] at h1
    unfold ratT at h
    rw [ratL_one h1] at h
    show Q (.str (Str.ofString (toString p.num))) H
    rw [str_int]
    exact h
  · rw [den_one] at h1
    unfold ratT at h
    rw [ratL_two h1] at h
    have l1 := num_short b1
    have l2 := num_short b2
    have l3 : (intL p.num).length ≤ 601 := by
      unfold intL
      split
      · rw [List.length_cons]; omega
      · omega
    refine ev_fs ?_
    refine jv_cons (ev_fmtI ?_)
    walk_at "hv r"
    refine ⟨_, rfl, lo19 b1, _, rfl, ?_, ?_⟩
    · show (Str.empty ++ Str.ofString (toString p.num)).length ≤ _
      rw [str_int, cat_S, S_len]
      exact short_line (by omega)
    refine jv_cons ?_
    walk_at "hv r"
    refine ⟨_, rfl, ?_, ?_⟩
    · show (Str.empty ++ Str.ofString (toString p.num) ++ "/").length ≤ _
      rw [str_int, cat_S, e_slash, S_cat, S_len]
      exact short_line (by simp; omega)
    refine jv_cons (ev_fmtI ?_)
    walk_at "hv r"
    refine ⟨_, rfl, lo19n b2, _, rfl, ?_, ?_⟩
    · show (Str.empty ++ Str.ofString (toString p.num) ++ "/" ++ Str.ofString (toString (p.den : Int))).length ≤ _
      rw [str_int, cat_S, e_slash, S_cat, num_S, S_cat, S_len]
      exact short_line (by simp; omega)
    refine jv_nil ?_
    show Q (.str (Str.empty ++ Str.ofString (toString p.num) ++ "/" ++ Str.ofString (toString (p.den : Int)))) H
    rw [str_int, cat_S, e_slash, S_cat, num_S, S_cat]
    have e : intL p.num ++ [47] ++ TL.numL p.den = intL p.num ++ 47 :: TL.numL p.den := by simp
    rw [e]
    exact h
def sp_is_figures : Sp := fun vs H Q _ => ∃ l : List Nat, vs = [.str (S l)] ∧ l.length ≤ 5000 ∧ ∀ H', Same H H' → Q (.bl (figB l)) H'
theorem digits_S : ("0123456789" : Str) = S [48, 49, 50, 51, 52, 53, 54, 55, 56, 57] := by decide +kernel
theorem mem_dig (c : Nat) : decide (c ∈ [48, 49, 50, 51, 52, 53, 54, 55, 56, 57]) = (decide (48 ≤ c) && decide (c ≤ 57)) := by
  rw [Bool.eq_iff_iff]
  simp only [decide_eq_true_eq, Bool.and_eq_true, List.mem_cons, List.not_mem_nil, or_false]
  omega
theorem ok_is_figures (B : Blt mg) (hd : ∃ t, mg "DIGITS" = some (.str "0123456789" t)) (F : FD K d_is_figures fd) : FnG P w K mg base 1 (d_is_figures.at_ K) sp_is_figures := by
  have S := s_is_figures
  refine okG (dv := []) (ds := []) F S (FunD.bindsN F fun _ _ _ _ _ _ us hl => match us, hl with | [_], _ => rfl) .nil (fun vs H Q E h => ?_) (fun cdv A outer s H vs Q E hr h => ?_)
  · obtain ⟨_, rfl, _⟩ := h; rfl
  obtain ⟨l, rfl, hl, h⟩ := h
  obtain ⟨t, hd⟩ := hd
  unfold figB at h
  refine ex_bv ?_
  walk_at "hv s"
  have e1 : decide (SX.S l = "") = decide (l = []) := by
    rw [e_nil]
    exact decide_eq_decide.mpr ⟨fun z => S_inj z, fun z => by rw [z]⟩
  rw [e1]
  by_cases hn : l = []
  · subst hn
    exact h H (Same.refl _)
  have hn1 : decide (l = []) = false := decide_eq_false hn
  have hn2 : decide (l ≠ []) = true := decide_eq_true hn
  rw [hn2] at h
  simp only [Bool.true_and] at h
  rw [hn1]
  walk_at "hv s"
  refine ev_lcS (own := [("sign", 1)]) 1 rfl S.nd (blkOk_by (by kernel_rfl)) (fun _ _ _ _ _ => pg_name S.nd rfl (.inl rfl)) (fun _ => rfl) ?_
  walk_at "hv s"
  refine ⟨SX.S l, rfl, ?_, fun D hD => ⟨fun i ys H' => ys = (l.take i).map (fun c => V.bl (decide (48 ≤ c) && decide (c ≤ 57))) ∧ Same H H', ⟨rfl, same_upd hD⟩, ?_, ?_⟩⟩
  · show l.toArray.size ≤ _
    rw [List.size_toArray]
    omega
  · rintro i ys c H' hc hli hDy ⟨rfl, e⟩ s0 H0 C cl fp
    have hc2 : l[i]? = some c := by rw [← hc]; simp [SX.S]
    walk_at "hv s"
    refine ev_gl rfl hd (v := .str "0123456789") ⟨t, rfl⟩ ?_
    walk_at "hv s"
    refine ov_inS ?_
    refine ⟨hDy, ?_, Same.mut e hD⟩
    rw [digits_S]
    show _ ++ [V.bl (decide (c ∈ [48, 49, 50, 51, 52, 53, 54, 55, 56, 57]))] = _
    rw [mem_dig, List.take_add_one, hc2]
    simp
  · rintro ys H' hly hDy ⟨rfl, e⟩
    have ez : (SX.S l).cps.size = l.length := by simp [SX.S]
    rw [ez, List.take_length] at hDy
    walk_at "hv s"
    refine cv_all rfl (bs := l.map fun c => decide (48 ≤ c) && decide (c ≤ 57)) (.of (by rw [List.map_map]; exact hDy)) ?_
    have ea : (l.map fun c => decide (48 ≤ c) && decide (c ≤ 57)).all id = l.all fun c => decide (48 ≤ c) && decide (c ≤ 57) := by
      rw [List.all_map]
      rfl
    rw [ea]
    cases hb : l.all fun c => decide (48 ≤ c) && decide (c ≤ 57)
    · walk_at "hv s"
      rw [hb] at h
      exact h H' e
    walk_at "hv s"
    rw [hb] at h
    simp only [Bool.true_and] at h
    have e3 : decide (SX.S l = "0") = decide (l = [48]) := by
      rw [e_zero]
      exact decide_eq_decide.mpr ⟨fun z => S_inj z, fun z => by rw [z]⟩
    rw [e3]
    by_cases h0 : l = [48]
    · rw [decide_eq_true h0] at h ⊢
      walk_at "hv s"
      exact h H' e
    rw [decide_eq_false h0] at h ⊢
    simp only [Bool.false_or] at h
    walk_at "hv s"
    obtain ⟨c, r, rfl⟩ : ∃ c r, l = c :: r := by
      cases l with
      | nil => exact absurd rfl hn
      | cons c r => exact ⟨c, r, rfl⟩
    refine iv_str (z := SX.S (c :: r)) (c := c) ?_ (by simp [SX.S, atI, ixN]) ?_
    · rw [S_len]
      exact short_line hl
    walk_at "hv s"
    have e4 : decide ((⟨#[c]⟩ : Str) = "0") = decide (c = 48) := by
      rw [e_zero]
      exact decide_eq_decide.mpr ⟨fun z => by have := S_inj (a := [c]) z; simpa using this, fun z => by rw [z]⟩
    rw [e4]
    have e5 : decide ((c :: r).head? ≠ some 48) = !decide (c = 48) := by
      by_cases hc : c = 48 <;> simp [hc]
    rw [e5] at h
    exact h H' e
end
end HvP
/-! Ratio.of of a Ratio's text; == of Ratios -/
namespace HvP
open PySem PySem.Spec PyProof.Rows L2 Hv HvT SlX SX
local macro_rules | `(tactic| walk_at "hv name") => `(tactic| first
  | refine ev_var 0 (pv 0) rfl ?_ | refine ev_var 1 (pv 1) rfl ?_ | refine ev_var 2 (pv 2) rfl ?_ | refine ev_var 3 (pv 3) rfl ?_ | refine ev_var 4 (pv 4) rfl ?_
  | refine ev_var 5 (pv 5) rfl ?_ | refine ev_var 6 (pv 6) rfl ?_ | refine ev_var 7 (pv 7) rfl ?_ | refine ev_var 8 (pv 8) rfl ?_ | refine ev_var 9 (pv 9) rfl ?_
  | refine ev_var 10 (pv 10) rfl ?_ | refine ev_var 11 (pv 11) rfl ?_ | refine ev_var 12 (pv 12) rfl ?_ | refine ev_var 13 (pv 13) rfl ?_ | refine ev_var 14 (pv 14) rfl ?_)
local macro_rules | `(tactic| walk_at "hv hp") => `(tactic| first
  | with_reducible assumption
  | with_reducible exact upd_same
  | ((with_reducible refine' upd_keep ?a ?b); (case a => with_reducible assumption); (case b => walk_at "hv hp"))
  | ((with_reducible refine' Same.get ?a ?b); (case a => with_reducible assumption); (case b => walk_at "hv hp"))
  | ((with_reducible refine' ExB.gt ?a ?b ?c); (case a => with_reducible assumption); (case b => walk_at "hv hp"); (case c => walk_at "hv ne")))
local macro_rules | `(tactic| walk_at "hv ne") => `(tactic| first
  | assumption
  | (exact ne_of_none (by assumption) (by assumption))
  | (refine ne_of (by assumption) (by assumption) ?_; (intro hx; cases hx; done)))
local macro_rules | `(tactic| walk_at "hv same") => `(tactic| first
  | with_reducible assumption
  | with_reducible exact Same.refl _
  | ((with_reducible refine' Same.nw ?a ?b); (case a => with_reducible assumption); (case b => walk_at "hv same"))
  | ((with_reducible refine' Same.tr ?a ?b); (case a => with_reducible assumption); (case b => walk_at "hv same")))
local macro_rules | `(tactic| walk_at "hv exb") => `(tactic| first
  | with_reducible assumption
  | with_reducible exact ExB.refl _ _
  | ((with_reducible refine' ExB.nw ?a ?b); (case a => with_reducible assumption); (case b => walk_at "hv exb"))
  | ((with_reducible refine' ExB.trs ?a ?b); (case a => with_reducible assumption); (case b => walk_at "hv exb"))
  | ((with_reducible refine' ExB.tr ?a ?b); (case a => with_reducible assumption); (case b => walk_at "hv exb")))
local macro_rules | `(tactic| walk_at "hv sq") => `(tactic| first
  | assumption
  | exact .inl (by assumption)
  | exact .inr (by assumption)
  | ((with_reducible refine' SqL.of ?a); (case a => walk_at "hv hp"))
  | ((with_reducible refine' SqT.of ?a); (case a => walk_at "hv hp"))
  | ((with_reducible refine' Or.inl (SqL.of ?a)); (case a => walk_at "hv hp"))
  | ((with_reducible refine' Or.inr (SqT.of ?a)); (case a => walk_at "hv hp")))
local macro_rules | `(tactic| walk_at "hv op") => `(tactic| first
  | with_reducible refine ov_add ?_ | with_reducible refine ov_sub ?_ | ((with_reducible refine ov_mul ?h ?_); (case h => first | assumption | (walk_at "hv side"))) | ((with_reducible refine ov_mod ?h ?_); (case h => first | assumption | omega | (walk_at "hv side"))) | ((with_reducible refine ov_div ?h ?_); (case h => first | assumption | (walk_at "hv side"))) | ((with_reducible refine ov_pow ?h ?_); (case h => first | assumption | (walk_at "hv side")))
  | with_reducible refine ov_lt ?_ | with_reducible refine ov_le ?_ | with_reducible refine ov_gt ?_ | with_reducible refine ov_ge ?_ | with_reducible refine ov_eq ?_ | with_reducible refine ov_ne ?_ | with_reducible refine ov_eqs ?_ | with_reducible refine ov_nes ?_
  | with_reducible refine uv_neg ?_ | with_reducible refine cv_abs ?_ | with_reducible refine cv_int ?_ | with_reducible refine cv_intb ?_ | with_reducible refine cv_boolb ?_ | ((with_reducible refine cv_max ?h ?_); (case h => rfl)) | ((with_reducible refine cv_min ?h ?_); (case h => rfl))
  | ((with_reducible refine' cv_len ?h ?_); (case h => walk_at "hv sq")) | ((with_reducible refine' iv_lst ?h ?g ?_); (case h => walk_at "hv sq"); (case g => rfl)) | ((with_reducible refine' iv_tup ?h ?g ?_); (case h => walk_at "hv sq"); (case g => rfl)))
local macro_rules | `(tactic| walk_at "hv blt") => `(tactic| first
  | refine ev_intc (by assumption) ?_ | refine ev_abs (by assumption) ?_ | refine ev_len (by assumption) ?_ | refine ev_isinst (by assumption) ?_ | refine ev_repr (by assumption) ?_ | refine ev_all (by assumption) ?_ | refine ev_any (by assumption) ?_
  | refine ev_max (by assumption) ?_ | refine ev_min (by assumption) ?_ | refine ev_boolc (by assumption) ?_ | refine ev_sorted (by assumption) ?_ | refine ev_listc (by assumption) ?_ | refine ev_strc (by assumption) ?_ | refine ev_tuplec (by assumption) ?_ | refine ev_dictc (by assumption) ?_ | refine ev_sum (by assumption) ?_)
local macro_rules | `(tactic| walk_at "hv nblt") => `(tactic| first
  | refine ev_nint (by assumption) ?_ | refine ev_nbool (by assumption) ?_ | refine ev_nstr (by assumption) ?_ | refine ev_ndict (by assumption) ?_ | refine ev_nlist (by assumption) ?_ | refine ev_ntuple (by assumption) ?_)
local macro_rules | `(tactic| walk_at "hv one") => `(tactic| first
  | with_reducible refine bv_cons ?_ | ((with_reducible refine bv_id ?_); (refine bv_cons ?_)) | with_reducible refine bv_nil ?_ | with_reducible refine sv_ret ?_ | ((with_reducible refine sv_id ?_); (walk_at "hv set")) | with_reducible refine sv_if ?_ | ((with_reducible refine sv_expr ?_ ?h); (case h => rfl)) | ((with_reducible refine sv_slot ?_ ?h); (case h => rfl)) | ((with_reducible refine sv_seti ?_ ?a ?b ?c); (case a => (intro x; rfl)); (case b => rfl); (case c => rfl))
  | ((with_reducible refine ev_nm ?_); (first | walk_at "hv name" | walk_at "hv nblt"))
  | with_reducible refine ev_int ?_ | with_reducible refine ev_op ?_ | ((with_reducible refine ev_cmp ?_ ?h); (case h => first | exact nobehind _ (by decide) (by decide) | rfl))
  | ((with_reducible refine av_cons ?_ ?h); (case h => rfl)) | with_reducible refine av_nil ?_
  | with_reducible refine ev_str ?_ | with_reducible refine ev_bl ?_ | with_reducible refine ev_non ?_ | with_reducible refine ev_un ?_ | with_reducible refine ev_one ?_ | with_reducible refine ev_and ?_ | with_reducible refine ev_or ?_ | with_reducible refine ev_if ?_
  | with_reducible refine ev_tup ?_ | with_reducible refine ev_lst ?_ | ((with_reducible refine ev_ix ?h ?_); (case h => exact fun _ _ => rfl))
  | with_reducible refine tv_and ?_ | with_reducible refine tv_or ?_ | with_reducible refine tv_not ?_ | ((with_reducible refine tv_cmp ?_ ?h); (case h => first | exact nobehind _ (by decide) (by decide) | rfl)) | with_reducible refine wv_and ?_ | with_reducible refine wv_or ?_ | with_reducible refine wv_and1 ?_ | with_reducible refine wv_or1 ?_
  | walk_at "hv op"
  | ((with_reducible refine ev_cl ?_); (walk_at "hv blt"))
  | with_reducible refine ex_bl ?_ | with_reducible refine tru_bl ?_ | walk_at "hv ite"
  | ((with_reducible refine tv_val ?_ ?h); (case h => (intro x; rfl))))
local macro_rules | `(tactic| walk_at "hv loc") => `(tactic| first | exact .inl rfl | exact .inr rfl)
local macro_rules | `(tactic| walk_at "hv set") => `(tactic| first
  | refine sv_setS 0 rfl (by assumption) (by walk_at "hv loc") ?_ | refine sv_setS 1 rfl (by assumption) (by walk_at "hv loc") ?_ | refine sv_setS 2 rfl (by assumption) (by walk_at "hv loc") ?_ | refine sv_setS 3 rfl (by assumption) (by walk_at "hv loc") ?_
  | refine sv_setS 4 rfl (by assumption) (by walk_at "hv loc") ?_ | refine sv_setS 5 rfl (by assumption) (by walk_at "hv loc") ?_ | refine sv_setS 6 rfl (by assumption) (by walk_at "hv loc") ?_ | refine sv_setS 7 rfl (by assumption) (by walk_at "hv loc") ?_
  | refine sv_setS 8 rfl (by assumption) (by walk_at "hv loc") ?_ | refine sv_setS 9 rfl (by assumption) (by walk_at "hv loc") ?_ | refine sv_setS 10 rfl (by assumption) (by walk_at "hv loc") ?_ | refine sv_setS 11 rfl (by assumption) (by walk_at "hv loc") ?_)
local macro_rules | `(tactic| walk_at "hv dec") => `(tactic| first | assumption | rfl | omega | decide | (intro hz; cases hz; done))
local macro_rules | `(tactic| walk_at "hv ite") => `(tactic| first
  | with_reducible refine iteT ?_ | with_reducible refine iteF ?_ | with_reducible refine iteNF ?_ | with_reducible refine iteNT ?_
  | ((with_reducible refine ite_dec1 ?h ?_); (case h => walk_at "hv dec")) | ((with_reducible refine ite_dec0 ?h ?_); (case h => walk_at "hv dec"))
  | ((with_reducible refine ite_decN1 ?h ?_); (case h => walk_at "hv dec")) | ((with_reducible refine ite_decN0 ?h ?_); (case h => walk_at "hv dec")))
local macro_rules | `(tactic| walk_at "hv s") => `(tactic| (repeat (walk_at "hv one")))
local macro_rules | `(tactic| walk_at "hv rat") => `(tactic| first
  | assumption
  | ((with_reducible refine' RatV.nw ?a ?b); (case a => with_reducible assumption); (case b => walk_at "hv rat"))
  | ((with_reducible refine' RatV.sm ?a ?b); (case a => with_reducible assumption); (case b => walk_at "hv rat")))
local macro_rules | `(tactic| walk_at "hv fld") => `(tactic| first
  | ((refine ev_above (by assumption) ?_); (walk_at "hv name"); (refine ⟨_, by walk_at "hv rat", ?_⟩))
  | ((refine ev_below (by assumption) ?_); (walk_at "hv name"); (refine ⟨_, by walk_at "hv rat", ?_⟩)))
local macro_rules | `(tactic| walk_at "hv r") => `(tactic| (repeat (first | (walk_at "hv fld") | (walk_at "hv one"))))
section
variable {P : Program} {w : World} {K : PySem.W.Frag} {mg : Str → Option Value} {base : Heap} {cs : List Addr} {f : Addr} {fd : FuncData}
theorem num_ok_ (n : Nat) : PyData.strOk (SX.S (TL.numL n)) = true := by
  unfold PyData.strOk
  rw [← Array.all_toList]
  refine List.all_eq_true.mpr fun c hc => decide_eq_true ?_
  have := TL.numL_digits n c hc
  omega
/-- the text of a Ratio read -/
def sp_ofT (K : PySem.W.Frag) : Sp := fun vs H Q _ => ∃ p : Rat, vs = [.str (ratT p)] ∧ p.num.natAbs < 2 ^ 1900 ∧ p.den < 2 ^ 1900 ∧ ∀ v H', RatV K H' v p → Same H H' → Q v H'
theorem ok_of_text (R : RW K mg cs) (hm : ∃ t, mg "MOST_SIGNS" = some (.int 1802 t)) (gf : GF P w K mg base 1 "is_figures" sp_is_figures) (g2 : GM P w K mg base 2 "Ratio" (sp_mk2 K)) {pr : Addr} (pt : PropG K (CR K) "text" pr (d_Ratio_text.at_ K)) (Ft : FnG P w K mg base 1 (d_Ratio_text.at_ K) (sp_text K))
    (F : FD K d_Ratio_of fd) : FnG P w K mg base 4 (d_Ratio_of.at_ K) (sp_ofT K) := by
  have S := s_Ratio_of
  refine okG (dv := []) (ds := []) F S (FunD.bindsN F fun _ _ _ _ _ _ us hl => match us, hl with | [_], _ => rfl) .nil (fun vs H Q E h => ?_) (fun cdv A outer s H vs Q E hr h => ?_)
  · obtain ⟨_, rfl, _⟩ := h; rfl
  obtain ⟨p, rfl, b1, b2, h⟩ := h
  have B := R.B
  obtain ⟨tm, hm⟩ := hm
  refine ex_bv ?_
  walk_at "hv s"
  refine cv_isT R.csk (.str _) (by decide) ?_
  refine ex_bl ?_
  refine iteNT ?_
  walk_at "hv s"
  have hlen : (ratT p).length ≤ 1202 := by
    unfold ratT
    rw [S_len]
    exact ratL_len b1 b2
  refine cv_lenS (short_line (by omega)) ?_
  walk_at "hv s"
  refine ev_gl rfl hm (v := .int 1802) ⟨tm, rfl⟩ ?_
  walk_at "hv s"
  have hsg : decide (Txt.slice (SX.S (ratL p)) none (some 1) = "-") = decide (p.num < 0) := by
    rw [slice_to (by decide), e_minus, ← ratL_head p]
    exact decide_eq_decide.mpr ⟨fun z => S_inj z, fun z => by show SX.S ((ratL p).take (1 : Int).toNat) = _; rw [show (1 : Int).toNat = 1 from rfl, z]⟩
  refine sv_star 3 4 rfl S.nd rfl rfl (by walk_at "hv loc") (by walk_at "hv loc") ?_
  refine ev_split ?_
  refine ev_mono (Q := fun v H1 => v = .str (SX.S (ratM p.num.natAbs p.den)) ∧ H1 = H) ?_ ?_
  · refine ev_if ?_
    walk_at "hv s"
    refine ev_slS ?_
    walk_at "hv s"
    refine os_no (os_so ?_)
    walk_at "hv s"
    refine ⟨_, rfl, _, rfl, short_line (by omega), ?_⟩
    walk_at "hv s"
    show if decide (Txt.slice (SX.S (ratL p)) none (some 1) = "-") = true then _ else _
    rw [hsg]
    refine ite_dec (fun hs => ?_) (fun hs => ?_)
    · refine ev_slS ?_
      walk_at "hv s"
      refine os_so ?_
      walk_at "hv s"
      refine ⟨_, rfl, os_no ⟨_, rfl, short_line (by omega), ?_, rfl⟩⟩
      show V.str (Txt.slice (SX.S (ratL p)) (some 1) none) = _
      rw [slice_from (by decide)]
      unfold ratL
      rw [if_pos hs]
      rfl
    · walk_at "hv s"
      refine ⟨?_, rfl⟩
      unfold ratT ratL
      rw [if_neg hs]
  rintro v H1 ⟨rfl, rfl⟩
  refine ⟨⟨_, rfl⟩, ?_⟩
  walk_at "hv s"
  refine ⟨_, _, rfl, rfl, rfl, ?_, fun l0 hl0 => ?_⟩
  · rw [S_len]
    have := ratM_len (n := p.num.natAbs) (d := p.den) b1 b2
    exact short_line (by omega)
  rw [split_rat]
  have hsp : (ratP p.num.natAbs p.den).map SX.S = SX.S (TL.numL p.num.natAbs) :: (if p.den = 1 then [] else [SX.S (TL.numL p.den)]) := by
    unfold ratP
    split <;> rfl
  rw [hsp]
  have l1 := num_short b1
  have l2 := num_short b2
  refine ⟨l0, _, _, rfl, .of upd_same, fun m0 hm0 => ?_⟩
  walk_at "hv s"
  have hmsl : (if p.den = 1 then [] else [SX.S (TL.numL p.den)] : List Str).length ≤ 1 := by split <;> simp
  have hmsf : ∀ z ∈ (if p.den = 1 then [] else [SX.S (TL.numL p.den)] : List Str), ∃ n : Nat, z = SX.S (TL.numL n) ∧ (TL.numL n).length ≤ 600 := fun z hz => by
    split at hz
    · simp at hz
    · rw [List.mem_singleton.mp hz]
      exact ⟨_, rfl, l2⟩
  have hmsn : (p.den = 1 ∧ (if p.den = 1 then [] else [SX.S (TL.numL p.den)] : List Str) = []) ∨ (p.den ≠ 1 ∧ (if p.den = 1 then [] else [SX.S (TL.numL p.den)] : List Str) = [SX.S (TL.numL p.den)]) := by
    by_cases hd : p.den = 1
    · exact .inl ⟨hd, if_pos hd⟩
    · exact .inr ⟨hd, if_neg hd⟩
  generalize (if p.den = 1 then [] else [SX.S (TL.numL p.den)] : List Str) = ms at hmsl hmsf hmsn hm0 ⊢
  refine ite_dec0 (by rw [List.length_map]; omega) ?_
  walk_at "hv s"
  refine ev_lcL (own := [("part", 5)]) 5 rfl S.nd (blkOk_by (by kernel_rfl)) (fun _ _ _ _ _ => pg_name S.nd rfl (.inl rfl)) (fun _ => rfl) ?_
  refine ev_lst ?_
  walk_at "hv s"
  refine av_star ?_
  walk_at "hv s"
  refine ⟨m0, ms.map V.str, rfl, .inr (.of upd_same), ?_⟩
  walk_at "hv s"
  have e0 : Same H1 (upd H1 l0 (.lst ((SX.S (TL.numL p.num.natAbs) :: ms).map V.str))) := same_upd hl0
  have e1 : Same H1 (upd (upd H1 l0 (.lst ((SX.S (TL.numL p.num.natAbs) :: ms).map V.str))) m0 (.lst (ms.map V.str))) := Same.nw hm0 e0
  have am : (upd (upd H1 l0 (.lst ((SX.S (TL.numL p.num.natAbs) :: ms).map V.str))) m0 (.lst (ms.map V.str))) m0 = some (.lst (ms.map V.str)) := upd_same
  generalize upd (upd H1 l0 (.lst ((SX.S (TL.numL p.num.natAbs) :: ms).map V.str))) m0 (.lst (ms.map V.str)) = H2 at e1 am ⊢
  refine ⟨sz_ok (by simp; omega), fun k0 hk0 => ?_⟩
  have e2 : Same H1 (upd H2 k0 (.lst (V.str (SX.S (TL.numL p.num.natAbs)) :: (ms.map V.str ++ [])))) := Same.nw hk0 e1
  have ak : (upd H2 k0 (.lst (V.str (SX.S (TL.numL p.num.natAbs)) :: (ms.map V.str ++ [])))) k0 = some (.lst (V.str (SX.S (TL.numL p.num.natAbs)) :: (ms.map V.str ++ []))) := upd_same
  have am2 := upd_keep (o := .lst (V.str (SX.S (TL.numL p.num.natAbs)) :: (ms.map V.str ++ []))) hk0 am
  generalize upd H2 k0 (.lst (V.str (SX.S (TL.numL p.num.natAbs)) :: (ms.map V.str ++ []))) = H3 at e2 ak am2 ⊢
  refine ⟨k0, _, rfl, .of ak, by simp; omega, fun D hD => ⟨fun i ys H' => ys = List.replicate i (V.bl true) ∧ Same H3 H', ⟨rfl, same_upd hD⟩, fun i ys H' ⟨_, e⟩ => .of (e _ _ ak), ?_, ?_⟩⟩
  · rintro i ys v H' hv hli hDy ⟨rfl, e⟩ s0 H0 C cl fp
    have hv2 : ∃ n : Nat, v = .str (SX.S (TL.numL n)) ∧ (TL.numL n).length ≤ 600 := by
      have hm := List.mem_of_getElem? hv
      simp only [List.append_nil, List.mem_cons, List.mem_map] at hm
      rcases hm with rfl | ⟨z, hz, rfl⟩
      · exact ⟨_, rfl, l1⟩
      · obtain ⟨n, rfl, hn⟩ := hmsf z hz
        exact ⟨n, rfl, hn⟩
    obtain ⟨n, rfl, hn⟩ := hv2
    refine ev_call gf hr (by decide) rfl passL ?_
    walk_at "hv s"
    refine ⟨_, rfl, by omega, fun H4 e4 => ?_⟩
    rw [fig_num]
    refine ⟨e4 _ _ hDy, ?_, Same.mut (e.trans e4) hD⟩
    rw [List.replicate_succ']
  rintro ys H' hly hDy ⟨rfl, e⟩
  walk_at "hv s"
  refine cv_all rfl (bs := List.replicate (V.str (SX.S (TL.numL p.num.natAbs)) :: (ms.map V.str ++ [])).length true) (.of (by rw [List.map_replicate]; exact hDy)) ?_
  have ea : (List.replicate (V.str (SX.S (TL.numL p.num.natAbs)) :: (ms.map V.str ++ [])).length true).all id = true := by simp
  rw [ea]
  have am3 := e _ _ am2
  have e3 := e2.trans e
  refine ex_bl ?_
  refine iteNT ?_
  refine bv_nil ?_
  refine bv_cons ?_
  refine sv_cut (fun σ H4 => σ = [some (.str (ratT p)), some (.int p.den), none, some (.str (SX.S (TL.numL p.num.natAbs))), some (.ref m0), none] ∧ Same H1 H4) ?_ ?_
  · walk_at "hv s"
    refine ⟨sz_ok (by simp), fun k1 hk1 => ?_⟩
    rcases hmsn with ⟨hd, rfl⟩ | ⟨hd, rfl⟩
    · refine ov_neD hr (.lst (.of (upd_keep hk1 am3)) .nil) (.lst (.of upd_same) .nil) rfl rfl ?_
      have q1 : PyData.eqv (.list []) (.list []) = true := by simp [PyData.eqv, PyData.eqvAll]
      rw [q1]
      walk_at "hv s"
      exact ⟨by rw [hd]; rfl, Same.nw hk1 e3⟩
    · refine ov_neD hr (.lst (.of (upd_keep hk1 am3)) (.cons (.str _) .nil)) (.lst (.of upd_same) .nil) (by simp [SeqAt.shaped, PyData.canLay0, PyData.canLayAll0, PyData.depth, PyData.depthAll]; exact num_ok_ p.den) rfl ?_
      have q1 : PyData.eqv (.list [.str (SX.S (TL.numL p.den))]) (.list []) = false := by simp [PyData.eqv, PyData.eqvAll]
      rw [q1]
      walk_at "hv s"
      refine cv_intS (int_back b2) (by rw [S_len]; omega) ?_
      exact ⟨rfl, Same.nw hk1 e3⟩
  rintro σ H4 ⟨rfl, e4⟩
  have hden : ¬ ((p.den : Int) = 0) := by
    have := p.den_pos
    omega
  walk_at "hv s"
  refine ev_make g2 hr (by decide) rfl passL ?_
  refine av_cons ?_
  refine ev_mono (Q := fun v H5 => v = .int p.num ∧ H5 = H4) ?_ ?_
  · refine ev_if ?_
    walk_at "hv s"
    refine ev_slS ?_
    walk_at "hv s"
    refine os_no (os_so ?_)
    walk_at "hv s"
    refine ⟨_, rfl, _, rfl, short_line (by omega), ?_⟩
    walk_at "hv s"
    show if decide (Txt.slice (SX.S (ratL p)) none (some 1) = "-") = true then _ else _
    rw [hsg]
    refine ite_dec (fun hs => ?_) (fun hs => ?_)
    · walk_at "hv s"
      refine cv_intS (int_back b1) (by rw [S_len]; omega) ?_
      walk_at "hv s"
      refine ⟨?_, rfl⟩
      rw [show -((p.num.natAbs : Nat) : Int) = p.num by omega]
    · walk_at "hv s"
      refine cv_intS (int_back b1) (by rw [S_len]; omega) ?_
      refine ⟨?_, rfl⟩
      rw [show ((p.num.natAbs : Nat) : Int) = p.num by omega]
  rintro v H5 ⟨rfl, rfl⟩
  walk_at "hv s"
  refine ⟨_, _, rfl, hden, up b1 (by decide), up (by rw [Int.natAbs_natCast]; exact b2) (by decide), fun v H6 hv e6 => ?_⟩
  rw [Rat.num_divInt_den] at hv
  walk_at "hv s"
  refine ev_prop R.num.sc pt Ft hr (by decide) ?_
  walk_at "hv s"
  obtain ⟨a, dx, rfl, hs⟩ := hv.slt
  refine ⟨a, dx, _, rfl, hs, _, p, rfl, hv, b1, b2, ?_⟩
  walk_at "hv s"
  exact h _ _ hv (e4.trans e6)
def sp_eqR (K : PySem.W.Frag) : Sp := fun vs H Q _ => ∃ x y p q, vs = [x, y] ∧ RatV K H x p ∧ RatV K H y q ∧ Q (.bl (decide (p = q))) H
theorem rat_ext {p q : Rat} : (p = q) = (p.num = q.num ∧ p.den = q.den) := propext ⟨fun h => by rw [h]; exact ⟨rfl, rfl⟩, fun h => Rat.ext h.1 h.2⟩
theorem ok_Ratio___eq__ (R : RW K mg cs) (F : FD K d_Ratio___eq__ fd) : FnG P w K mg base 6 (d_Ratio___eq__.at_ K) (sp_eqR K) := by
  have S := s_Ratio___eq__
  refine okG (dv := []) (ds := []) F S (FunD.bindsN F fun _ _ _ _ _ _ us hl => match us, hl with | [_, _], _ => rfl) .nil (fun vs H Q E h => ?_) (fun cdv A outer s H vs Q E hr h => ?_)
  · obtain ⟨_, _, _, _, rfl, _⟩ := h; rfl
  obtain ⟨x, y, p, q, rfl, hx, hy, h⟩ := h
  have B := R.B
  refine ex_bv ?_
  walk_at "hv r"
  refine ev_gl rfl R.gl (v := .ref (CR K)) rfl ?_
  walk_at "hv r"
  refine cv_isO R.csk (R.kr hy) R.mem ?_
  refine tru_bl ?_
  refine ite_dec1 rfl ?_
  walk_at "hv r"
  rw [show decide (p = q) = (decide (p.num = q.num) && decide (p.den = q.den)) from by rw [← Bool.decide_and]; exact decide_eq_decide.mpr (by rw [rat_ext])] at h
  by_cases h1 : p.num = q.num
  · rw [decide_eq_true h1] at h ⊢
    walk_at "hv r"
    have e : decide ((p.den : Int) = q.den) = decide (p.den = q.den) := decide_eq_decide.mpr (by omega)
    rw [e]
    exact h
  · rw [decide_eq_false h1] at h ⊢
    walk_at "hv r"
    exact h
end
end HvP
/-! shared by the laws of numbers: drawn pairs, the look at a Ratio, the pot, plain facts -/
namespace HvP
open PySem PySem.Spec PyProof.Rows L2 Hv HvT SlX
local macro_rules | `(tactic| walk_at "hv name") => `(tactic| first
  | refine ev_var 0 (pv 0) rfl ?_ | refine ev_var 1 (pv 1) rfl ?_ | refine ev_var 2 (pv 2) rfl ?_ | refine ev_var 3 (pv 3) rfl ?_ | refine ev_var 4 (pv 4) rfl ?_
  | refine ev_var 5 (pv 5) rfl ?_ | refine ev_var 6 (pv 6) rfl ?_ | refine ev_var 7 (pv 7) rfl ?_ | refine ev_var 8 (pv 8) rfl ?_ | refine ev_var 9 (pv 9) rfl ?_
  | refine ev_var 10 (pv 10) rfl ?_ | refine ev_var 11 (pv 11) rfl ?_ | refine ev_var 12 (pv 12) rfl ?_ | refine ev_var 13 (pv 13) rfl ?_ | refine ev_var 14 (pv 14) rfl ?_)
local macro_rules | `(tactic| walk_at "hv hp") => `(tactic| first
  | with_reducible assumption
  | with_reducible exact upd_same
  | ((with_reducible refine' upd_keep ?a ?b); (case a => with_reducible assumption); (case b => walk_at "hv hp"))
  | ((with_reducible refine' Same.get ?a ?b); (case a => with_reducible assumption); (case b => walk_at "hv hp"))
  | ((with_reducible refine' ExB.gt ?a ?b ?c); (case a => with_reducible assumption); (case b => walk_at "hv hp"); (case c => walk_at "hv ne")))
local macro_rules | `(tactic| walk_at "hv ne") => `(tactic| first
  | assumption
  | (exact ne_of_none (by assumption) (by assumption))
  | (refine ne_of (by assumption) (by assumption) ?_; (intro hx; cases hx; done)))
local macro_rules | `(tactic| walk_at "hv same") => `(tactic| first
  | with_reducible assumption
  | with_reducible exact Same.refl _
  | ((with_reducible refine' Same.nw ?a ?b); (case a => with_reducible assumption); (case b => walk_at "hv same"))
  | ((with_reducible refine' Same.tr ?a ?b); (case a => with_reducible assumption); (case b => walk_at "hv same")))
local macro_rules | `(tactic| walk_at "hv exb") => `(tactic| first
  | with_reducible assumption
  | with_reducible exact ExB.refl _ _
  | ((with_reducible refine' ExB.nw ?a ?b); (case a => with_reducible assumption); (case b => walk_at "hv exb"))
  | ((with_reducible refine' ExB.trs ?a ?b); (case a => with_reducible assumption); (case b => walk_at "hv exb"))
  | ((with_reducible refine' ExB.tr ?a ?b); (case a => with_reducible assumption); (case b => walk_at "hv exb")))
local macro_rules | `(tactic| walk_at "hv sq") => `(tactic| first
  | assumption
  | exact .inl (by assumption)
  | exact .inr (by assumption)
  | ((with_reducible refine' SqL.of ?a); (case a => walk_at "hv hp"))
  | ((with_reducible refine' SqT.of ?a); (case a => walk_at "hv hp"))
  | ((with_reducible refine' Or.inl (SqL.of ?a)); (case a => walk_at "hv hp"))
  | ((with_reducible refine' Or.inr (SqT.of ?a)); (case a => walk_at "hv hp")))
local macro_rules | `(tactic| walk_at "hv op") => `(tactic| first
  | with_reducible refine ov_add ?_ | with_reducible refine ov_sub ?_ | ((with_reducible refine ov_mul ?h ?_); (case h => first | assumption | (walk_at "hv side"))) | ((with_reducible refine ov_mod ?h ?_); (case h => first | assumption | omega | (walk_at "hv side"))) | ((with_reducible refine ov_div ?h ?_); (case h => first | assumption | (walk_at "hv side"))) | ((with_reducible refine ov_pow ?h ?_); (case h => first | assumption | (walk_at "hv side")))
  | with_reducible refine ov_lt ?_ | with_reducible refine ov_le ?_ | with_reducible refine ov_gt ?_ | with_reducible refine ov_ge ?_ | with_reducible refine ov_eq ?_ | with_reducible refine ov_ne ?_ | with_reducible refine ov_eqs ?_ | with_reducible refine ov_nes ?_
  | with_reducible refine uv_neg ?_ | with_reducible refine cv_abs ?_ | with_reducible refine cv_int ?_ | with_reducible refine cv_intb ?_ | with_reducible refine cv_boolb ?_ | ((with_reducible refine cv_max ?h ?_); (case h => rfl)) | ((with_reducible refine cv_min ?h ?_); (case h => rfl))
  | ((with_reducible refine' cv_len ?h ?_); (case h => walk_at "hv sq")) | ((with_reducible refine' iv_lst ?h ?g ?_); (case h => walk_at "hv sq"); (case g => rfl)) | ((with_reducible refine' iv_tup ?h ?g ?_); (case h => walk_at "hv sq"); (case g => rfl)))
local macro_rules | `(tactic| walk_at "hv blt") => `(tactic| first
  | refine ev_intc (by assumption) ?_ | refine ev_abs (by assumption) ?_ | refine ev_len (by assumption) ?_ | refine ev_isinst (by assumption) ?_ | refine ev_repr (by assumption) ?_ | refine ev_all (by assumption) ?_ | refine ev_any (by assumption) ?_
  | refine ev_max (by assumption) ?_ | refine ev_min (by assumption) ?_ | refine ev_boolc (by assumption) ?_ | refine ev_sorted (by assumption) ?_ | refine ev_listc (by assumption) ?_ | refine ev_strc (by assumption) ?_ | refine ev_tuplec (by assumption) ?_ | refine ev_dictc (by assumption) ?_ | refine ev_sum (by assumption) ?_)
local macro_rules | `(tactic| walk_at "hv nblt") => `(tactic| first
  | refine ev_nint (by assumption) ?_ | refine ev_nbool (by assumption) ?_ | refine ev_nstr (by assumption) ?_ | refine ev_ndict (by assumption) ?_ | refine ev_nlist (by assumption) ?_ | refine ev_ntuple (by assumption) ?_)
local macro_rules | `(tactic| walk_at "hv one") => `(tactic| first
  | with_reducible refine bv_cons ?_ | ((with_reducible refine bv_id ?_); (refine bv_cons ?_)) | with_reducible refine bv_nil ?_ | with_reducible refine sv_ret ?_ | ((with_reducible refine sv_id ?_); (walk_at "hv set")) | with_reducible refine sv_if ?_ | ((with_reducible refine sv_expr ?_ ?h); (case h => rfl)) | ((with_reducible refine sv_slot ?_ ?h); (case h => rfl)) | ((with_reducible refine sv_seti ?_ ?a ?b ?c); (case a => (intro x; rfl)); (case b => rfl); (case c => rfl))
  | ((with_reducible refine ev_nm ?_); (first | walk_at "hv name" | walk_at "hv nblt"))
  | with_reducible refine ev_int ?_ | with_reducible refine ev_op ?_ | ((with_reducible refine ev_cmp ?_ ?h); (case h => first | exact nobehind _ (by decide) (by decide) | rfl))
  | ((with_reducible refine av_cons ?_ ?h); (case h => rfl)) | with_reducible refine av_nil ?_
  | with_reducible refine ev_str ?_ | with_reducible refine ev_bl ?_ | with_reducible refine ev_non ?_ | with_reducible refine ev_un ?_ | with_reducible refine ev_one ?_ | with_reducible refine ev_and ?_ | with_reducible refine ev_or ?_ | with_reducible refine ev_if ?_
  | with_reducible refine ev_tup ?_ | with_reducible refine ev_lst ?_ | ((with_reducible refine ev_ix ?h ?_); (case h => exact fun _ _ => rfl))
  | with_reducible refine tv_and ?_ | with_reducible refine tv_or ?_ | with_reducible refine tv_not ?_ | ((with_reducible refine tv_cmp ?_ ?h); (case h => first | exact nobehind _ (by decide) (by decide) | rfl)) | with_reducible refine wv_and ?_ | with_reducible refine wv_or ?_ | with_reducible refine wv_and1 ?_ | with_reducible refine wv_or1 ?_
  | walk_at "hv op"
  | ((with_reducible refine ev_cl ?_); (walk_at "hv blt"))
  | with_reducible refine ex_bl ?_ | with_reducible refine tru_bl ?_ | walk_at "hv ite"
  | ((with_reducible refine tv_val ?_ ?h); (case h => (intro x; rfl))))
local macro_rules | `(tactic| walk_at "hv loc") => `(tactic| first | exact .inl rfl | exact .inr rfl)
local macro_rules | `(tactic| walk_at "hv set") => `(tactic| first
  | refine sv_setS 0 rfl (by assumption) (by walk_at "hv loc") ?_ | refine sv_setS 1 rfl (by assumption) (by walk_at "hv loc") ?_ | refine sv_setS 2 rfl (by assumption) (by walk_at "hv loc") ?_ | refine sv_setS 3 rfl (by assumption) (by walk_at "hv loc") ?_
  | refine sv_setS 4 rfl (by assumption) (by walk_at "hv loc") ?_ | refine sv_setS 5 rfl (by assumption) (by walk_at "hv loc") ?_ | refine sv_setS 6 rfl (by assumption) (by walk_at "hv loc") ?_ | refine sv_setS 7 rfl (by assumption) (by walk_at "hv loc") ?_
  | refine sv_setS 8 rfl (by assumption) (by walk_at "hv loc") ?_ | refine sv_setS 9 rfl (by assumption) (by walk_at "hv loc") ?_ | refine sv_setS 10 rfl (by assumption) (by walk_at "hv loc") ?_ | refine sv_setS 11 rfl (by assumption) (by walk_at "hv loc") ?_)
local macro_rules | `(tactic| walk_at "hv dec") => `(tactic| first | assumption | rfl | omega | decide | (intro hz; cases hz; done))
local macro_rules | `(tactic| walk_at "hv ite") => `(tactic| first
  | with_reducible refine iteT ?_ | with_reducible refine iteF ?_ | with_reducible refine iteNF ?_ | with_reducible refine iteNT ?_
  | ((with_reducible refine ite_dec1 ?h ?_); (case h => walk_at "hv dec")) | ((with_reducible refine ite_dec0 ?h ?_); (case h => walk_at "hv dec"))
  | ((with_reducible refine ite_decN1 ?h ?_); (case h => walk_at "hv dec")) | ((with_reducible refine ite_decN0 ?h ?_); (case h => walk_at "hv dec")))
local macro_rules | `(tactic| walk_at "hv s") => `(tactic| (repeat (walk_at "hv one")))
theorem szi {i : Int} (h : i.natAbs < 2 ^ 31) : Sz 31 (i : Rat) := sz_int h (by decide)
section
variable {P : Program} {w : World} {K : PySem.W.Frag} {mg : Str → Option Value} {base : Heap} {fd : FuncData} {cs : List Addr}
def sp_drawn : Sp := fun vs H Q _ => ∃ (p : Addr) (c : Nat), vs = [.ref p] ∧ Pot H p c ∧ c < 900000 ∧ ∀ v q H', PairV H' v q → Sz 40 q → ExB p H H' → Pot H' p (c + 10) → Q v H'
theorem ok_drawn (gt : GF P w K mg base 1 "_law_take" sp_take) (go : GF P w K mg base 2 "_law_of" (sp_of K)) (gf : GF P w K mg base 1 "_law_frac" sp_frac) (F : FD K d__law_drawn_pair fd) : FnG P w K mg base 3 (d__law_drawn_pair.at_ K) sp_drawn := by
  have S := s__law_drawn_pair
  refine okG (dv := []) (ds := []) F S (FunD.bindsN F fun _ _ _ _ _ _ us hl => match us, hl with | [_], _ => rfl) .nil (fun vs H Q E h => ?_) (fun cdv A outer s H vs Q E hr h => ?_)
  · obtain ⟨_, _, rfl, _⟩ := h; rfl
  obtain ⟨p, c, rfl, hp, hc, q⟩ := h
  refine ex_bv ?_
  walk_at "hv s"
  refine ev_call go hr (by decide) rfl passL ?_
  walk_at "hv s"
  refine ev_call gt hr (by decide) rfl passL ?_
  walk_at "hv s"
  refine ⟨p, _, c, rfl, by decide, by decide, hp, by omega, fun r H1 r0 r1 e1 hp1 => ?_⟩
  walk_at "hv s"
  refine ⟨sz_ok (by simp), fun l hl => ?_⟩
  walk_at "hv s"
  obtain ⟨xs1, a1⟩ := hp1.at_
  refine ⟨p, l, _, c + 1, rfl, upd_same, Ne.symm (ne_of_none a1 hl), by simp, by simp, hp1.same (same_upd hl), by omega, fun i v H2 hv e2 hp2 => ?_⟩
  obtain ⟨d, rfl, d0, d1⟩ : ∃ d : Int, v = .int d ∧ 1 ≤ d ∧ d ≤ 12 := by
    refine all_at (Pr := fun v => ∃ d : Int, v = .int d ∧ 1 ≤ d ∧ d ≤ 12) ?_ hv
    intro x hx
    simp only [List.mem_cons, List.not_mem_nil, or_false] at hx
    rcases hx with rfl | rfl | rfl | rfl | rfl | rfl <;> exact ⟨_, rfl, by omega, by omega⟩
  have e02 : ExB p H H2 := (e1.new hl).trans e2
  walk_at "hv s"
  refine ev_call gt hr (by decide) rfl passL ?_
  walk_at "hv s"
  refine ⟨p, _, _, rfl, by decide, by decide, hp2, by omega, fun r' H3 r0' r1' e3 hp3 => ?_⟩
  walk_at "hv s"
  refine ⟨sz_ok (by simp), fun l' hl' => ?_⟩
  obtain ⟨xs3, a3⟩ := hp3.at_
  walk_at "hv s"
  refine ev_call gf hr (by decide) rfl passL ?_
  walk_at "hv s"
  refine ev_call go hr (by decide) rfl passL ?_
  walk_at "hv s"
  refine ⟨p, l', _, _, rfl, upd_same, Ne.symm (ne_of_none a3 hl'), by simp, by simp, hp3.same (same_upd hl'), by omega, fun i' v' H4 hv' e4 hp4 => ?_⟩
  obtain ⟨n, rfl, n0⟩ : ∃ n : Int, v' = .int n ∧ n.natAbs < 2 ^ 31 := by
    refine all_at (Pr := fun v => ∃ d : Int, v = .int d ∧ d.natAbs < 2 ^ 31) ?_ hv'
    intro x hx
    simp only [List.mem_cons, List.not_mem_nil, or_false] at hx
    rcases hx with rfl | rfl | rfl | rfl | rfl | rfl | rfl | rfl | rfl | rfl | rfl <;> exact ⟨_, rfl, by omega⟩
  walk_at "hv s"
  refine ⟨n, d, rfl, by omega, ?_, fun v H5 hv e5 => ?_⟩
  · have : d.natAbs < 2 ^ 4 := by omega
    exact up this (by decide)
  · refine q v _ H5 hv (sz_div (up n0 (by decide)) (up (b := 40) (show d.natAbs < 2 ^ 4 by omega) (by decide)) (by omega)) (((e02.trans e3).new hl').trans e4 |>.trans (Same.exb e5)) ((hp4.same e5).mono (by omega))
def sp_lisr (K : PySem.W.Frag) : Sp := fun vs H Q _ => ∃ x y q, vs = [x, y] ∧ RatV K H x q ∧ PairV H y q ∧ Sz 1900 q ∧ ∀ H', Same H H' → Q (.bl true) H'
theorem ok_lisr (R : RW K mg cs) (pn : RPr P w K mg base "number" fun q => q.num) (pu : RPr P w K mg base "under" fun q => q.den) (F : FD K d__law_is_ratio fd) : FnG P w K mg base 3 (d__law_is_ratio.at_ K) (sp_lisr K) := by
  have S := s__law_is_ratio
  have B := R.B
  refine okG (dv := []) (ds := []) F S (FunD.bindsN F fun _ _ _ _ _ _ us hl => match us, hl with | [_, _], _ => rfl) .nil (fun vs H Q E h => ?_) (fun cdv A outer s H vs Q E hr h => ?_)
  · obtain ⟨_, _, _, rfl, _⟩ := h; rfl
  obtain ⟨x, y, q, rfl, hx, ⟨T, rfl, hT⟩, zq, h⟩ := h
  refine ex_bv ?_
  walk_at "hv s"
  refine ev_gl rfl R.gl (v := .ref (CR K)) rfl ?_
  walk_at "hv s"
  refine cv_isO R.csk (R.kr hx) R.mem ?_
  walk_at "hv s"
  refine ev_ratp pn R hr (by decide) ?_
  walk_at "hv s"
  refine ⟨q, hx, ?_⟩
  walk_at "hv s"
  refine ev_ratp pu R hr (by decide) ?_
  walk_at "hv s"
  refine ⟨q, hx, ?_⟩
  walk_at "hv s"
  refine ⟨sz_ok (by simp), fun U hU => ?_⟩
  walk_at "hv s"
  have t := tx_pair (log_of zq.1) (log_of (den_abs zq))
  refine cv_tx hr (dp_pair upd_same) t ?_
  walk_at "hv s"
  refine cv_tx hr (dp_pair (upd_keep hU hT)) t ?_
  walk_at "hv s"
  rw [decide_eq_true rfl]
  exact h _ (same_upd hU)
theorem target2 {N : List Str} {P2 : List Str} {sc : Scope} (S : FnScope N P2 sc) : N.Nodup := S.nd
local macro_rules | `(tactic| walk_at "hv rat") => `(tactic| first
  | assumption
  | ((with_reducible refine' RatV.nw ?a ?b); (case a => with_reducible assumption); (case b => walk_at "hv rat"))
  | ((with_reducible refine' RatV.sm ?a ?b); (case a => with_reducible assumption); (case b => walk_at "hv rat")))
local macro_rules | `(tactic| walk_at "hv pair") => `(tactic| first
  | assumption
  | ((with_reducible refine' PairV.nw ?a ?b); (case a => with_reducible assumption); (case b => walk_at "hv pair"))
  | ((with_reducible refine' PairV.sm ?a ?b); (case a => with_reducible assumption); (case b => walk_at "hv pair")))
theorem pair_at {H : Hp} {T : Addr} {a b : Int} {q : Rat} (h : H T = some (.tup [.int a, .int b])) (e1 : q.num = a) (e2 : (q.den : Int) = b) : PairV H (.ref T) q := by subst e1 e2; exact ⟨T, rfl, h⟩
theorem half_num : (Rat.divInt 1 2).num = 1 := by decide +kernel
theorem half_den : ((Rat.divInt 1 2).den : Int) = 2 := by decide +kernel
theorem half_sz : Sz 3000 (Rat.divInt 1 2) := sz_div (b := 3000) (up (b := 3000) (show (1 : Int).natAbs < 2 ^ 2 by decide) (by decide)) (up (b := 3000) (show (2 : Int).natAbs < 2 ^ 2 by decide) (by decide)) (by decide)
theorem den1 {p : Rat} (h : (p.den : Int) = 1) : p = (p.num : Rat) := Rat.ext rfl (by show p.den = 1; omega)
theorem less_eq (p q : Rat) : p + q * ((-1 : Int) : Rat) = p - q := by
  have : ((-1 : Int) : Rat) = -1 := rfl
  rw [this]
  grind
theorem nlt {p q : Rat} : ((p - q).num < 0) = (p < q) := by
  have h1 := Rat.num_nonneg (q := p - q)
  have h2 := Rat.le_iff_sub_nonneg q p
  have h3 := Rat.not_le (a := q) (b := p)
  refine propext ⟨fun h => h3.mp fun z => ?_, fun h => Int.not_le.mp fun z => h3.mpr h (h2.mpr (h1.mp z))⟩
  have := h1.mpr (h2.mp z)
  omega
theorem nge {p q : Rat} : (0 ≤ (p - q).num) = (q ≤ p) := propext ⟨fun h => (Rat.le_iff_sub_nonneg q p).mpr (Rat.num_nonneg.mp h), fun h => Rat.num_nonneg.mpr ((Rat.le_iff_sub_nonneg q p).mp h)⟩
theorem sub_num (p q : Rat) : (p - q).num = -(q - p).num := by
  rw [← Rat.neg_num]
  congr 1
  grind
theorem nle {p q : Rat} : ((p - q).num ≤ 0) = (p ≤ q) := by
  rw [← nge (p := q) (q := p), sub_num]
  exact propext ⟨fun h => by omega, fun h => by omega⟩
theorem ngt {p q : Rat} : (0 < (p - q).num) = (q < p) := by
  rw [← nlt (p := q) (q := p), sub_num]
  exact propext ⟨fun h => by omega, fun h => by omega⟩
theorem tx_bl4 (a b c d : Bool) : Tx (.list [.bool a, .bool b, .bool c, .bool d]) := by
  refine ⟨rfl, rfl, ?_, rfl, ?_⟩
  · simp [PyData.depth, PyData.depthAll]
  · simp [PyData.weight, PyData.weightAll]
theorem dp_bl4 {K : PySem.W.Frag} {H : Hp} {T : Addr} {a b c d : Bool} (h : H T = some (.lst [.bl a, .bl b, .bl c, .bl d])) : Dp K H (.ref T) (.list [.bool a, .bool b, .bool c, .bool d]) :=
  .lst (.of h) (.cons (.bl _) (.cons (.bl _) (.cons (.bl _) (.cons (.bl _) .nil))))
structure ROps (P : Program) (w : World) (K : PySem.W.Frag) (mg : Str → Option Value) (base : Heap) : Prop where
  add : ROp P w K mg base .Add fun p q => p + q
  sub : ROp P w K mg base .Sub fun p q => p - q
  mul : ROp P w K mg base .Mult fun p q => p * q
  lt : RCmp P w K mg base .Lt fun p q => decide (p < q)
  le : RCmp P w K mg base .LtE fun p q => decide (p ≤ q)
  gt : RCmp P w K mg base .Gt fun p q => decide (q < p)
  ge : RCmp P w K mg base .GtE fun p q => decide (q ≤ p)
theorem NumV.sm {H H' : Hp} {v : V} {q : Rat} (e : Same H H') (h : NumV K H v q) : NumV K H' v q := h.same e
theorem NumV.nw {H : Hp} {v : V} {q : Rat} {p : Addr} {o : HO} (hp : H p = none) (h : NumV K H v q) : NumV K (upd H p o) v q := h.same (same_upd hp)
local macro_rules | `(tactic| walk_at "hv num") => `(tactic| first
  | assumption
  | ((with_reducible refine' NumV.nw ?a ?b); (case a => with_reducible assumption); (case b => walk_at "hv num"))
  | ((with_reducible refine' NumV.sm ?a ?b); (case a => with_reducible assumption); (case b => walk_at "hv num")))
theorem or_same {H H' : Hp} {x y : V} {p q : Rat} (h : RatV K H x p ∨ RatV K H y q) (e : Same H H') : RatV K H' x p ∨ RatV K H' y q := h.imp (fun r => r.same e) fun r => r.same e
/-- the pot of a cell -/
def sp_lpot (K : PySem.W.Frag) : Sp := fun vs H Q _ => ∃ (a : Addr) (ns : List Int) (k : Nat), vs = [.ref a, .int k] ∧ SqL K H a (ns.map V.int) ∧ ns.length ≤ 100000 ∧ k < 64 ∧ ∀ t H', H t = none → Same H H' → Pot H' t 0 → Q (.ref t) H'
theorem big_mod : (0 : Int) < (10 ^ (60 : Int).toNat) ^ (5 : Int).toNat ∧ (((10 : Int) ^ (60 : Int).toNat) ^ (5 : Int).toNat : Int) < 2 ^ 1000 := by decide +kernel
theorem pow60 : CPowW 10 60 := ⟨by decide, by decide +kernel⟩
theorem pow5 : CPowW (10 ^ (60 : Int).toNat) 5 := ⟨by decide, by decide +kernel⟩
theorem pow18 : CPowW 10 18 := ⟨by decide, by decide +kernel⟩
theorem ok_lpot (B : Blt mg) (F : FD K d__law_pot fd) : FnG P w K mg base 1 (d__law_pot.at_ K) (sp_lpot K) := by
  have S := s__law_pot
  refine okG (dv := []) (ds := []) F S (FunD.bindsN F fun _ _ _ _ _ _ us hl => match us, hl with | [_, _], _ => rfl) .nil (fun vs H Q E h => ?_) (fun cdv A outer s H vs Q E hr h => ?_)
  · obtain ⟨_, _, _, rfl, _⟩ := h; rfl
  obtain ⟨a, ns, k, rfl, hs, hl, hk, h⟩ := h
  refine ex_bv ?_
  refine bv_cons (sv_cut (fun σ H' => H' = H ∧ ∃ z : Int, σ = [some (.ref a), some (.int k), some (.int z), none, none]) ?_ ?_)
  · walk_at "hv s"
    refine ite_dec (fun d1 => ?_) (fun d1 => ?_)
    · have hlt : k < ns.length := by
        have : (ns.map V.int).length = ns.length := by simp
        omega
      walk_at "hv s"
      refine iv_lst hs (v := .int ns[k]) (atI_nat (by simp [hlt])) ?_
      walk_at "hv s"
      exact ⟨rfl, _, rfl⟩
    · have m1 : CMulW 53 k := mulw (a := 6) (b := 7) (by decide) (by decide) (by omega) (by omega) (by decide) (by decide) (by decide)
      walk_at "hv s"
      exact ⟨rfl, _, rfl⟩
  · rintro σ H' ⟨rfl, z, rfl⟩
    have p1 := pow60
    have p2 := pow5
    have p3 := pow18
    obtain ⟨b0, b1⟩ := big_mod
    walk_at "hv s"
    generalize ((10 : Int) ^ (60 : Int).toNat) ^ (5 : Int).toNat = BM at b0 b1 ⊢
    have x0 : 0 ≤ (z.natAbs : Int) % BM := Int.emod_nonneg _ (by omega)
    have x1 : (z.natAbs : Int) % BM < BM := Int.emod_lt_of_pos _ b0
    generalize (z.natAbs : Int) % BM = X1 at x0 x1 ⊢
    walk_at "hv s"
    obtain ⟨y0, y1⟩ : 0 ≤ (if decide ((10 : Int) ^ (18 : Int).toNat ≤ (z.natAbs : Int)) = true then (1 : Int) else 0) ∧ (if decide ((10 : Int) ^ (18 : Int).toNat ≤ (z.natAbs : Int)) = true then (1 : Int) else 0) ≤ 1 := by split <;> decide
    generalize (if decide ((10 : Int) ^ (18 : Int).toNat ≤ (z.natAbs : Int)) = true then (1 : Int) else 0) = Y at y0 y1 ⊢
    have m1 : CMulW X1 Y := mulw (a := 1000) (b := 2) x0 (by omega) y0 (by omega) (by decide) (by decide) (by decide)
    have o0 : 0 ≤ X1 * Y := Int.mul_nonneg x0 y0
    have s0 : 0 ≤ z % 2305843009213693951 := Int.emod_nonneg _ (by decide)
    have s1 : z % 2305843009213693951 < 2305843009213693951 := Int.emod_lt_of_pos _ (by decide)
    generalize hZ : z % 2305843009213693951 = Z at s0 s1
    have m2 : CMulW Z 70979 := mulw (a := 61) (b := 17) s0 (by omega) (by decide) (by decide) (by decide) (by decide) (by decide)
    have m3 : CMulW 8419 (k : Int) := mulw (a := 14) (b := 7) (by decide) (by decide) (by omega) (by omega) (by decide) (by decide) (by decide)
    have m4 : CMulW (8419 * (k : Int)) (k : Int) := mulw (a := 30) (b := 7) (by omega) (by omega) (by omega) (by omega) (by decide) (by decide) (by decide)
    rw [← hZ] at m2
    walk_at "hv s"
    refine ⟨sz_ok (by simp), fun t ht => ?_⟩
    exact h t _ ht (same_upd ht) ⟨_, _, 0, upd_same, o0, Int.emod_nonneg _ (by decide), Int.lt_trans (Int.emod_lt_of_pos _ (by decide)) (by decide), by decide, by decide⟩
theorem exb_same {t : Addr} {H H1 H2 : Hp} (hs : Same H H1) (ht : H t = none) (e : ExB t H1 H2) : Same H H2 := fun a o h => e a o (ne_of_none h ht) (hs a o h)
theorem pot_upd {t D : Addr} {H : Hp} {c : Nat} {o : HO} (h : Pot H t c) (n : t ≠ D) : Pot (upd H D o) t c := by
  obtain ⟨a, b, m, h1, h2⟩ := h
  exact ⟨a, b, m, by rw [upd_ne n]; exact h1, h2⟩
end
end HvP
/-! k11: the two sorts -/
namespace HvP
open PySem PySem.Spec PyProof.Rows L2 Hv HvT SlX
local macro_rules | `(tactic| walk_at "hv name") => `(tactic| first
  | refine ev_var 0 (pv 0) rfl ?_ | refine ev_var 1 (pv 1) rfl ?_ | refine ev_var 2 (pv 2) rfl ?_ | refine ev_var 3 (pv 3) rfl ?_ | refine ev_var 4 (pv 4) rfl ?_
  | refine ev_var 5 (pv 5) rfl ?_ | refine ev_var 6 (pv 6) rfl ?_ | refine ev_var 7 (pv 7) rfl ?_ | refine ev_var 8 (pv 8) rfl ?_ | refine ev_var 9 (pv 9) rfl ?_
  | refine ev_var 10 (pv 10) rfl ?_ | refine ev_var 11 (pv 11) rfl ?_ | refine ev_var 12 (pv 12) rfl ?_ | refine ev_var 13 (pv 13) rfl ?_ | refine ev_var 14 (pv 14) rfl ?_)
local macro_rules | `(tactic| walk_at "hv hp") => `(tactic| first
  | with_reducible assumption
  | with_reducible exact upd_same
  | ((with_reducible refine' upd_keep ?a ?b); (case a => with_reducible assumption); (case b => walk_at "hv hp"))
  | ((with_reducible refine' Same.get ?a ?b); (case a => with_reducible assumption); (case b => walk_at "hv hp"))
  | ((with_reducible refine' ExB.gt ?a ?b ?c); (case a => with_reducible assumption); (case b => walk_at "hv hp"); (case c => walk_at "hv ne")))
local macro_rules | `(tactic| walk_at "hv ne") => `(tactic| first
  | assumption
  | (exact ne_of_none (by assumption) (by assumption))
  | (refine ne_of (by assumption) (by assumption) ?_; (intro hx; cases hx; done)))
local macro_rules | `(tactic| walk_at "hv same") => `(tactic| first
  | with_reducible assumption
  | with_reducible exact Same.refl _
  | ((with_reducible refine' Same.nw ?a ?b); (case a => with_reducible assumption); (case b => walk_at "hv same"))
  | ((with_reducible refine' Same.tr ?a ?b); (case a => with_reducible assumption); (case b => walk_at "hv same")))
local macro_rules | `(tactic| walk_at "hv exb") => `(tactic| first
  | with_reducible assumption
  | with_reducible exact ExB.refl _ _
  | ((with_reducible refine' ExB.nw ?a ?b); (case a => with_reducible assumption); (case b => walk_at "hv exb"))
  | ((with_reducible refine' ExB.trs ?a ?b); (case a => with_reducible assumption); (case b => walk_at "hv exb"))
  | ((with_reducible refine' ExB.tr ?a ?b); (case a => with_reducible assumption); (case b => walk_at "hv exb")))
local macro_rules | `(tactic| walk_at "hv sq") => `(tactic| first
  | assumption
  | exact .inl (by assumption)
  | exact .inr (by assumption)
  | ((with_reducible refine' SqL.of ?a); (case a => walk_at "hv hp"))
  | ((with_reducible refine' SqT.of ?a); (case a => walk_at "hv hp"))
  | ((with_reducible refine' Or.inl (SqL.of ?a)); (case a => walk_at "hv hp"))
  | ((with_reducible refine' Or.inr (SqT.of ?a)); (case a => walk_at "hv hp")))
local macro_rules | `(tactic| walk_at "hv op") => `(tactic| first
  | with_reducible refine ov_add ?_ | with_reducible refine ov_sub ?_ | ((with_reducible refine ov_mul ?h ?_); (case h => first | assumption | (walk_at "hv side"))) | ((with_reducible refine ov_mod ?h ?_); (case h => first | assumption | omega | (walk_at "hv side"))) | ((with_reducible refine ov_div ?h ?_); (case h => first | assumption | (walk_at "hv side"))) | ((with_reducible refine ov_pow ?h ?_); (case h => first | assumption | (walk_at "hv side")))
  | with_reducible refine ov_lt ?_ | with_reducible refine ov_le ?_ | with_reducible refine ov_gt ?_ | with_reducible refine ov_ge ?_ | with_reducible refine ov_eq ?_ | with_reducible refine ov_ne ?_ | with_reducible refine ov_eqs ?_ | with_reducible refine ov_nes ?_
  | with_reducible refine uv_neg ?_ | with_reducible refine cv_abs ?_ | with_reducible refine cv_int ?_ | with_reducible refine cv_intb ?_ | with_reducible refine cv_boolb ?_ | ((with_reducible refine cv_max ?h ?_); (case h => rfl)) | ((with_reducible refine cv_min ?h ?_); (case h => rfl))
  | ((with_reducible refine' cv_len ?h ?_); (case h => walk_at "hv sq")) | ((with_reducible refine' iv_lst ?h ?g ?_); (case h => walk_at "hv sq"); (case g => rfl)) | ((with_reducible refine' iv_tup ?h ?g ?_); (case h => walk_at "hv sq"); (case g => rfl)))
local macro_rules | `(tactic| walk_at "hv blt") => `(tactic| first
  | refine ev_intc (by assumption) ?_ | refine ev_abs (by assumption) ?_ | refine ev_len (by assumption) ?_ | refine ev_isinst (by assumption) ?_ | refine ev_repr (by assumption) ?_ | refine ev_all (by assumption) ?_ | refine ev_any (by assumption) ?_
  | refine ev_max (by assumption) ?_ | refine ev_min (by assumption) ?_ | refine ev_boolc (by assumption) ?_ | refine ev_sorted (by assumption) ?_ | refine ev_listc (by assumption) ?_ | refine ev_strc (by assumption) ?_ | refine ev_tuplec (by assumption) ?_ | refine ev_dictc (by assumption) ?_ | refine ev_sum (by assumption) ?_)
local macro_rules | `(tactic| walk_at "hv nblt") => `(tactic| first
  | refine ev_nint (by assumption) ?_ | refine ev_nbool (by assumption) ?_ | refine ev_nstr (by assumption) ?_ | refine ev_ndict (by assumption) ?_ | refine ev_nlist (by assumption) ?_ | refine ev_ntuple (by assumption) ?_)
local macro_rules | `(tactic| walk_at "hv one") => `(tactic| first
  | with_reducible refine bv_cons ?_ | ((with_reducible refine bv_id ?_); (refine bv_cons ?_)) | with_reducible refine bv_nil ?_ | with_reducible refine sv_ret ?_ | ((with_reducible refine sv_id ?_); (walk_at "hv set")) | with_reducible refine sv_if ?_ | ((with_reducible refine sv_expr ?_ ?h); (case h => rfl)) | ((with_reducible refine sv_slot ?_ ?h); (case h => rfl)) | ((with_reducible refine sv_seti ?_ ?a ?b ?c); (case a => (intro x; rfl)); (case b => rfl); (case c => rfl))
  | ((with_reducible refine ev_nm ?_); (first | walk_at "hv name" | walk_at "hv nblt"))
  | with_reducible refine ev_int ?_ | with_reducible refine ev_op ?_ | ((with_reducible refine ev_cmp ?_ ?h); (case h => first | exact nobehind _ (by decide) (by decide) | rfl))
  | ((with_reducible refine av_cons ?_ ?h); (case h => rfl)) | with_reducible refine av_nil ?_
  | with_reducible refine ev_str ?_ | with_reducible refine ev_bl ?_ | with_reducible refine ev_non ?_ | with_reducible refine ev_un ?_ | with_reducible refine ev_one ?_ | with_reducible refine ev_and ?_ | with_reducible refine ev_or ?_ | with_reducible refine ev_if ?_
  | with_reducible refine ev_tup ?_ | with_reducible refine ev_lst ?_ | ((with_reducible refine ev_ix ?h ?_); (case h => exact fun _ _ => rfl))
  | with_reducible refine tv_and ?_ | with_reducible refine tv_or ?_ | with_reducible refine tv_not ?_ | ((with_reducible refine tv_cmp ?_ ?h); (case h => first | exact nobehind _ (by decide) (by decide) | rfl)) | with_reducible refine wv_and ?_ | with_reducible refine wv_or ?_ | with_reducible refine wv_and1 ?_ | with_reducible refine wv_or1 ?_
  | walk_at "hv op"
  | ((with_reducible refine ev_cl ?_); (walk_at "hv blt"))
  | with_reducible refine ex_bl ?_ | with_reducible refine tru_bl ?_ | walk_at "hv ite"
  | ((with_reducible refine tv_val ?_ ?h); (case h => (intro x; rfl))))
local macro_rules | `(tactic| walk_at "hv loc") => `(tactic| first | exact .inl rfl | exact .inr rfl)
local macro_rules | `(tactic| walk_at "hv set") => `(tactic| first
  | refine sv_setS 0 rfl (by assumption) (by walk_at "hv loc") ?_ | refine sv_setS 1 rfl (by assumption) (by walk_at "hv loc") ?_ | refine sv_setS 2 rfl (by assumption) (by walk_at "hv loc") ?_ | refine sv_setS 3 rfl (by assumption) (by walk_at "hv loc") ?_
  | refine sv_setS 4 rfl (by assumption) (by walk_at "hv loc") ?_ | refine sv_setS 5 rfl (by assumption) (by walk_at "hv loc") ?_ | refine sv_setS 6 rfl (by assumption) (by walk_at "hv loc") ?_ | refine sv_setS 7 rfl (by assumption) (by walk_at "hv loc") ?_
  | refine sv_setS 8 rfl (by assumption) (by walk_at "hv loc") ?_ | refine sv_setS 9 rfl (by assumption) (by walk_at "hv loc") ?_ | refine sv_setS 10 rfl (by assumption) (by walk_at "hv loc") ?_ | refine sv_setS 11 rfl (by assumption) (by walk_at "hv loc") ?_)
local macro_rules | `(tactic| walk_at "hv dec") => `(tactic| first | assumption | rfl | omega | decide | (intro hz; cases hz; done))
local macro_rules | `(tactic| walk_at "hv ite") => `(tactic| first
  | with_reducible refine iteT ?_ | with_reducible refine iteF ?_ | with_reducible refine iteNF ?_ | with_reducible refine iteNT ?_
  | ((with_reducible refine ite_dec1 ?h ?_); (case h => walk_at "hv dec")) | ((with_reducible refine ite_dec0 ?h ?_); (case h => walk_at "hv dec"))
  | ((with_reducible refine ite_decN1 ?h ?_); (case h => walk_at "hv dec")) | ((with_reducible refine ite_decN0 ?h ?_); (case h => walk_at "hv dec")))
local macro_rules | `(tactic| walk_at "hv s") => `(tactic| (repeat (walk_at "hv one")))
section
variable {P : Program} {w : World} {K : PySem.W.Frag} {mg : Str → Option Value} {base : Heap} {fd : FuncData} {cs : List Addr}
local macro_rules | `(tactic| walk_at "hv side") => `(tactic| first | exact m11 (by assumption) (by assumption) | exact m22 (by assumption) (by assumption) | exact m33 (by assumption) (by assumption))
def sp_before : Sp := fun vs H Q _ => ∃ x y p q, vs = [x, y] ∧ PairV H x p ∧ PairV H y q ∧ Sz 3000 p ∧ Sz 3000 q ∧ Q (.bl (decide (p < q))) H
theorem ok_before (F : FD K d__law_is_before fd) : FnG P w K mg base 1 (d__law_is_before.at_ K) sp_before := by
  have S := s__law_is_before
  refine okG (dv := []) (ds := []) F S (FunD.bindsN F fun _ _ _ _ _ _ us hl => match us, hl with | [_, _], _ => rfl) .nil (fun vs H Q E h => ?_) (fun cdv A outer s H vs Q E hr h => ?_)
  · obtain ⟨_, _, _, _, rfl, _⟩ := h; rfl
  obtain ⟨_, _, p, q, rfl, ⟨T, rfl, hT⟩, ⟨U, rfl, hU⟩, zp, zq, h⟩ := h
  refine ex_bv ?_
  walk_at "hv s"
  rw [show decide (p.num * (q.den : Int) < q.num * (p.den : Int)) = decide (p < q) from decide_eq_decide.mpr (Rat.lt_iff p q).symm]
  exact h
def sp_told (K : PySem.W.Frag) : Sp := fun vs H Q _ => ∃ (a : Addr) (xs : List V) (qs : List Rat), vs = [.ref a] ∧ H a = some (.lst xs) ∧ Bes (fun v q => RatV K H v q ∧ Sz 3000 q) xs qs ∧ qs.length ≤ 100 ∧
  ∀ D ys H', H D = none → H' D = some (.lst ys) → Bes (RatV K H') ys (isort qs) → Same H H' → Q (.ref D) H'
theorem take_snoc {l : List Rat} {i : Nat} {q : Rat} (h : l[i]? = some q) : l.take (i + 1) = l.take i ++ [q] := by rw [List.take_add_one, h]; rfl
theorem ok_told (R : RW K mg cs) (ge : RCmp P w K mg base .GtE fun p q => decide (q ≤ p)) (F : FD K d__law_told_laid fd) : FnG P w K mg base 8 (d__law_told_laid.at_ K) (sp_told K) := by
  have S := s__law_told_laid
  have B := R.B
  refine okG (dv := []) (ds := []) F S (FunD.bindsN F fun _ _ _ _ _ _ us hl => match us, hl with | [_], _ => rfl) .nil (fun vs H Q E h => ?_) (fun cdv A outer s H vs Q E hr h => ?_)
  · obtain ⟨_, _, _, rfl, _⟩ := h; rfl
  obtain ⟨a, xs, qs, rfl, ha, hal, hl, h⟩ := h
  refine ex_bv ?_
  walk_at "hv s"
  refine ⟨sz_ok (by simp), fun D hD => ?_⟩
  walk_at "hv s"
  refine sv_forL 2 (passes_of rfl) rfl (pg_name S.nd rfl (.inl rfl)) ?_
  walk_at "hv s"
  refine ⟨a, xs, rfl, .of (upd_keep hD ha), fun i σ H' => Same H H' ∧ ∃ (ys : List V) (x y : Option V), H' D = some (.lst ys) ∧ Bes (RatV K H') ys (isort (qs.take i)) ∧ σ = [some (.ref a), some (.ref D), x, y], ⟨same_upd hD, [], _, _, upd_same, .nil, rfl⟩, fun i σ H' ⟨e, _⟩ => .of (e _ _ ha), ?_, ?_⟩
  · rintro i v σ H' hv ⟨e, ys, x, y, hy, hb, rfl⟩
    obtain ⟨q, hq, hr1, zq⟩ := hal.get i v hv
    have hyl := hb.len
    rw [isort_len, List.length_take] at hyl
    have hzs : ∀ p ∈ isort (qs.take i), Sz 3000 p := fun p hp => by
      obtain ⟨j, hj⟩ := List.getElem?_of_mem (List.mem_of_mem_take (isort_mem hp))
      obtain ⟨_, _, _, z⟩ := hal.getR j p hj
      exact z
    walk_at "hv s"
    refine sv_cut (fun σ H2 => Same H' H2 ∧ σ = [some (.ref a), some (.ref D), some v, some (.int (insAt q (isort (qs.take i)) : Nat))]) ?_ ?_
    · refine sv_while (passes_of rfl) (fun σ H2 => Same H' H2 ∧ ∃ k : Nat, σ = [some (.ref a), some (.ref D), some v, some (.int k)] ∧ k ≤ ys.length ∧ ∀ j p, j < k → (isort (qs.take i))[j]? = some p → p ≤ q)
        (fun σ _ => match σ with | [_, _, _, some (.int k)] => ys.length - k.toNat | _ => 0) ⟨Same.refl _, 0, rfl, Nat.zero_le _, fun j p hj => absurd hj (Nat.not_lt_zero _)⟩ ?_
      rintro σ H2 ⟨e2, k, rfl, hk, hj⟩
      have hy2 := e2 _ _ hy
      walk_at "hv s"
      refine ite_dec (fun hlt => ?_) (fun hlt => ?_)
      · have hlt' : k < ys.length := by omega
        obtain ⟨p, hp, hpr⟩ := hb.get k ys[k] (List.getElem?_eq_getElem hlt')
        walk_at "hv s"
        refine iv_lst (.of hy2) (v := ys[k]) (atI_nat (List.getElem?_eq_getElem hlt')) ?_
        refine ov_ratc (fun _ _ => rfl) ge R hr (by decide) io_ge (.inr ((hr1.same e).same e2)) (.inr (hpr.same e2)) (.inl ((hr1.same e).same e2)) zq (hzs p (List.mem_of_getElem? hp)) fun H3 e3 => ?_
        walk_at "hv s"
        refine ite_dec (fun hle => ?_) (fun hle => ?_)
        · walk_at "hv s"
          refine ⟨⟨e2.trans e3, k + 1, rfl, hlt', fun j p' hj' hp' => ?_⟩, ?_⟩
          · rcases Nat.lt_succ_iff_lt_or_eq.mp hj' with hj'' | rfl
            · exact hj j p' hj'' hp'
            · rw [hp] at hp'
              cases hp'
              exact hle
          · show ys.length - ((k : Int) + 1).toNat < ys.length - (k : Int).toNat
            omega
        · walk_at "hv s"
          refine ⟨e2.trans e3, ?_⟩
          rw [← insAt_of (i := k) (by rw [← hb.len]; exact hk) hj fun p' hp' => by rw [hp] at hp'; cases hp'; exact hle]
      · walk_at "hv s"
        refine ⟨e2, ?_⟩
        have : k = ys.length := by omega
        rw [← insAt_of (i := k) (by rw [← hb.len]; exact hk) hj fun p' hp' => by
          obtain ⟨hlt, _⟩ := List.getElem?_eq_some_iff.mp hp'
          rw [← hb.len] at hlt
          omega]
    · rintro σ H2 ⟨e2, rfl⟩
      have hy2 := e2 _ _ hy
      refine bv_cons ?_
      refine sv_expr (ev_insert ?_) rfl
      walk_at "hv s"
      refine ⟨ty_lst hy2, ?_⟩
      walk_at "hv s"
      have hin := insAt_le q (isort (qs.take i))
      rw [isort_len, List.length_take] at hin
      refine ⟨D, ys, _, v, rfl, rfl, hy2, by rw [sizeLine_eq]; omega, by omega, by omega, ?_⟩
      refine bv_nil ⟨Same.mut (e.trans e2) hD, _, _, _, upd_same, ?_, rfl⟩
      rw [take_snoc hq, isort_snoc, Int.toNat_natCast]
      have hb2 : Bes (RatV K (upd H2 D (.lst (ys.take (insAt q (isort (qs.take i))) ++ [v] ++ ys.drop (insAt q (isort (qs.take i))))))) ys (isort (qs.take i)) := hb.imp fun v' q' hv' => hv'.exb (e2 _ _ hy |> fun _ => hy) (fun b o nb e' => by
        rw [upd_ne nb]
        exact e2 _ _ e')
      exact ((hb2.take _).snoc (RatV.exb (hr1.same e) hy fun b o nb e' => by rw [upd_ne nb]; exact e2 _ _ e')).app (hb2.drop _)
  · rintro σ H' ⟨e, ys, x, y, hy, hb, rfl⟩
    have hx : xs.length = qs.length := hal.len
    rw [hx, List.take_length] at hb
    walk_at "hv s"
    exact h D ys H' hD hy hb e
def sp_laid : Sp := fun vs H Q _ => ∃ (a : Addr) (xs : List V) (qs : List Rat), vs = [.ref a] ∧ H a = some (.lst xs) ∧ Bes (fun v q => PairV H v q ∧ Sz 3000 q) xs qs ∧ qs.length ≤ 100 ∧
  ∀ D ys H', H D = none → H' D = some (.lst ys) → Bes (PairV H') ys (isort qs) → Same H H' → Q (.ref D) H'
theorem ok_laid (B : Blt mg) (gb : GF P w K mg base 1 "_law_is_before" sp_before) (F : FD K d__law_laid fd) : FnG P w K mg base 3 (d__law_laid.at_ K) sp_laid := by
  have S := s__law_laid
  refine okG (dv := []) (ds := []) F S (FunD.bindsN F fun _ _ _ _ _ _ us hl => match us, hl with | [_], _ => rfl) .nil (fun vs H Q E h => ?_) (fun cdv A outer s H vs Q E hr h => ?_)
  · obtain ⟨_, _, _, rfl, _⟩ := h; rfl
  obtain ⟨a, xs, qs, rfl, ha, hal, hl, h⟩ := h
  refine ex_bv ?_
  walk_at "hv s"
  refine ⟨sz_ok (by simp), fun D hD => ?_⟩
  walk_at "hv s"
  refine sv_forL 2 (passes_of rfl) rfl (pg_name S.nd rfl (.inl rfl)) ?_
  walk_at "hv s"
  refine ⟨a, xs, rfl, .of (upd_keep hD ha), fun i σ H' => Same H H' ∧ ∃ (ys : List V) (x y : Option V), H' D = some (.lst ys) ∧ Bes (PairV H') ys (isort (qs.take i)) ∧ σ = [some (.ref a), some (.ref D), x, y], ⟨same_upd hD, [], _, _, upd_same, .nil, rfl⟩, fun i σ H' ⟨e, _⟩ => .of (e _ _ ha), ?_, ?_⟩
  · rintro i v σ H' hv ⟨e, ys, x, y, hy, hb, rfl⟩
    obtain ⟨q, hq, hr1, zq⟩ := hal.get i v hv
    have hyl := hb.len
    rw [isort_len, List.length_take] at hyl
    have hzs : ∀ p ∈ isort (qs.take i), Sz 3000 p := fun p hp => by
      obtain ⟨j, hj⟩ := List.getElem?_of_mem (List.mem_of_mem_take (isort_mem hp))
      obtain ⟨_, _, _, z⟩ := hal.getR j p hj
      exact z
    walk_at "hv s"
    refine sv_cut (fun σ H2 => Same H' H2 ∧ σ = [some (.ref a), some (.ref D), some v, some (.int (insAt q (isort (qs.take i)) : Nat))]) ?_ ?_
    · refine sv_while (passes_of rfl) (fun σ H2 => Same H' H2 ∧ ∃ k : Nat, σ = [some (.ref a), some (.ref D), some v, some (.int k)] ∧ k ≤ ys.length ∧ ∀ j p, j < k → (isort (qs.take i))[j]? = some p → p ≤ q)
        (fun σ _ => match σ with | [_, _, _, some (.int k)] => ys.length - k.toNat | _ => 0) ⟨Same.refl _, 0, rfl, Nat.zero_le _, fun j p hj => absurd hj (Nat.not_lt_zero _)⟩ ?_
      rintro σ H2 ⟨e2, k, rfl, hk, hj⟩
      have hy2 := e2 _ _ hy
      walk_at "hv s"
      refine ite_dec (fun hlt => ?_) (fun hlt => ?_)
      · have hlt' : k < ys.length := by omega
        obtain ⟨p, hp, hpr⟩ := hb.get k ys[k] (List.getElem?_eq_getElem hlt')
        walk_at "hv s"
        refine ev_call gb hr (by decide) rfl passL ?_
        walk_at "hv s"
        refine iv_lst (.of hy2) (v := ys[k]) (atI_nat (List.getElem?_eq_getElem hlt')) ?_
        walk_at "hv s"
        refine ⟨_, _, q, p, rfl, PairV.sm e2 (PairV.sm e hr1), PairV.sm e2 hpr, zq, hzs p (List.mem_of_getElem? hp), ?_⟩
        have e3 : Same H2 H2 := Same.refl _
        have hcmp : (!decide (q < p)) = decide (p ≤ q) := by rw [← decide_not]; exact decide_eq_decide.mpr Rat.not_lt
        refine ex_bl ?_
        rw [hcmp]
        refine ite_dec (fun hle => ?_) (fun hle => ?_)
        · walk_at "hv s"
          refine ⟨⟨e2.trans e3, k + 1, rfl, hlt', fun j p' hj' hp' => ?_⟩, ?_⟩
          · rcases Nat.lt_succ_iff_lt_or_eq.mp hj' with hj'' | rfl
            · exact hj j p' hj'' hp'
            · rw [hp] at hp'
              cases hp'
              exact hle
          · show ys.length - ((k : Int) + 1).toNat < ys.length - (k : Int).toNat
            omega
        · walk_at "hv s"
          refine ⟨e2.trans e3, ?_⟩
          rw [← insAt_of (i := k) (by rw [← hb.len]; exact hk) hj fun p' hp' => by rw [hp] at hp'; cases hp'; exact hle]
      · walk_at "hv s"
        refine ⟨e2, ?_⟩
        have : k = ys.length := by omega
        rw [← insAt_of (i := k) (by rw [← hb.len]; exact hk) hj fun p' hp' => by
          obtain ⟨hlt, _⟩ := List.getElem?_eq_some_iff.mp hp'
          rw [← hb.len] at hlt
          omega]
    · rintro σ H2 ⟨e2, rfl⟩
      have hy2 := e2 _ _ hy
      refine bv_cons ?_
      refine sv_expr (ev_insert ?_) rfl
      walk_at "hv s"
      refine ⟨ty_lst hy2, ?_⟩
      walk_at "hv s"
      have hin := insAt_le q (isort (qs.take i))
      rw [isort_len, List.length_take] at hin
      refine ⟨D, ys, _, v, rfl, rfl, hy2, by rw [sizeLine_eq]; omega, by omega, by omega, ?_⟩
      refine bv_nil ⟨Same.mut (e.trans e2) hD, _, _, _, upd_same, ?_, rfl⟩
      rw [take_snoc hq, isort_snoc, Int.toNat_natCast]
      have hb2 : Bes (PairV (upd H2 D (.lst (ys.take (insAt q (isort (qs.take i))) ++ [v] ++ ys.drop (insAt q (isort (qs.take i))))))) ys (isort (qs.take i)) := hb.imp fun v' q' hv' => PairV.exb (fun b o nb e' => by
        rw [upd_ne nb]
        exact e2 _ _ e') hy hv'
      exact ((hb2.take _).snoc (PairV.exb (fun b o nb e' => by rw [upd_ne nb]; exact e2 _ _ e') hy (PairV.sm e hr1))).app (hb2.drop _)
  · rintro σ H' ⟨e, ys, x, y, hy, hb, rfl⟩
    have hx : xs.length = qs.length := hal.len
    rw [hx, List.take_length] at hb
    walk_at "hv s"
    exact h D ys H' hD hy hb e
end
end HvP
/-! k11: the law -/
namespace HvP
open PySem PySem.Spec PyProof.Rows L2 Hv HvT SlX
local macro_rules | `(tactic| walk_at "hv name") => `(tactic| first
  | refine ev_var 0 (pv 0) rfl ?_ | refine ev_var 1 (pv 1) rfl ?_ | refine ev_var 2 (pv 2) rfl ?_ | refine ev_var 3 (pv 3) rfl ?_ | refine ev_var 4 (pv 4) rfl ?_
  | refine ev_var 5 (pv 5) rfl ?_ | refine ev_var 6 (pv 6) rfl ?_ | refine ev_var 7 (pv 7) rfl ?_ | refine ev_var 8 (pv 8) rfl ?_ | refine ev_var 9 (pv 9) rfl ?_
  | refine ev_var 10 (pv 10) rfl ?_ | refine ev_var 11 (pv 11) rfl ?_ | refine ev_var 12 (pv 12) rfl ?_ | refine ev_var 13 (pv 13) rfl ?_ | refine ev_var 14 (pv 14) rfl ?_)
local macro_rules | `(tactic| walk_at "hv hp") => `(tactic| first
  | with_reducible assumption
  | with_reducible exact upd_same
  | ((with_reducible refine' upd_keep ?a ?b); (case a => with_reducible assumption); (case b => walk_at "hv hp"))
  | ((with_reducible refine' Same.get ?a ?b); (case a => with_reducible assumption); (case b => walk_at "hv hp"))
  | ((with_reducible refine' ExB.gt ?a ?b ?c); (case a => with_reducible assumption); (case b => walk_at "hv hp"); (case c => walk_at "hv ne")))
local macro_rules | `(tactic| walk_at "hv ne") => `(tactic| first
  | assumption
  | (exact ne_of_none (by assumption) (by assumption))
  | (refine ne_of (by assumption) (by assumption) ?_; (intro hx; cases hx; done)))
local macro_rules | `(tactic| walk_at "hv same") => `(tactic| first
  | with_reducible assumption
  | with_reducible exact Same.refl _
  | ((with_reducible refine' Same.nw ?a ?b); (case a => with_reducible assumption); (case b => walk_at "hv same"))
  | ((with_reducible refine' Same.tr ?a ?b); (case a => with_reducible assumption); (case b => walk_at "hv same")))
local macro_rules | `(tactic| walk_at "hv exb") => `(tactic| first
  | with_reducible assumption
  | with_reducible exact ExB.refl _ _
  | ((with_reducible refine' ExB.nw ?a ?b); (case a => with_reducible assumption); (case b => walk_at "hv exb"))
  | ((with_reducible refine' ExB.trs ?a ?b); (case a => with_reducible assumption); (case b => walk_at "hv exb"))
  | ((with_reducible refine' ExB.tr ?a ?b); (case a => with_reducible assumption); (case b => walk_at "hv exb")))
local macro_rules | `(tactic| walk_at "hv sq") => `(tactic| first
  | assumption
  | exact .inl (by assumption)
  | exact .inr (by assumption)
  | ((with_reducible refine' SqL.of ?a); (case a => walk_at "hv hp"))
  | ((with_reducible refine' SqT.of ?a); (case a => walk_at "hv hp"))
  | ((with_reducible refine' Or.inl (SqL.of ?a)); (case a => walk_at "hv hp"))
  | ((with_reducible refine' Or.inr (SqT.of ?a)); (case a => walk_at "hv hp")))
local macro_rules | `(tactic| walk_at "hv op") => `(tactic| first
  | with_reducible refine ov_add ?_ | with_reducible refine ov_sub ?_ | ((with_reducible refine ov_mul ?h ?_); (case h => first | assumption | (walk_at "hv side"))) | ((with_reducible refine ov_mod ?h ?_); (case h => first | assumption | omega | (walk_at "hv side"))) | ((with_reducible refine ov_div ?h ?_); (case h => first | assumption | (walk_at "hv side"))) | ((with_reducible refine ov_pow ?h ?_); (case h => first | assumption | (walk_at "hv side")))
  | with_reducible refine ov_lt ?_ | with_reducible refine ov_le ?_ | with_reducible refine ov_gt ?_ | with_reducible refine ov_ge ?_ | with_reducible refine ov_eq ?_ | with_reducible refine ov_ne ?_ | with_reducible refine ov_eqs ?_ | with_reducible refine ov_nes ?_
  | with_reducible refine uv_neg ?_ | with_reducible refine cv_abs ?_ | with_reducible refine cv_int ?_ | with_reducible refine cv_intb ?_ | with_reducible refine cv_boolb ?_ | ((with_reducible refine cv_max ?h ?_); (case h => rfl)) | ((with_reducible refine cv_min ?h ?_); (case h => rfl))
  | ((with_reducible refine' cv_len ?h ?_); (case h => walk_at "hv sq")) | ((with_reducible refine' iv_lst ?h ?g ?_); (case h => walk_at "hv sq"); (case g => rfl)) | ((with_reducible refine' iv_tup ?h ?g ?_); (case h => walk_at "hv sq"); (case g => rfl)))
local macro_rules | `(tactic| walk_at "hv blt") => `(tactic| first
  | refine ev_intc (by assumption) ?_ | refine ev_abs (by assumption) ?_ | refine ev_len (by assumption) ?_ | refine ev_isinst (by assumption) ?_ | refine ev_repr (by assumption) ?_ | refine ev_all (by assumption) ?_ | refine ev_any (by assumption) ?_
  | refine ev_max (by assumption) ?_ | refine ev_min (by assumption) ?_ | refine ev_boolc (by assumption) ?_ | refine ev_sorted (by assumption) ?_ | refine ev_listc (by assumption) ?_ | refine ev_strc (by assumption) ?_ | refine ev_tuplec (by assumption) ?_ | refine ev_dictc (by assumption) ?_ | refine ev_sum (by assumption) ?_)
local macro_rules | `(tactic| walk_at "hv nblt") => `(tactic| first
  | refine ev_nint (by assumption) ?_ | refine ev_nbool (by assumption) ?_ | refine ev_nstr (by assumption) ?_ | refine ev_ndict (by assumption) ?_ | refine ev_nlist (by assumption) ?_ | refine ev_ntuple (by assumption) ?_)
local macro_rules | `(tactic| walk_at "hv one") => `(tactic| first
  | with_reducible refine bv_cons ?_ | ((with_reducible refine bv_id ?_); (refine bv_cons ?_)) | with_reducible refine bv_nil ?_ | with_reducible refine sv_ret ?_ | ((with_reducible refine sv_id ?_); (walk_at "hv set")) | with_reducible refine sv_if ?_ | ((with_reducible refine sv_expr ?_ ?h); (case h => rfl)) | ((with_reducible refine sv_slot ?_ ?h); (case h => rfl)) | ((with_reducible refine sv_seti ?_ ?a ?b ?c); (case a => (intro x; rfl)); (case b => rfl); (case c => rfl))
  | ((with_reducible refine ev_nm ?_); (first | walk_at "hv name" | walk_at "hv nblt"))
  | with_reducible refine ev_int ?_ | with_reducible refine ev_op ?_ | ((with_reducible refine ev_cmp ?_ ?h); (case h => first | exact nobehind _ (by decide) (by decide) | rfl))
  | ((with_reducible refine av_cons ?_ ?h); (case h => rfl)) | with_reducible refine av_nil ?_
  | with_reducible refine ev_str ?_ | with_reducible refine ev_bl ?_ | with_reducible refine ev_non ?_ | with_reducible refine ev_un ?_ | with_reducible refine ev_one ?_ | with_reducible refine ev_and ?_ | with_reducible refine ev_or ?_ | with_reducible refine ev_if ?_
  | with_reducible refine ev_tup ?_ | with_reducible refine ev_lst ?_ | ((with_reducible refine ev_ix ?h ?_); (case h => exact fun _ _ => rfl))
  | with_reducible refine tv_and ?_ | with_reducible refine tv_or ?_ | with_reducible refine tv_not ?_ | ((with_reducible refine tv_cmp ?_ ?h); (case h => first | exact nobehind _ (by decide) (by decide) | rfl)) | with_reducible refine wv_and ?_ | with_reducible refine wv_or ?_ | with_reducible refine wv_and1 ?_ | with_reducible refine wv_or1 ?_
  | walk_at "hv op"
  | ((with_reducible refine ev_cl ?_); (walk_at "hv blt"))
  | with_reducible refine ex_bl ?_ | with_reducible refine tru_bl ?_ | walk_at "hv ite"
  | ((with_reducible refine tv_val ?_ ?h); (case h => (intro x; rfl))))
local macro_rules | `(tactic| walk_at "hv loc") => `(tactic| first | exact .inl rfl | exact .inr rfl)
local macro_rules | `(tactic| walk_at "hv set") => `(tactic| first
  | refine sv_setS 0 rfl (by assumption) (by walk_at "hv loc") ?_ | refine sv_setS 1 rfl (by assumption) (by walk_at "hv loc") ?_ | refine sv_setS 2 rfl (by assumption) (by walk_at "hv loc") ?_ | refine sv_setS 3 rfl (by assumption) (by walk_at "hv loc") ?_
  | refine sv_setS 4 rfl (by assumption) (by walk_at "hv loc") ?_ | refine sv_setS 5 rfl (by assumption) (by walk_at "hv loc") ?_ | refine sv_setS 6 rfl (by assumption) (by walk_at "hv loc") ?_ | refine sv_setS 7 rfl (by assumption) (by walk_at "hv loc") ?_
  | refine sv_setS 8 rfl (by assumption) (by walk_at "hv loc") ?_ | refine sv_setS 9 rfl (by assumption) (by walk_at "hv loc") ?_ | refine sv_setS 10 rfl (by assumption) (by walk_at "hv loc") ?_ | refine sv_setS 11 rfl (by assumption) (by walk_at "hv loc") ?_)
local macro_rules | `(tactic| walk_at "hv dec") => `(tactic| first | assumption | rfl | omega | decide | (intro hz; cases hz; done))
local macro_rules | `(tactic| walk_at "hv ite") => `(tactic| first
  | with_reducible refine iteT ?_ | with_reducible refine iteF ?_ | with_reducible refine iteNF ?_ | with_reducible refine iteNT ?_
  | ((with_reducible refine ite_dec1 ?h ?_); (case h => walk_at "hv dec")) | ((with_reducible refine ite_dec0 ?h ?_); (case h => walk_at "hv dec"))
  | ((with_reducible refine ite_decN1 ?h ?_); (case h => walk_at "hv dec")) | ((with_reducible refine ite_decN0 ?h ?_); (case h => walk_at "hv dec")))
local macro_rules | `(tactic| walk_at "hv s") => `(tactic| (repeat (walk_at "hv one")))
section
variable {P : Program} {w : World} {K : PySem.W.Frag} {mg : Str → Option Value} {base : Heap} {fd : FuncData} {cs : List Addr}
theorem PairV.put {H : Hp} {v : V} {q : Rat} {D : Addr} {xs : List V} {o : HO} (h : PairV H v q) (hD : H D = some (.lst xs)) : PairV (upd H D o) v q := PairV.exb (fun b o nb e => by rw [upd_ne nb]; exact e) hD h
theorem RatV.put {H : Hp} {v : V} {q : Rat} {D : Addr} {xs : List V} {o : HO} (h : RatV K H v q) (hD : H D = some (.lst xs)) : RatV K (upd H D o) v q := h.exb hD fun b o nb e => by rw [upd_ne nb]; exact e
/-- pairs in a list at D -/
def PairsAt (H : Hp) (D : Addr) (k : Nat) (qs : List Rat) : Prop := ∃ xs, H D = some (.lst xs) ∧ Bes (fun v q => PairV H v q ∧ Sz k q) xs qs
theorem PairsAt.exb {H H' : Hp} {D t : Addr} {k : Nat} {qs : List Rat} {ts : List V} (h : PairsAt H D k qs) (n : D ≠ t) (ht : H t = some (.lst ts)) (e : ExB t H H') : PairsAt H' D k qs :=
  let ⟨xs, h1, h2⟩ := h
  ⟨xs, e _ _ n h1, h2.imp fun _ _ z => ⟨PairV.exb e ht z.1, z.2⟩⟩
theorem PairsAt.same {H H' : Hp} {D : Addr} {k : Nat} {qs : List Rat} (h : PairsAt H D k qs) (e : Same H H') : PairsAt H' D k qs :=
  let ⟨xs, h1, h2⟩ := h
  ⟨xs, e _ _ h1, h2.imp fun _ _ z => ⟨PairV.sm e z.1, z.2⟩⟩
def RatsAt (K : PySem.W.Frag) (H : Hp) (D : Addr) (k : Nat) (qs : List Rat) : Prop := ∃ xs, H D = some (.lst xs) ∧ Bes (fun v q => RatV K H v q ∧ Sz k q) xs qs
theorem RatsAt.exb {H H' : Hp} {D t : Addr} {k : Nat} {qs : List Rat} {ts : List V} (h : RatsAt K H D k qs) (n : D ≠ t) (ht : H t = some (.lst ts)) (e : ExB t H H') : RatsAt K H' D k qs :=
  let ⟨xs, h1, h2⟩ := h
  ⟨xs, e _ _ n h1, h2.imp fun _ _ z => ⟨z.1.exb ht e, z.2⟩⟩
theorem RatsAt.same {H H' : Hp} {D : Addr} {k : Nat} {qs : List Rat} (h : RatsAt K H D k qs) (e : Same H H') : RatsAt K H' D k qs :=
  let ⟨xs, h1, h2⟩ := h
  ⟨xs, e _ _ h1, h2.imp fun _ _ z => ⟨z.1.same e, z.2⟩⟩
theorem _root_.Hv.Bes.mem {R : V → Rat → Prop} {T : Rat → Prop} {xs : List V} {qs : List Rat} (h : Bes R xs qs) (f : ∀ q ∈ qs, T q) : Bes (fun v q => R v q ∧ T q) xs qs := by
  induction h with
  | nil => exact .nil
  | cons h _ ih => exact .cons ⟨h, f _ (List.mem_cons_self ..)⟩ (ih fun q hq => f q (List.mem_cons_of_mem _ hq))
theorem _root_.Hv.Bes.all {R : V → Rat → Prop} {T : Rat → Prop} {xs : List V} {qs : List Rat} (h : Bes R xs qs) (f : ∀ v q, R v q → T q) : ∀ q ∈ qs, T q := fun q hq => by
  obtain ⟨j, hj⟩ := List.getElem?_of_mem hq
  obtain ⟨_, _, z⟩ := h.getR j q hj
  exact f _ _ z
structure REq (P : Program) (w : World) (K : PySem.W.Frag) (mg : Str → Option Value) (base : Heap) : Prop where
  ex : ∃ a, Meth K (CR K) "__eq__" a ∧ FnG P w K mg base 6 a (sp_eqR K)
theorem ov_rateq {X : Cx} {H : Hp} {Q : VK} {j : Nat} {x y : V} {p q : Rat} (O : REq X.prog X.w X.K X.mg X.base) (R : RW X.K X.mg cs) (hr : RoomG j X.A) (hj : 6 ≤ j) (hx : RatV X.K H x p) (hy : RatV X.K H y q) (h : Q (.bl (decide (p = q))) H) : OV X (compareOp .Eq) x y H Q := by
  obtain ⟨a, m, F⟩ := O.ex
  exact ⟨_, op_cmpn (op := .Eq) (E := E0) (fun _ _ => rfl) R.num m m F F hr hj passL io_eq, .inl ⟨hx.isIn, .inl hy.isIn, x, y, p, q, rfl, hx, hy, h⟩⟩
theorem cut1 (xs : List V) : cutV xs (some 1) none = xs.drop 1 := by
  have e1 : HT.sIx xs.length 0 (some 1) = min 1 xs.length := HT.sIx_nat xs.length 0 1
  unfold cutV
  rw [e1, HT.sIx_none]
  cases xs with
  | nil => rfl
  | cons c r =>
    have e2 : min 1 (c :: r).length = 1 := by simp
    rw [e2]
    exact List.take_of_length_le (by simp)
theorem seventh : (Rat.divInt 1 7).num = 1 ∧ ((Rat.divInt 1 7).den : Int) = 7 := by decide +kernel
theorem third : (Rat.divInt (-1) 3) < 0 := by decide +kernel
def sp_r11 : Sp := fun vs H Q _ => ∃ (t : Addr) (c : Nat), vs = [.ref t] ∧ Pot H t c ∧ c < 800000 ∧ ∀ H', ExB t H H' → Pot H' t (c + 100) → Q (.bl true) H'
theorem ok_r11 (R : RW K mg cs) (O : ROps P w K mg base) (gd : GF P w K mg base 3 "_law_drawn_pair" sp_drawn) (go : GF P w K mg base 2 "_law_of" (sp_of K)) (gp : GF P w K mg base 2 "_law_plus" (sp_pair2 fun p q => p + q)) (gl : GF P w K mg base 4 "_law_ratio" (sp_lratio K))
    (gt : GF P w K mg base 8 "_law_told_laid" (sp_told K)) (ga : GF P w K mg base 3 "_law_laid" sp_laid) (gi : GF P w K mg base 3 "_law_is_ratio" (sp_lisr K)) (g2 : GM P w K mg base 2 "Ratio" (sp_mk2 K)) (g1 : GM P w K mg base 2 "Ratio" (sp_mk1 K))
    (Q0 : REq P w K mg base) (Ah : RMt P w K mg base "halved" fun p => p * Rat.divInt 1 2) (Ab : RMt P w K mg base "__abs__" fun p => if p < 0 then -p else p)
    {pr : Addr} (pt : PropG K (CR K) "text" pr (d_Ratio_text.at_ K)) (Ft : FnG P w K mg base 1 (d_Ratio_text.at_ K) (sp_text K)) {sr : Addr} (cr : ClX.CRead K (CR K) (.type "type")) (sm : SMet K (CR K) (.type "type") "of" sr (d_Ratio_of.at_ K)) (Fo : FnG P w K mg base 4 (d_Ratio_of.at_ K) (sp_ofT K))
    (F : FD K d__law_right fd) : FnG P w K mg base 10 (d__law_right.at_ K) sp_r11 := by
  have S := s__law_right
  have B := R.B
  refine okG (dv := []) (ds := []) F S (FunD.bindsN F fun _ _ _ _ _ _ us hl => match us, hl with | [_], _ => rfl) .nil (fun vs H Q E h => ?_) (fun cdv A outer s H vs Q E hr h => ?_)
  · obtain ⟨_, _, rfl, _⟩ := h; rfl
  obtain ⟨t, c, rfl, hp, hc, h⟩ := h
  obtain ⟨ts, hts⟩ := hp.at_
  refine ex_bv ?_
  refine bv_cons (sv_cut (fun σ H1 => ∃ D qs, σ = [some (.ref t), some (.ref D), none, none, none, none, none, none, none, none, none, none] ∧ D ≠ t ∧ PairsAt H1 D 40 qs ∧ qs.length = 6 ∧ ExB t H H1 ∧ Pot H1 t (c + 60)) ?_ ?_)
  · refine sv_lcR 1 (own := [("_law_turn", 9)]) 9 B rfl S.nd rfl rfl (sw_true rfl rfl rfl rfl) (blkOk_by (by kernel_rfl)) (fun _ _ _ _ _ => pg_name S.nd rfl (.inl rfl)) (fun _ => rfl) ?_
    walk_at "hv s"
    refine ⟨6, rfl, by decide, fun D hD => ⟨fun i ys H2 => ∃ qs, Bes (fun v q => PairV H2 v q ∧ Sz 40 q) ys qs ∧ ExB t H H2 ∧ Pot H2 t (c + 10 * i), ⟨[], .nil, (ExB.refl t H).new hD, hp.same (same_upd hD)⟩, ?_, ?_⟩⟩
    · rintro m ys H2 hm hly hDy ⟨qs, hb, e2, hp2⟩ s0 H0 C cl fp
      have nD : t ≠ D := ne_of_none hts hD
      obtain ⟨ts2, hts2⟩ := hp2.at_
      refine ev_call gd hr (by decide) rfl passL ?_
      walk_at "hv s"
      refine ⟨t, _, rfl, hp2, by omega, fun v q H3 hv zq e3 hp3 => ?_⟩
      have hD3 := e3 _ _ (Ne.symm nD) hDy
      exact ⟨hD3, qs ++ [q], Bes.snoc (hb.imp fun _ _ z => ⟨(PairV.exb e3 hts2 z.1).put hD3, z.2⟩) ⟨hv.put hD3, zq⟩, ExB.mut (e2.trans e3) hD, pot_upd (hp3.mono (by omega)) nD⟩
    · rintro ys H2 hly hDy ⟨qs, hb, e2, hp2⟩
      exact ⟨D, qs, rfl, ne_of_none hts hD |>.symm, ⟨ys, hDy, hb⟩, by rw [← hb.len]; exact hly, e2, hp2⟩
  rintro σ H1 ⟨D, qs, rfl, nD, hps, hq6, e1, hp1⟩
  refine bv_cons (sv_cut (fun σ H2 => ∃ D qs, σ = [some (.ref t), some (.ref D), none, none, none, none, none, none, none, none, none, none] ∧ D ≠ t ∧ PairsAt H2 D 100 qs ∧ qs.length = 8 ∧ ExB t H H2 ∧ Pot H2 t (c + 70)) ?_ ?_)
  · obtain ⟨xs, hx, hb⟩ := hps
    obtain ⟨ts1, hts1⟩ := hp1.at_
    have hx6 : xs.length = 6 := by rw [hb.len]; exact hq6
    walk_at "hv s"
    refine ev_call go hr (by decide) rfl passL ?_
    walk_at "hv s"
    refine ⟨t, D, xs, _, rfl, hx, nD, by omega, by omega, hp1, by omega, fun i v H2 hv e2 hp2 => ?_⟩
    obtain ⟨q, hq, hvq, zq⟩ := hb.get i v hv
    have hvq2 := PairV.exb e2 hts1 hvq
    obtain ⟨ts2, hts2⟩ := hp2.at_
    have hx2 := e2 _ _ nD hx
    walk_at "hv s"
    refine ev_call gp hr (by decide) rfl passL ?_
    walk_at "hv s"
    refine ev_call go hr (by decide) rfl passL ?_
    walk_at "hv s"
    refine ⟨t, D, xs, _, rfl, hx2, nD, by omega, by omega, hp2, by omega, fun i' v' H3 hv' e3 hp3 => ?_⟩
    obtain ⟨q', hq', hvq', zq'⟩ := hb.get i' v' hv'
    have hvq3 := PairV.exb e3 hts2 (PairV.exb e2 hts1 hvq')
    obtain ⟨ts3, hts3⟩ := hp3.at_
    walk_at "hv s"
    refine ⟨sz_ok (by simp), fun T hT => ?_⟩
    walk_at "hv s"
    refine ⟨_, _, q', Rat.divInt 1 7, rfl, hvq3.nw hT, pair_at upd_same seventh.1 seventh.2, zq'.mono (by decide), sz_div (b := 3000) (up (b := 3000) (show (1 : Int).natAbs < 2 ^ 2 by decide) (by decide)) (up (b := 3000) (show (7 : Int).natAbs < 2 ^ 4 by decide) (by decide)) (by decide), fun u H4 hu e4 => ?_⟩
    have e34 : Same H3 H4 := (same_upd hT).trans e4
    have hp4 := hp3.same e34
    have hv4 : PairV H4 v q := PairV.sm e34 (PairV.exb e3 hts2 hvq2)
    have hx4 := e34 _ _ (e3 _ _ nD hx2)
    walk_at "hv s"
    refine ⟨sz_ok (by simp), fun L hL => ?_⟩
    have nDL : D ≠ L := ne_of_none hx4 hL
    have zu : Sz 100 (q' + Rat.divInt 1 7) := (sz_add (a := 40) (b := 5) zq' (sz_div (by decide) (by decide) (by decide))).mono (by decide)
    refine ⟨_, op_cat, D, L, xs, [v, u], rfl, rfl, upd_keep hL hx4, upd_same, by simp [hx6, sizeLine_eq], fun M hM => ?_⟩
    have e14 : ExB t H1 H4 := ((e2.trans e3).trans (Same.exb e34))
    have sm : Same H4 (upd (upd H4 L (.lst [v, u])) M (.lst (xs ++ [v, u]))) := Same.nw hM (same_upd hL)
    refine ⟨M, qs ++ [q, q' + Rat.divInt 1 7], rfl, ?_, ⟨_, upd_same, Bes.app (hb.imp fun _ _ z => ⟨PairV.sm sm (PairV.exb e14 hts1 z.1), z.2.mono (by decide)⟩) (.cons ⟨PairV.sm sm hv4, zq.mono (by decide)⟩ (.one ⟨PairV.sm sm hu, zu⟩))⟩, by simp [hq6], (e1.trans e14).trans (Same.exb sm), (hp4.same sm).mono (by omega)⟩
    obtain ⟨ts4, hts4⟩ := hp4.at_
    exact (ne_of_none (upd_keep (o := .lst [v, u]) hL hts4) hM).symm
  rintro σ H2 ⟨D2, rs, rfl, nD2, hps2, hr8, e2, hp2⟩
  refine bv_cons (sv_cut (fun σ H3 => ∃ N, σ = [some (.ref t), some (.ref D2), some (.ref N), none, none, none, none, none, none, none, none, none] ∧ RatsAt K H3 N 100 rs ∧ Same H2 H3) ?_ ?_)
  · obtain ⟨xs, hx, hb⟩ := hps2
    have hx8 : xs.length = 8 := by rw [hb.len]; exact hr8
    refine sv_lcL 2 (own := [("_law_pair", 10)]) 10 rfl S.nd rfl rfl (sw_true rfl rfl rfl rfl) (blkOk_by (by kernel_rfl)) (fun _ _ _ _ _ => pg_name S.nd rfl (.inl rfl)) (fun _ => rfl) ?_
    walk_at "hv s"
    refine ⟨D2, xs, rfl, .of hx, by omega, fun N hN => ⟨fun i ys H' => Same H2 H' ∧ Bes (fun v q => RatV K H' v q ∧ Sz 100 q) ys (rs.take i), ⟨same_upd hN, .nil⟩, fun i ys H' ⟨e, _⟩ => .of (e _ _ hx), ?_, ?_⟩⟩
    · rintro i ys v H' hv hli hNy ⟨e, hy⟩ s0 H0 C cl fp
      obtain ⟨q, hq, hvq, zq⟩ := hb.get i v hv
      refine ev_call gl hr (by decide) rfl passL ?_
      walk_at "hv s"
      refine ⟨v, q, rfl, PairV.sm e hvq, zq.mono (by decide), fun u H4 hu e4 => ?_⟩
      have hN4 := e4 _ _ hNy
      refine ⟨hN4, Same.mut (e.trans e4) hN, ?_⟩
      rw [take_snoc hq]
      exact Bes.snoc (hy.imp fun _ _ z => ⟨(z.1.same e4).put hN4, z.2⟩) ⟨hu.put hN4, zq⟩
    · rintro ys H' hly hNy ⟨e, hy⟩
      rw [hb.len, List.take_length] at hy
      exact ⟨N, rfl, ⟨ys, hNy, hy⟩, e⟩
  rintro σ H3 ⟨N, rfl, hrn, e23⟩
  have hz : ∀ q ∈ rs, Sz 100 q := let ⟨_, _, hb⟩ := hrn; hb.all fun _ _ z => z.2
  have hzi : ∀ q ∈ isort rs, Sz 100 q := fun q hq => hz q (isort_mem hq)
  have hli : (isort rs).length = 8 := by rw [isort_len]; exact hr8
  refine bv_cons (sv_cut (fun σ H4 => ∃ L f sh, σ = [some (.ref t), some (.ref D2), some (.ref N), none, some (.ref L), some f, none, none, none, none, none, none] ∧ L ≠ t ∧ RatsAt K H4 L 100 (isort rs) ∧ RatV K H4 f sh ∧ Sz 40 sh ∧ PairsAt H4 D2 100 rs ∧ ExB t H H4 ∧ Pot H4 t (c + 80)) ?_ ?_)
  · obtain ⟨xs, hx, hb⟩ := hrn
    refine sv_par 4 5 rfl S.nd rfl rfl (by decide) rfl rfl ?_
    walk_at "hv s"
    refine ev_call gt hr (by decide) rfl passL ?_
    walk_at "hv s"
    have hp3 := hp2.same e23
    obtain ⟨ts3, hts3⟩ := hp3.at_
    refine ⟨N, xs, rs, rfl, hx, hb.imp fun _ _ z => ⟨z.1, z.2.mono (by decide)⟩, by omega, fun L ys H4 hLn hL hly e4 => ?_⟩
    have nL : L ≠ t := (ne_of_none hts3 hLn).symm
    have hp4 := hp3.same e4
    obtain ⟨ts4, hts4⟩ := hp4.at_
    walk_at "hv s"
    refine ev_call gl hr (by decide) rfl passL ?_
    walk_at "hv s"
    refine ev_call gd hr (by decide) rfl passL ?_
    walk_at "hv s"
    refine ⟨t, _, rfl, hp4, by omega, fun v q H5 hv zq e5 hp5 => ?_⟩
    walk_at "hv s"
    refine ⟨v, q, rfl, hv, zq.mono (by decide), fun u H6 hu e6 => ?_⟩
    walk_at "hv s"
    have hRL : RatsAt K H4 L 100 (isort rs) := ⟨ys, hL, hly.mem hzi⟩
    exact ⟨_, _, rfl, L, u, q, rfl, nL, (hRL.exb nL hts4 e5).same e6, hu, zq, (((hps2.same e23).same e4).exb nD2 hts4 e5).same e6, ((e2.trans (Same.exb (e23.trans e4))).trans e5).trans (Same.exb e6), (hp5.same e6).mono (by omega)⟩
  rintro σ H4 ⟨L, f, sh, rfl, nL, hL, hf, zsh, hps4, e4, hp4⟩
  refine bv_cons (sv_cut (fun σ H5 => ∃ b bq, σ = [some (.ref t), some (.ref D2), some (.ref N), some b, some (.ref L), some f, none, none, none, none, none, none] ∧ NumV K H5 b bq ∧ bq < 0 ∧ Sz 40 bq ∧ RatsAt K H5 L 100 (isort rs) ∧ RatV K H5 f sh ∧ PairsAt H5 D2 100 rs ∧ ExB t H H5 ∧ Pot H5 t (c + 90)) ?_ ?_)
  · walk_at "hv s"
    refine ev_call go hr (by decide) rfl passL ?_
    walk_at "hv s"
    refine ev_make g2 hr (by decide) rfl passL ?_
    walk_at "hv s"
    refine ⟨-1, 3, rfl, by decide, up (b := 8000) (show (-1 : Int).natAbs < 2 ^ 2 by decide) (by decide), up (b := 8000) (show (3 : Int).natAbs < 2 ^ 2 by decide) (by decide), fun v H5 hv e5 => ?_⟩
    walk_at "hv s"
    refine ⟨sz_ok (by simp), fun l hl => ?_⟩
    have hp5 := hp4.same e5
    obtain ⟨ts5, hts5⟩ := hp5.at_
    have hp6 := hp5.same (same_upd (o := .lst [v, .int (-2), .int (-1)]) hl)
    obtain ⟨ts6, hts6⟩ := hp6.at_
    walk_at "hv s"
    refine ⟨t, l, _, _, rfl, upd_same, Ne.symm (ne_of_none hts5 hl), by simp, by simp, hp6, by omega, fun i b H6 hb e6 hp7 => ?_⟩
    have e46 : Same H4 (upd H5 l (.lst [v, .int (-2), .int (-1)])) := e5.trans (same_upd hl)
    obtain ⟨bq, hbq, hneg, zb⟩ : ∃ bq, NumV K H6 b bq ∧ bq < 0 ∧ Sz 40 bq := by
      have hm := List.mem_of_getElem? hb
      simp only [List.mem_cons, List.not_mem_nil, or_false] at hm
      rcases hm with rfl | rfl | rfl
      · exact ⟨_, .inr ((hv.nw hl).exb hts6 e6), third, sz_div (by decide) (by decide) (by decide)⟩
      · exact ⟨((-2 : Int) : Rat), .inl ⟨_, rfl, rfl⟩, by decide, sz_int (by decide) (by decide)⟩
      · exact ⟨((-1 : Int) : Rat), .inl ⟨_, rfl, rfl⟩, by decide, sz_int (by decide) (by decide)⟩
    exact ⟨b, bq, rfl, hbq, hneg, zb, (hL.same e46).exb nL hts6 e6, (hf.same e46).exb hts6 e6, (hps4.same e46).exb nD2 hts6 e6, (e4.trans (Same.exb e46)).trans e6, hp7.mono (by omega)⟩
  rintro σ H5 ⟨b, bq, rfl, hb, hneg, zb, hL5, hf5, hps5, e5, hp5⟩
  refine bv_cons (sv_cut (fun σ H6 => σ = [some (.ref t), some (.ref D2), some (.ref N), some b, some (.ref L), some f, none, none, none, none, none, none] ∧ Same H5 H6) ?_ ?_)
  · walk_at "hv s"
    refine ev_lcZ (own := [("_law_number", 11), ("_law_pair", 10)]) 11 10 B rfl S.nd (blkOk_by (by kernel_rfl)) (fun _ _ _ _ _ => pg_tup rfl (pgs_cons (pg_name S.nd rfl (.inl rfl)) (pgs_cons (pg_name S.nd rfl (.inl rfl)) pgs_nil))) (fun _ _ => rfl) ?_
    walk_at "hv s"
    refine ev_call ga hr (by decide) rfl passL ?_
    walk_at "hv s"
    obtain ⟨xs, hx, hbx⟩ := hps5
    obtain ⟨ls, hls, hbl⟩ := hL5
    refine ⟨D2, xs, rs, rfl, hx, hbx.imp fun _ _ z => ⟨z.1, z.2.mono (by decide)⟩, by omega, fun M zs H6 hMn hM hzs e6 => ?_⟩
    walk_at "hv s"
    have hl6 := e6 _ _ hls
    refine ⟨L, M, ls, zs, rfl, .of hl6, .of hM, by rw [hbl.len]; omega, fun G hG => ⟨fun i ys H' => ys = List.replicate i (V.bl true) ∧ Same H6 H', ⟨rfl, same_upd hG⟩, fun i ys H' ⟨_, e⟩ => ⟨.of (e _ _ hl6), .of (e _ _ hM)⟩, ?_, ?_⟩⟩
    · rintro i ys v z H' T hv hzv hl hGy ⟨rfl, e⟩ hT s0 H0 C cl fp
      obtain ⟨q, hq, hvq, zq⟩ := hbl.get i v hv
      obtain ⟨q', hq', hzq⟩ := hzs.get i z hzv
      rw [hq] at hq'
      cases hq'
      have e2' : Same H6 (upd H' T (.tup [v, z])) := e.trans (same_upd hT)
      refine ev_call gi hr (by decide) rfl passL ?_
      walk_at "hv s"
      refine ⟨v, z, q, rfl, (hvq.same e6).same e2', PairV.sm e2' hzq, zq.mono (by decide), fun H7 e7 => ⟨e7 _ _ (upd_keep hT hGy), ?_, Same.mut (e2'.trans e7) hG⟩⟩
      rw [List.replicate_succ']
    · rintro ys H' hly hGy ⟨rfl, e⟩
      walk_at "hv s"
      refine cv_all rfl (bs := List.replicate (min ls.length zs.length) true) (.of (by rw [List.map_replicate]; exact hGy)) ?_
      have ea : (List.replicate (min ls.length zs.length) true).all id = true := by simp
      rw [ea]
      refine ex_bl ?_
      refine iteNT ?_
      exact bv_nil ⟨rfl, e6.trans e⟩
  rintro σ H6 ⟨rfl, e56⟩
  obtain ⟨ls, hls, hbl⟩ := hL5.same e56
  have hf6 := hf5.same e56
  have hb6 := hb.same e56
  refine bv_cons (sv_cut (fun σ H7 => (∃ x y z, σ = [some (.ref t), some (.ref D2), some (.ref N), some b, some (.ref L), some f, x, y, z, none, none, none]) ∧ Same H6 H7) ?_ ?_)
  · refine sv_forZ 6 7 B (passes_of rfl) rfl (pg_tup rfl (pgs_cons (pg_name S.nd rfl (.inl rfl)) (pgs_cons (pg_name S.nd rfl (.inl rfl)) pgs_nil))) ?_
    walk_at "hv s"
    refine ev_slL ?_
    walk_at "hv s"
    refine os_so ?_
    walk_at "hv s"
    refine ⟨_, rfl, os_no ⟨L, ls, rfl, .of hls, fun M hM => ?_⟩⟩
    walk_at "hv s"
    rw [cut1] at *
    refine ⟨L, M, ls, ls.drop 1, rfl, .of (upd_keep hM hls), .of upd_same, fun i σ H' => (∃ x y z, σ = [some (.ref t), some (.ref D2), some (.ref N), some b, some (.ref L), some f, x, y, z, none, none, none]) ∧ Same (upd H6 M (.lst (ls.drop 1))) H', ⟨⟨_, _, _, rfl⟩, Same.refl _⟩, fun i σ H' ⟨_, e⟩ => ⟨.of (e _ _ (upd_keep hM hls)), .of (e _ _ upd_same)⟩, ?_, ?_⟩
    · rintro i v z σ H' T hv hzv hT ⟨⟨x, y, s', rfl⟩, e⟩
      obtain ⟨p, hp, hvp, zp⟩ := hbl.get i v hv
      rw [List.getElem?_drop] at hzv
      obtain ⟨q, hq, hzq, zq⟩ := hbl.get (1 + i) z hzv
      have hpq : p ≤ q := pw_next (isort_pw rs) hp (by rw [Nat.add_comm]; exact hq)
      have eM : Same H6 (upd H6 M (.lst (ls.drop 1))) := same_upd hM
      have e7 : Same H6 (upd H' T (.tup [v, z])) := (eM.trans e).trans (same_upd hT)
      have e7b : Same (upd H6 M (.lst (ls.drop 1))) (upd H' T (.tup [v, z])) := e.trans (same_upd hT)
      generalize upd H' T (.tup [v, z]) = H7 at e7 e7b ⊢
      have rv := hvp.same e7
      have rz := hzq.same e7
      have zp3 : Sz 3000 p := zp.mono (by decide)
      have zq3 : Sz 3000 q := zq.mono (by decide)
      refine bv_cons (sv_cut (fun σ H8 => ∃ sp, σ = [some (.ref t), some (.ref D2), some (.ref N), some b, some (.ref L), some f, some v, some z, some sp, none, none, none] ∧ RatV K H8 sp (q - p) ∧ Same H7 H8) ?_ ?_)
      · walk_at "hv s"
        refine ov_rat O.sub R hr (by decide) tab_sub io_sub (.inr rz) (.inr rv) (.inl rz) zq3 zp3 fun u H8 hu e8 => ?_
        exact ⟨u, rfl, hu, e8⟩
      rintro σ H8 ⟨sp, rfl, hsp, e8⟩
      have zsp : Sz 3000 (q - p) := (sz_sub zq zp).mono (by decide)
      have rv8 := rv.same e8
      have rz8 := rz.same e8
      have n0 : ∀ H, NumV K H (.int 0) (0 : Rat) := fun H => .inl ⟨0, rfl, rfl⟩
      have z0 : Sz 3000 (0 : Rat) := sz_int (i := 0) (by decide) (by decide)
      refine bv_cons (sv_cut (fun σ H9 => σ = [some (.ref t), some (.ref D2), some (.ref N), some b, some (.ref L), some f, some v, some z, some sp, none, none, none] ∧ Same H8 H9) ?_ ?_)
      · walk_at "hv s"
        refine ov_ratc (fun _ _ => rfl) O.le R hr (by decide) io_le (.inr rv8) (.inr rz8) (.inl rv8) zp3 zq3 fun H9 e9 => ?_
        rw [decide_eq_true hpq]
        walk_at "hv s"
        refine ov_ratc (fun _ _ => rfl) O.gt R hr (by decide) io_gt (.inr (rv8.same e9)) (.inr (rz8.same e9)) (.inl (rv8.same e9)) zp3 zq3 fun H10 e10 => ?_
        rw [decide_eq_false (Rat.not_lt.mpr hpq)]
        walk_at "hv s"
        refine ov_ratc (fun _ _ => rfl) O.lt R hr (by decide) io_lt (.inr ((hsp.same e9).same e10)) (n0 _) (.inl ((hsp.same e9).same e10)) zsp z0 fun H11 e11 => ?_
        rw [decide_eq_false (Rat.not_lt.mpr ((Rat.le_iff_sub_nonneg p q).mp hpq))]
        walk_at "hv s"
        refine ev_make g1 hr (by decide) rfl passL ?_
        walk_at "hv s"
        refine ⟨0, rfl, by decide, fun r0 H12 hr0 e12 => ?_⟩
        refine ov_rateq Q0 R hr (by decide) ((((hsp.same e9).same e10).same e11).same e12) hr0 ?_
        walk_at "hv s"
        refine ov_rateq Q0 R hr (by decide) ((((rv8.same e9).same e10).same e11).same e12) ((((rz8.same e9).same e10).same e11).same e12) ?_
        refine ov_neb ?_
        have eq1 : decide (q - p = ((0 : Int) : Rat)) = decide (p = q) := decide_eq_decide.mpr ⟨fun z => by have : ((0 : Int) : Rat) = 0 := rfl; grind, fun z => by have : ((0 : Int) : Rat) = 0 := rfl; grind⟩
        rw [eq1]
        have eq2 : decide (decide (p = q) = decide (p = q)) = true := decide_eq_true rfl
        rw [eq2]
        walk_at "hv s"
        exact ⟨rfl, ((e9.trans e10).trans e11).trans e12⟩
      rintro σ H9 ⟨rfl, e89⟩
      have rv9 := rv8.same e89
      have rz9 := rz8.same e89
      have hsp9 := hsp.same e89
      have qlt : decide (p < q) = decide ((0 : Rat) < q - p) := decide_eq_decide.mpr (Rat.lt_iff_sub_pos p q)
      refine bv_cons (sv_cut (fun σ H10 => σ = [some (.ref t), some (.ref D2), some (.ref N), some b, some (.ref L), some f, some v, some z, some sp, none, none, none] ∧ Same H9 H10) ?_ ?_)
      · walk_at "hv s"
        refine ov_ratc (fun _ _ => rfl) O.lt R hr (by decide) io_lt (.inr rv9) (.inr rz9) (.inl rv9) zp3 zq3 fun H10 e10 => ?_
        walk_at "hv s"
        refine ov_ratc (fun _ _ => rfl) O.gt R hr (by decide) io_gt (.inr (hsp9.same e10)) (n0 _) (.inl (hsp9.same e10)) zsp z0 fun H11 e11 => ?_
        refine ov_neb ?_
        rw [qlt]
        have eq2 : decide (decide ((0 : Rat) < q - p) = decide ((0 : Rat) < q - p)) = true := decide_eq_true rfl
        rw [eq2]
        walk_at "hv s"
        refine ov_ratc (fun _ _ => rfl) O.ge R hr (by decide) io_ge (.inr ((rv9.same e10).same e11)) (.inr ((rz9.same e10).same e11)) (.inl ((rv9.same e10).same e11)) zp3 zq3 fun H12 e12 => ?_
        by_cases hqp : q ≤ p
        · rw [decide_eq_true hqp]
          walk_at "hv s"
          refine ov_ratc (fun _ _ => rfl) O.gt R hr (by decide) io_gt (.inr (((hsp9.same e10).same e11).same e12)) (n0 _) (.inl (((hsp9.same e10).same e11).same e12)) zsp z0 fun H13 e13 => ?_
          rw [← qlt, decide_eq_false (Rat.not_lt.mpr hqp)]
          walk_at "hv s"
          exact ⟨rfl, ((e10.trans e11).trans e12).trans e13⟩
        · rw [decide_eq_false hqp]
          walk_at "hv s"
          exact ⟨rfl, (e10.trans e11).trans e12⟩
      rintro σ H10 ⟨rfl, e9⟩
      have rv10 := rv9.same e9
      have rz10 := rz9.same e9
      have f10 := hf6.same (((e7.trans e8).trans e89).trans e9)
      have b10 := hb6.same (((e7.trans e8).trans e89).trans e9)
      have zsh3 : Sz 3000 sh := zsh.mono (by decide)
      have zb3 : Sz 3000 bq := zb.mono (by decide)
      walk_at "hv s"
      refine ov_rat O.add R hr (by decide) tab_add io_add (.inr rv10) (.inr f10) (.inl rv10) zp3 zsh3 fun a1 H11 ha1 e11 => ?_
      walk_at "hv s"
      refine ov_rat O.add R hr (by decide) tab_add io_add (.inr (rz10.same e11)) (.inr (f10.same e11)) (.inl (rz10.same e11)) zq3 zsh3 fun a2 H12 ha2 e12 => ?_
      refine ov_ratc (fun _ _ => rfl) O.le R hr (by decide) io_le (.inr (ha1.same e12)) (.inr ha2) (.inr ha2) ((sz_add zp zsh).mono (by decide)) ((sz_add zq zsh).mono (by decide)) fun H13 e13 => ?_
      have c1 : p + sh ≤ q + sh := Rat.add_le_add_right.mpr hpq
      rw [decide_eq_true c1]
      walk_at "hv s"
      refine ov_rat O.mul R hr (by decide) tab_mul io_mul (.inr (((rv10.same e11).same e12).same e13)) (((b10.same e11).same e12).same e13) (.inl (((rv10.same e11).same e12).same e13)) zp3 zb3 fun a3 H14 ha3 e14 => ?_
      walk_at "hv s"
      refine ov_rat O.mul R hr (by decide) tab_mul io_mul (.inr ((((rz10.same e11).same e12).same e13).same e14)) ((((b10.same e11).same e12).same e13).same e14) (.inl ((((rz10.same e11).same e12).same e13).same e14)) zq3 zb3 fun a4 H15 ha4 e15 => ?_
      refine ov_ratc (fun _ _ => rfl) O.ge R hr (by decide) io_ge (.inr (ha3.same e15)) (.inr ha4) (.inr ha4) ((sz_mul zp zb).mono (by decide)) ((sz_mul zq zb).mono (by decide)) fun H16 e16 => ?_
      have c2 : q * bq ≤ p * bq := by
        have := Rat.mul_le_mul_of_nonneg_right hpq (Rat.le_of_lt (show (0 : Rat) < -bq by grind))
        grind
      rw [decide_eq_true c2]
      walk_at "hv s"
      have e1016 := ((((e11.trans e12).trans e13).trans e14).trans e15).trans e16
      refine ev_ratm Ah R hr (by decide) ?_
      walk_at "hv s"
      refine ⟨p, rv10.same e1016, zp3, fun a5 H17 ha5 e17 => ?_⟩
      refine ev_ratm Ah R hr (by decide) ?_
      walk_at "hv s"
      refine ⟨q, (rz10.same e1016).same e17, zq3, fun a6 H18 ha6 e18 => ?_⟩
      have zh : Sz 2 (Rat.divInt 1 2) := sz_div (by decide) (by decide) (by decide)
      refine ov_ratc (fun _ _ => rfl) O.gt R hr (by decide) io_gt (.inr (ha5.same e18)) (.inr ha6) (.inr ha6) ((sz_mul zp zh).mono (by decide)) ((sz_mul zq zh).mono (by decide)) fun H19 e19 => ?_
      have c3 : ¬ (q * Rat.divInt 1 2 < p * Rat.divInt 1 2) := Rat.not_lt.mpr (Rat.mul_le_mul_of_nonneg_right hpq (by decide +kernel))
      rw [decide_eq_false c3]
      walk_at "hv s"
      exact ⟨⟨_, _, _, rfl⟩, ((((((e7b.trans e8).trans e89).trans e9).trans e1016).trans e17).trans e18).trans e19⟩
    · rintro σ H' ⟨hσ, e⟩
      exact ⟨hσ, (same_upd hM).trans e⟩
  rintro σ H7 ⟨⟨x, y, z, rfl⟩, e67⟩
  have hls7 := e67 _ _ hls
  walk_at "hv s"
  refine ev_lcL (own := [("_law_number", 11)]) 11 rfl S.nd (blkOk_by (by kernel_rfl)) (fun _ _ _ _ _ => pg_name S.nd rfl (.inl rfl)) (fun _ => rfl) ?_
  walk_at "hv s"
  refine ⟨L, ls, rfl, .of hls7, by rw [hbl.len]; omega, fun G hG => ⟨fun i ys H' => ys = List.replicate i (V.bl true) ∧ Same H7 H', ⟨rfl, same_upd hG⟩, fun i ys H' ⟨_, e⟩ => .of (e _ _ hls7), ?_, ?_⟩⟩
  · rintro i ys v H' hv hl hGy ⟨rfl, e⟩ s0 H0 C cl fp
    obtain ⟨q, hq, hvq, zq⟩ := hbl.get i v hv
    have rq : RatV K H' v q := (hvq.same e67).same e
    have b1 : q.num.natAbs < 2 ^ 1900 := (zq.mono (b := 1900) (by decide)).1
    have b2 : q.den < 2 ^ 1900 := (zq.mono (b := 1900) (by decide)).2
    have zq3 : Sz 3000 q := zq.mono (by decide)
    walk_at "hv s"
    refine ev_static cr sm Fo hr (by decide) passL ?_
    refine ev_gl rfl R.gl (v := .ref (CR K)) rfl ⟨rfl, ?_⟩
    refine av_cons ?_
    refine ev_prop R.num.sc pt Ft hr (by decide) ?_
    walk_at "hv s"
    obtain ⟨a, dx, rfl, hs⟩ := rq.slt
    refine ⟨a, dx, _, rfl, hs, _, q, rfl, rq, b1, b2, ?_⟩
    walk_at "hv s"
    refine ⟨q, rfl, b1, b2, fun u H8 hu e8 => ?_⟩
    walk_at "hv s"
    refine ov_rateq Q0 R hr (by decide) hu (rq.same e8) ?_
    rw [decide_eq_true rfl]
    walk_at "hv s"
    refine cv_ratabs Ab hr (by decide) (rq.same e8) zq3 fun v2 H9 hv2 e9 => ?_
    walk_at "hv s"
    have za : Sz 3000 (if q < 0 then -q else q) := by
      split
      · exact sz_neg zq3
      · exact zq3
    refine ov_ratc (fun _ _ => rfl) O.ge R hr (by decide) io_ge (.inr hv2) (.inr ((rq.same e8).same e9)) (.inl hv2) za zq3 fun H10 e10 => ?_
    have ca : q ≤ (if q < 0 then -q else q) := by
      split
      · grind
      · exact Rat.le_refl
    rw [decide_eq_true ca]
    refine ⟨e10 _ _ (e9 _ _ (e8 _ _ hGy)), ?_, Same.mut (((e.trans e8).trans e9).trans e10) hG⟩
    rw [List.replicate_succ']
  · rintro ys H' hly hGy ⟨rfl, e⟩
    walk_at "hv s"
    refine cv_all rfl (bs := List.replicate ls.length true) (.of (by rw [List.map_replicate]; exact hGy)) ?_
    have ea : (List.replicate ls.length true).all id = true := by simp
    rw [ea]
    have e57 : Same H5 H' := (e56.trans e67).trans e
    exact h H' (e5.trans (Same.exb e57)) ((hp5.same e57).mono (by omega))
end
end HvP
/-! k11: all together -/
namespace HvP
open PySem PySem.Spec PyProof.Rows L2 Hv HvT SlX
local macro_rules | `(tactic| walk_at "hv name") => `(tactic| first
  | refine ev_var 0 (pv 0) rfl ?_ | refine ev_var 1 (pv 1) rfl ?_ | refine ev_var 2 (pv 2) rfl ?_ | refine ev_var 3 (pv 3) rfl ?_ | refine ev_var 4 (pv 4) rfl ?_
  | refine ev_var 5 (pv 5) rfl ?_ | refine ev_var 6 (pv 6) rfl ?_ | refine ev_var 7 (pv 7) rfl ?_ | refine ev_var 8 (pv 8) rfl ?_ | refine ev_var 9 (pv 9) rfl ?_
  | refine ev_var 10 (pv 10) rfl ?_ | refine ev_var 11 (pv 11) rfl ?_ | refine ev_var 12 (pv 12) rfl ?_ | refine ev_var 13 (pv 13) rfl ?_ | refine ev_var 14 (pv 14) rfl ?_)
local macro_rules | `(tactic| walk_at "hv hp") => `(tactic| first
  | with_reducible assumption
  | with_reducible exact upd_same
  | ((with_reducible refine' upd_keep ?a ?b); (case a => with_reducible assumption); (case b => walk_at "hv hp"))
  | ((with_reducible refine' Same.get ?a ?b); (case a => with_reducible assumption); (case b => walk_at "hv hp"))
  | ((with_reducible refine' ExB.gt ?a ?b ?c); (case a => with_reducible assumption); (case b => walk_at "hv hp"); (case c => walk_at "hv ne")))
local macro_rules | `(tactic| walk_at "hv ne") => `(tactic| first
  | assumption
  | (exact ne_of_none (by assumption) (by assumption))
  | (refine ne_of (by assumption) (by assumption) ?_; (intro hx; cases hx; done)))
local macro_rules | `(tactic| walk_at "hv same") => `(tactic| first
  | with_reducible assumption
  | with_reducible exact Same.refl _
  | ((with_reducible refine' Same.nw ?a ?b); (case a => with_reducible assumption); (case b => walk_at "hv same"))
  | ((with_reducible refine' Same.tr ?a ?b); (case a => with_reducible assumption); (case b => walk_at "hv same")))
local macro_rules | `(tactic| walk_at "hv exb") => `(tactic| first
  | with_reducible assumption
  | with_reducible exact ExB.refl _ _
  | ((with_reducible refine' ExB.nw ?a ?b); (case a => with_reducible assumption); (case b => walk_at "hv exb"))
  | ((with_reducible refine' ExB.trs ?a ?b); (case a => with_reducible assumption); (case b => walk_at "hv exb"))
  | ((with_reducible refine' ExB.tr ?a ?b); (case a => with_reducible assumption); (case b => walk_at "hv exb")))
local macro_rules | `(tactic| walk_at "hv sq") => `(tactic| first
  | assumption
  | exact .inl (by assumption)
  | exact .inr (by assumption)
  | ((with_reducible refine' SqL.of ?a); (case a => walk_at "hv hp"))
  | ((with_reducible refine' SqT.of ?a); (case a => walk_at "hv hp"))
  | ((with_reducible refine' Or.inl (SqL.of ?a)); (case a => walk_at "hv hp"))
  | ((with_reducible refine' Or.inr (SqT.of ?a)); (case a => walk_at "hv hp")))
local macro_rules | `(tactic| walk_at "hv op") => `(tactic| first
  | with_reducible refine ov_add ?_ | with_reducible refine ov_sub ?_ | ((with_reducible refine ov_mul ?h ?_); (case h => first | assumption | (walk_at "hv side"))) | ((with_reducible refine ov_mod ?h ?_); (case h => first | assumption | omega | (walk_at "hv side"))) | ((with_reducible refine ov_div ?h ?_); (case h => first | assumption | (walk_at "hv side"))) | ((with_reducible refine ov_pow ?h ?_); (case h => first | assumption | (walk_at "hv side")))
  | with_reducible refine ov_lt ?_ | with_reducible refine ov_le ?_ | with_reducible refine ov_gt ?_ | with_reducible refine ov_ge ?_ | with_reducible refine ov_eq ?_ | with_reducible refine ov_ne ?_ | with_reducible refine ov_eqs ?_ | with_reducible refine ov_nes ?_
  | with_reducible refine uv_neg ?_ | with_reducible refine cv_abs ?_ | with_reducible refine cv_int ?_ | with_reducible refine cv_intb ?_ | with_reducible refine cv_boolb ?_ | ((with_reducible refine cv_max ?h ?_); (case h => rfl)) | ((with_reducible refine cv_min ?h ?_); (case h => rfl))
  | ((with_reducible refine' cv_len ?h ?_); (case h => walk_at "hv sq")) | ((with_reducible refine' iv_lst ?h ?g ?_); (case h => walk_at "hv sq"); (case g => rfl)) | ((with_reducible refine' iv_tup ?h ?g ?_); (case h => walk_at "hv sq"); (case g => rfl)))
local macro_rules | `(tactic| walk_at "hv blt") => `(tactic| first
  | refine ev_intc (by assumption) ?_ | refine ev_abs (by assumption) ?_ | refine ev_len (by assumption) ?_ | refine ev_isinst (by assumption) ?_ | refine ev_repr (by assumption) ?_ | refine ev_all (by assumption) ?_ | refine ev_any (by assumption) ?_
  | refine ev_max (by assumption) ?_ | refine ev_min (by assumption) ?_ | refine ev_boolc (by assumption) ?_ | refine ev_sorted (by assumption) ?_ | refine ev_listc (by assumption) ?_ | refine ev_strc (by assumption) ?_ | refine ev_tuplec (by assumption) ?_ | refine ev_dictc (by assumption) ?_ | refine ev_sum (by assumption) ?_)
local macro_rules | `(tactic| walk_at "hv nblt") => `(tactic| first
  | refine ev_nint (by assumption) ?_ | refine ev_nbool (by assumption) ?_ | refine ev_nstr (by assumption) ?_ | refine ev_ndict (by assumption) ?_ | refine ev_nlist (by assumption) ?_ | refine ev_ntuple (by assumption) ?_)
local macro_rules | `(tactic| walk_at "hv one") => `(tactic| first
  | with_reducible refine bv_cons ?_ | ((with_reducible refine bv_id ?_); (refine bv_cons ?_)) | with_reducible refine bv_nil ?_ | with_reducible refine sv_ret ?_ | ((with_reducible refine sv_id ?_); (walk_at "hv set")) | with_reducible refine sv_if ?_ | ((with_reducible refine sv_expr ?_ ?h); (case h => rfl)) | ((with_reducible refine sv_slot ?_ ?h); (case h => rfl)) | ((with_reducible refine sv_seti ?_ ?a ?b ?c); (case a => (intro x; rfl)); (case b => rfl); (case c => rfl))
  | ((with_reducible refine ev_nm ?_); (first | walk_at "hv name" | walk_at "hv nblt"))
  | with_reducible refine ev_int ?_ | with_reducible refine ev_op ?_ | ((with_reducible refine ev_cmp ?_ ?h); (case h => first | exact nobehind _ (by decide) (by decide) | rfl))
  | ((with_reducible refine av_cons ?_ ?h); (case h => rfl)) | with_reducible refine av_nil ?_
  | with_reducible refine ev_str ?_ | with_reducible refine ev_bl ?_ | with_reducible refine ev_non ?_ | with_reducible refine ev_un ?_ | with_reducible refine ev_one ?_ | with_reducible refine ev_and ?_ | with_reducible refine ev_or ?_ | with_reducible refine ev_if ?_
  | with_reducible refine ev_tup ?_ | with_reducible refine ev_lst ?_ | ((with_reducible refine ev_ix ?h ?_); (case h => exact fun _ _ => rfl))
  | with_reducible refine tv_and ?_ | with_reducible refine tv_or ?_ | with_reducible refine tv_not ?_ | ((with_reducible refine tv_cmp ?_ ?h); (case h => first | exact nobehind _ (by decide) (by decide) | rfl)) | with_reducible refine wv_and ?_ | with_reducible refine wv_or ?_ | with_reducible refine wv_and1 ?_ | with_reducible refine wv_or1 ?_
  | walk_at "hv op"
  | ((with_reducible refine ev_cl ?_); (walk_at "hv blt"))
  | with_reducible refine ex_bl ?_ | with_reducible refine tru_bl ?_ | walk_at "hv ite"
  | ((with_reducible refine tv_val ?_ ?h); (case h => (intro x; rfl))))
local macro_rules | `(tactic| walk_at "hv loc") => `(tactic| first | exact .inl rfl | exact .inr rfl)
local macro_rules | `(tactic| walk_at "hv set") => `(tactic| first
  | refine sv_setS 0 rfl (by assumption) (by walk_at "hv loc") ?_ | refine sv_setS 1 rfl (by assumption) (by walk_at "hv loc") ?_ | refine sv_setS 2 rfl (by assumption) (by walk_at "hv loc") ?_ | refine sv_setS 3 rfl (by assumption) (by walk_at "hv loc") ?_
  | refine sv_setS 4 rfl (by assumption) (by walk_at "hv loc") ?_ | refine sv_setS 5 rfl (by assumption) (by walk_at "hv loc") ?_ | refine sv_setS 6 rfl (by assumption) (by walk_at "hv loc") ?_ | refine sv_setS 7 rfl (by assumption) (by walk_at "hv loc") ?_
  | refine sv_setS 8 rfl (by assumption) (by walk_at "hv loc") ?_ | refine sv_setS 9 rfl (by assumption) (by walk_at "hv loc") ?_ | refine sv_setS 10 rfl (by assumption) (by walk_at "hv loc") ?_ | refine sv_setS 11 rfl (by assumption) (by walk_at "hv loc") ?_)
local macro_rules | `(tactic| walk_at "hv dec") => `(tactic| first | assumption | rfl | omega | decide | (intro hz; cases hz; done))
local macro_rules | `(tactic| walk_at "hv ite") => `(tactic| first
  | with_reducible refine iteT ?_ | with_reducible refine iteF ?_ | with_reducible refine iteNF ?_ | with_reducible refine iteNT ?_
  | ((with_reducible refine ite_dec1 ?h ?_); (case h => walk_at "hv dec")) | ((with_reducible refine ite_dec0 ?h ?_); (case h => walk_at "hv dec"))
  | ((with_reducible refine ite_decN1 ?h ?_); (case h => walk_at "hv dec")) | ((with_reducible refine ite_decN0 ?h ?_); (case h => walk_at "hv dec")))
local macro_rules | `(tactic| walk_at "hv s") => `(tactic| (repeat (walk_at "hv one")))
theorem e_add : PySem.dunder (Operator.info .Add).2 = ("__add__" : Str) := by kernel_rfl
theorem e_radd : dunderR (Operator.info .Add).2 = ("__radd__" : Str) := by kernel_rfl
theorem e_sub : PySem.dunder (Operator.info .Sub).2 = ("__sub__" : Str) := by kernel_rfl
theorem e_rsub : dunderR (Operator.info .Sub).2 = ("__rsub__" : Str) := by kernel_rfl
theorem e_mul : PySem.dunder (Operator.info .Mult).2 = ("__mul__" : Str) := by kernel_rfl
theorem e_rmul : dunderR (Operator.info .Mult).2 = ("__rmul__" : Str) := by kernel_rfl
theorem sp_ratn_congr {K : PySem.W.Frag} {g g' : Rat → Rat → Rat} (e : ∀ p q, g p q = g' p q) : sp_ratn K g = sp_ratn K g' := by
  have : g = g' := funext fun p => funext fun q => e p q
  rw [this]
section
variable {P : Program} {w : World} {K : PySem.W.Frag} {mg : Str → Option Value} {base : Heap} {fd : FuncData} {cs : List Addr}
def sp_law (K : PySem.W.Frag) : Sp := fun vs H Q _ => ∃ (a : Addr) (ns : List Int), vs = [.ref a] ∧ SqL K H a (ns.map V.int) ∧ ns.length ≤ 63 ∧ ∀ H', Q (.bl true) H'
theorem ok_law (B : Blt mg) (gp : GF P w K mg base 1 "_law_pot" (sp_lpot K)) (gr : GF P w K mg base 10 "_law_right" sp_r11) (F : FD K d_law fd) : FnG P w K mg base 12 (d_law.at_ K) (sp_law K) := by
  have S := s_law
  refine okG (dv := []) (ds := []) F S (FunD.bindsN F fun _ _ _ _ _ _ us hl => match us, hl with | [_], _ => rfl) .nil (fun vs H Q E h => ?_) (fun cdv A outer s H vs Q E hr h => ?_)
  · obtain ⟨_, _, rfl, _⟩ := h; rfl
  obtain ⟨a, ns, rfl, hs, hl, h⟩ := h
  refine ex_bv ?_
  refine bv_cons (sv_forR 1 B (passes_of rfl) rfl (pg_name S.nd rfl (.inl rfl)) ?_)
  walk_at "hv s"
  refine ⟨(max 1 (min 6 ((ns.map V.int).length : Int))).toNat, by congr 2; omega, by omega, fun i σ H' => i ≤ 6 ∧ Same H H' ∧ ∃ x y, σ = [some (.ref a), x, y, none], ⟨by omega, Same.refl _, _, _, rfl⟩, ?_, ?_⟩
  · rintro i σ H' hi ⟨hi6, e, x, y, rfl⟩
    walk_at "hv s"
    refine ev_call gp hr (by decide) rfl passL ?_
    walk_at "hv s"
    refine ⟨a, ns, i, rfl, e.seq hs, by omega, by omega, fun t H1 ht e1 hp => ?_⟩
    have et : H t = none := Same.fresh e ht
    have e01 := e.trans e1
    walk_at "hv s"
    refine ev_lcR (own := [("_law_turn", 3)]) 3 B rfl S.nd (blkOk_by (by kernel_rfl)) (fun _ _ _ _ _ => pg_name S.nd rfl (.inl rfl)) (fun _ => rfl) ?_
    walk_at "hv s"
    obtain ⟨xs1, a1⟩ := hp.at_
    refine ⟨2, rfl, by decide, fun D hD => ⟨fun i ys H2 => ys = List.replicate i (V.bl true) ∧ ExB t H1 H2 ∧ Pot H2 t (100 * i), ⟨rfl, (ExB.refl t H1).new hD, hp.same (same_upd hD)⟩, ?_, ?_⟩⟩
    · rintro m ys H2 hm hly hDy ⟨rfl, e2, hp2⟩ s0 H0 C cl fp
      have nD : t ≠ D := ne_of_none a1 hD
      refine ev_call gr hr (by decide) rfl passL ?_
      walk_at "hv s"
      refine ⟨t, _, rfl, hp2, by omega, fun H3 e3 hp3 => ⟨e3 _ _ (Ne.symm nD) hDy, ?_, ExB.mut (e2.trans e3) hD, pot_upd (hp3.mono (by omega)) nD⟩⟩
      rw [List.replicate_succ']
    · rintro ys H2 hly hDy ⟨rfl, e2, hp2⟩
      walk_at "hv s"
      refine cv_all rfl (bs := List.replicate 2 true) (.of hDy) ?_
      have ea : (List.replicate 2 true).all id = true := by simp
      rw [ea]
      refine ex_bl ?_
      try refine iteF ?_
      walk_at "hv s"
      exact ⟨by omega, exb_same e01 et e2, _, _, rfl⟩
  · rintro σ H' ⟨_, e, x, y, rfl⟩
    walk_at "hv s"
    exact h _
end
section
variable {P : Program} {w : World} {K : PySem.W.Frag} {mg : Str → Option Value} {h : Heap}
theorem law_ok (X : K.In h) (G : h.Ns mainGlobals mg) (c : Says ex fn K) (base : Heap) : FnG P w K mg base 12 (d_law.at_ K) (sp_law K) := by
  obtain ⟨c1, c2⟩ := He.ba c.more
  have B : Blt mg := blt_ok X G c1 rfl
  have R : RW K mg [CR K] := ⟨B, num_ok (allB_at c1 47 (f := .num "Ratio")), He.glo_ok X G (show (He.Fa.glo "Ratio").ok K = true from allB_at c1 46 (f := .fa (.glo "Ratio"))), slot_ok (allB_at c1 48 (f := .slot "Ratio" "above" 0)), slot_ok (allB_at c1 49 (f := .slot "Ratio" "below" 1)), He.mkr_ok (show (He.Fa.mkr "Ratio").ok K = true from allB_at c1 50 (f := .fa (.mkr "Ratio"))), csB_ok c2, List.mem_cons_self⟩
  obtain ⟨_, f1⟩ := c.def_ 0
  have gi : GF P w K mg base 1 "is_integer" (sp_is_integer K [CR K]) := gf f1 (He.glo_ok X G (show (He.Fa.glo "is_integer").ok K = true from allB_at c1 22 (f := .fa (.glo "is_integer")))) (ok_is_integer B R.csk f1)
  obtain ⟨_, f2⟩ := c.def_ 1
  have gc : GF P w K mg base 1 "common_divisor" sp_common_divisor := gf f2 (He.glo_ok X G (show (He.Fa.glo "common_divisor").ok K = true from allB_at c1 23 (f := .fa (.glo "common_divisor")))) (ok_common_divisor f2)
  obtain ⟨_, f3⟩ := c.def_ 23
  have g2 : GM P w K mg base 2 "Ratio" (sp_mk2 K) := gm_mk2 R (ok_init2 B R gi gc f3)
  have g1 : GM P w K mg base 2 "Ratio" (sp_mk1 K) := gm_mk1 R (ok_init1 B R gi gc f3)
  obtain ⟨_, f4⟩ := c.def_ 3
  have gn : GF P w K mg base 2 "is_number" (sp_is_number K [CR K]) := gf f4 (He.glo_ok X G (show (He.Fa.glo "is_number").ok K = true from allB_at c1 25 (f := .fa (.glo "is_number")))) (ok_is_number B R gi f4)
  obtain ⟨_, f5⟩ := c.def_ 4
  have gr : GF P w K mg base 4 "ratio_of" (sp_ratio_of K) := gf f5 (He.glo_ok X G (show (He.Fa.glo "ratio_of").ok K = true from allB_at c1 26 (f := .fa (.glo "ratio_of")))) (ok_ratio_of B R g1 f5)
  obtain ⟨_, f6⟩ := c.def_ 6
  have gplus : GF P w K mg base 4 "plus" (sp_rat2 K fun p q => p + q) := gf f6 (He.glo_ok X G (show (He.Fa.glo "plus").ok K = true from allB_at c1 28 (f := .fa (.glo "plus")))) (ok_plus R g2 f6)
  obtain ⟨_, f7⟩ := c.def_ 7
  have gminus : GF P w K mg base 4 "minus" (sp_rat2 K fun p q => p - q) := gf f7 (He.glo_ok X G (show (He.Fa.glo "minus").ok K = true from allB_at c1 29 (f := .fa (.glo "minus")))) (ok_minus R g2 f7)
  obtain ⟨_, f8⟩ := c.def_ 8
  have gtimes : GF P w K mg base 4 "times" (sp_rat2 K fun p q => p * q) := gf f8 (He.glo_ok X G (show (He.Fa.glo "times").ok K = true from allB_at c1 30 (f := .fa (.glo "times")))) (ok_times R g2 f8)
  obtain ⟨_, f9⟩ := c.def_ 5
  have gs : GF P w K mg base 5 "spacing" (sp_spacing K) := gf f9 (He.glo_ok X G (show (He.Fa.glo "spacing").ok K = true from allB_at c1 27 (f := .fa (.glo "spacing")))) (ok_spacing R gr f9)
  obtain ⟨_, m1⟩ := c.def_ 37
  obtain ⟨_, m2⟩ := c.def_ 38
  obtain ⟨_, m3⟩ := c.def_ 39
  obtain ⟨_, m4⟩ := c.def_ 40
  obtain ⟨_, m5⟩ := c.def_ 41
  obtain ⟨_, m6⟩ := c.def_ 42
  obtain ⟨_, m7⟩ := c.def_ 31
  obtain ⟨_, m8⟩ := c.def_ 32
  obtain ⟨_, m9⟩ := c.def_ 33
  obtain ⟨_, m10⟩ := c.def_ 34
  obtain ⟨_, m11⟩ := c.def_ 35
  obtain ⟨_, m12⟩ := c.def_ 36
  obtain ⟨_, m13⟩ := c.def_ 28
  obtain ⟨_, m14⟩ := c.def_ 24
  obtain ⟨_, m15⟩ := c.def_ 25
  have n1 := He.meth_ok (K := K) (show (He.Fa.meth "Ratio" "__add__").ok K = true from allB_at c1 64 (f := .fa (.meth "Ratio" "__add__")))
  have n2 := He.meth_ok (K := K) (show (He.Fa.meth "Ratio" "__radd__").ok K = true from allB_at c1 65 (f := .fa (.meth "Ratio" "__radd__")))
  have n3 := He.meth_ok (K := K) (show (He.Fa.meth "Ratio" "__sub__").ok K = true from allB_at c1 66 (f := .fa (.meth "Ratio" "__sub__")))
  have n4 := He.meth_ok (K := K) (show (He.Fa.meth "Ratio" "__rsub__").ok K = true from allB_at c1 67 (f := .fa (.meth "Ratio" "__rsub__")))
  have n5 := He.meth_ok (K := K) (show (He.Fa.meth "Ratio" "__mul__").ok K = true from allB_at c1 68 (f := .fa (.meth "Ratio" "__mul__")))
  have n6 := He.meth_ok (K := K) (show (He.Fa.meth "Ratio" "__rmul__").ok K = true from allB_at c1 69 (f := .fa (.meth "Ratio" "__rmul__")))
  have n7 := He.meth_ok (K := K) (show (He.Fa.meth "Ratio" "__lt__").ok K = true from allB_at c1 58 (f := .fa (.meth "Ratio" "__lt__")))
  have n8 := He.meth_ok (K := K) (show (He.Fa.meth "Ratio" "__le__").ok K = true from allB_at c1 59 (f := .fa (.meth "Ratio" "__le__")))
  have n9 := He.meth_ok (K := K) (show (He.Fa.meth "Ratio" "__gt__").ok K = true from allB_at c1 60 (f := .fa (.meth "Ratio" "__gt__")))
  have n10 := He.meth_ok (K := K) (show (He.Fa.meth "Ratio" "__ge__").ok K = true from allB_at c1 61 (f := .fa (.meth "Ratio" "__ge__")))
  have n11 := He.meth_ok (K := K) (show (He.Fa.meth "Ratio" "__neg__").ok K = true from allB_at c1 62 (f := .fa (.meth "Ratio" "__neg__")))
  have n12 := He.meth_ok (K := K) (show (He.Fa.meth "Ratio" "__abs__").ok K = true from allB_at c1 63 (f := .fa (.meth "Ratio" "__abs__")))
  have n13 := He.meth_ok (K := K) (show (He.Fa.meth "Ratio" "halved").ok K = true from allB_at c1 55 (f := .fa (.meth "Ratio" "halved")))
  have O : ROps P w K mg base := by
    refine ⟨⟨_, _, e_add ▸ n1, e_radd ▸ n2, ok_Ratio___add__ R gn gr gplus m1, ?_⟩, ⟨_, _, e_sub ▸ n3, e_rsub ▸ n4, ok_Ratio___sub__ R gn gr gminus m3, ok_Ratio___rsub__ R gn gr gminus m4⟩, ⟨_, _, e_mul ▸ n5, e_rmul ▸ n6, ok_Ratio___mul__ R gn gr gtimes m5, ?_⟩,
      ⟨_, _, n7, n9, ok_Ratio___lt__ R gn gs m7, ok_Ratio___gt__ R gn gs m9⟩, ⟨_, _, n8, n10, ok_Ratio___le__ R gn gs m8, ok_Ratio___ge__ R gn gs m10⟩, ⟨_, _, n9, n7, ok_Ratio___gt__ R gn gs m9, ok_Ratio___lt__ R gn gs m7⟩, ⟨_, _, n10, n8, ok_Ratio___ge__ R gn gs m10, ok_Ratio___le__ R gn gs m8⟩⟩
    · rw [sp_ratn_congr (g' := fun p q => p + q) fun p q => Rat.add_comm q p]
      exact ok_Ratio___radd__ R gn gr gplus m2
    · rw [sp_ratn_congr (g' := fun p q => p * q) fun p q => Rat.mul_comm q p]
      exact ok_Ratio___rmul__ R gn gr gtimes m6
  obtain ⟨_, l1⟩ := c.def_ 9
  have gpot : GF P w K mg base 1 "_law_pot" (sp_lpot K) := gf l1 (He.glo_ok X G (show (He.Fa.glo "_law_pot").ok K = true from allB_at c1 31 (f := .fa (.glo "_law_pot")))) (ok_lpot B l1)
  obtain ⟨_, l2⟩ := c.def_ 10
  have gtake : GF P w K mg base 1 "_law_take" sp_take := gf l2 (He.glo_ok X G (show (He.Fa.glo "_law_take").ok K = true from allB_at c1 32 (f := .fa (.glo "_law_take")))) (ok_take B l2)
  obtain ⟨_, l3⟩ := c.def_ 11
  have gof : GF P w K mg base 2 "_law_of" (sp_of K) := gf l3 (He.glo_ok X G (show (He.Fa.glo "_law_of").ok K = true from allB_at c1 33 (f := .fa (.glo "_law_of")))) (ok_of B gtake l3)
  obtain ⟨_, l4⟩ := c.def_ 12
  have gfrac : GF P w K mg base 1 "_law_frac" sp_frac := gf l4 (He.glo_ok X G (show (He.Fa.glo "_law_frac").ok K = true from allB_at c1 34 (f := .fa (.glo "_law_frac")))) (ok_frac B l4)
  obtain ⟨_, l5⟩ := c.def_ 13
  have glp : GF P w K mg base 2 "_law_plus" (sp_pair2 fun p q => p + q) := gf l5 (He.glo_ok X G (show (He.Fa.glo "_law_plus").ok K = true from allB_at c1 35 (f := .fa (.glo "_law_plus")))) (ok_lplus gfrac l5)
  obtain ⟨_, l7⟩ := c.def_ 14
  have glr : GF P w K mg base 4 "_law_ratio" (sp_lratio K) := gf l7 (He.glo_ok X G (show (He.Fa.glo "_law_ratio").ok K = true from allB_at c1 36 (f := .fa (.glo "_law_ratio")))) (ok_lratio g2 l7)
  obtain ⟨_, l8⟩ := c.def_ 15
  have gdr : GF P w K mg base 3 "_law_drawn_pair" sp_drawn := gf l8 (He.glo_ok X G (show (He.Fa.glo "_law_drawn_pair").ok K = true from allB_at c1 37 (f := .fa (.glo "_law_drawn_pair")))) (ok_drawn gtake gof gfrac l8)
  obtain ⟨_, l9⟩ := c.def_ 16
  have gis : GF P w K mg base 3 "_law_is_ratio" (sp_lisr K) := gf l9 (He.glo_ok X G (show (He.Fa.glo "_law_is_ratio").ok K = true from allB_at c1 38 (f := .fa (.glo "_law_is_ratio")))) (ok_lisr R ⟨_, _, prop_ok (allB_at c1 51 (f := .prop "Ratio" "number")), ok_Ratio_number R m14⟩ ⟨_, _, prop_ok (allB_at c1 52 (f := .prop "Ratio" "under")), ok_Ratio_under R m15⟩ l9)
  obtain ⟨_, l10⟩ := c.def_ 17
  have gbf : GF P w K mg base 1 "_law_is_before" sp_before := gf l10 (He.glo_ok X G (show (He.Fa.glo "_law_is_before").ok K = true from allB_at c1 39 (f := .fa (.glo "_law_is_before")))) (ok_before l10)
  obtain ⟨_, l11⟩ := c.def_ 18
  have gla : GF P w K mg base 3 "_law_laid" sp_laid := gf l11 (He.glo_ok X G (show (He.Fa.glo "_law_laid").ok K = true from allB_at c1 40 (f := .fa (.glo "_law_laid")))) (ok_laid B gbf l11)
  obtain ⟨_, l12⟩ := c.def_ 19
  have gtl : GF P w K mg base 8 "_law_told_laid" (sp_told K) := gf l12 (He.glo_ok X G (show (He.Fa.glo "_law_told_laid").ok K = true from allB_at c1 41 (f := .fa (.glo "_law_told_laid")))) (ok_told R O.ge l12)
  obtain ⟨_, t1⟩ := c.def_ 2
  have gfi : GF P w K mg base 1 "is_figures" sp_is_figures := gf t1 (He.glo_ok X G (show (He.Fa.glo "is_figures").ok K = true from allB_at c1 24 (f := .fa (.glo "is_figures")))) (ok_is_figures B (He.str_ok X G (show (He.Fa.str "DIGITS" "0123456789").ok K = true from allB_at c1 44 (f := .fa (.str "DIGITS" "0123456789")))) t1)
  obtain ⟨_, t2⟩ := c.def_ 26
  have Ft := ok_Ratio_text (P := P) (w := w) (base := base) R t2
  obtain ⟨_, t3⟩ := c.def_ 27
  have pt := prop_ok (allB_at c1 53 (f := .prop "Ratio" "text"))
  obtain ⟨cr, sm⟩ := stat_ok (allB_at c1 54 (f := .stat "Ratio" "of"))
  have Fo := ok_of_text (P := P) (w := w) (base := base) R (He.int_ok X G (show (He.Fa.int "MOST_SIGNS" 1802).ok K = true from allB_at c1 45 (f := .fa (.int "MOST_SIGNS" 1802)))) gfi g2 pt Ft t3
  obtain ⟨_, t4⟩ := c.def_ 30
  have n14 := He.meth_ok (K := K) (show (He.Fa.meth "Ratio" "__eq__").ok K = true from allB_at c1 57 (f := .fa (.meth "Ratio" "__eq__")))
  obtain ⟨_, l13⟩ := c.def_ 20
  have grt : GF P w K mg base 10 "_law_right" sp_r11 := gf l13 (He.glo_ok X G (show (He.Fa.glo "_law_right").ok K = true from allB_at c1 42 (f := .fa (.glo "_law_right")))) (ok_r11 R O gdr gof glp glr gtl gla gis g2 g1 ⟨_, n14, ok_Ratio___eq__ R t4⟩ ⟨_, n13, ok_Ratio_halved R g2 m13⟩ ⟨_, n12, ok_Ratio___abs__ R g2 m12⟩ pt Ft cr sm Fo l13)
  obtain ⟨_, l14⟩ := c.def_ 21
  exact ok_law B gpot grt l14
end
end HvP
open PySem PySem.W PySem.Calls PyProof.Rows
theorem PySem.Challenge.cw_hoverrest_k11_whole_ratios_in_sequence_holds : PySem.Challenge.rw_hoverrest_k11_whole_ratios_in_sequence.Holds := by
  w_on; o_law
  refine HandSHeadRun.head_any (r := OpenLaw.row PySem.Challenge.rw_hoverrest_k11_whole_ratios_in_sequence) (q := view (OpenLaw.row PySem.Challenge.rw_hoverrest_k11_whole_ratios_in_sequence).prog [30]) (H := HvT.hk) (ob := HvT.ob) (M := 4000) (loose := HvT.loose) (d := HandSHeadRun.topDef (OpenLaw.row PySem.Challenge.rw_hoverrest_k11_whole_ratios_in_sequence).prog 30) (kwd := []) HvT.ob_eq
    (by kernel_rfl) (fun s => by kernel_rfl) HvT.run (by kernel_rfl) (by kernel_rfl) (by kernel_rfl) (by rfl) (by first | assumption | decide +kernel) (by decide +kernel) ⟨rfl, rfl, rfl, rfl, rfl, by decide +kernel⟩ ?hw ?hc
  case hw => w_witness2
  case hc =>
    refine Hv.walk_end (l := PySem.Challenge.rw_hoverrest_k11_whole_ratios_in_sequence) (n := 63) (k := 12) rfl (by decide) (by kernel_rfl) ⟨rfl, by decide, by decide⟩ ?_
    intro w mg fa h Y G hmg0
    obtain ⟨K, KX, c⟩ := Y
    have hmg : mg ("law" : PySem.Str) = some (.ref fa) := by
      have e : (HandSHeadRun.topDef (OpenLaw.row PySem.Challenge.rw_hoverrest_k11_whole_ratios_in_sequence).prog 30).name = ("law" : PySem.Str) := by kernel_rfl
      rw [← e]
      exact hmg0
    have hfa : fa = HvT.d_law.at_ K := by
      have z := hmg.symm.trans (He.glo_ok KX G (x := "law") (show (He.Fa.glo "law").ok K = true from Hv.allB_at (He.ba c.more).1 43 (f := .fa (.glo "law"))))
      exact Value.ref.inj (Option.some.inj z)
    subst hfa
    exact ⟨K, HvP.sp_law K, KX, fun H a ns hl hS => ⟨a, ns, rfl, hS, hl, fun _ => rfl⟩, fun base _ _ => HvP.law_ok KX G c base⟩
