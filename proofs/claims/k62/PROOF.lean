import PyProof.Rows.All
import Wide.All
import OpenK.AllK
import Wide.FinOn
import KE.KStateDown
import HandS.ForMost
import HandS.ForExc
import HandS.Defaults
import HandS.MakeKwOnly
import HandS.IsInst
import HandS.Wide
import HandS.WideBits
import HandS.WideMore
import HandS.Flow
import HandS.Style
import HandS.SortInts
import HandS.Conv
import HandS.Deep
import HandS.Head0
import HandS.Head1
import HandS.Head2
import HandS.HeadEnd
import HandS.EndBits
import HandS.HeadHook1
import HandS.HeadHook2
import HandS.ExcIs
import HandS.TryMany
import HandS.Finally
import HandS.Nested
import HandS.EndTab
import HandS.ClsMeth
import HandS.More
import HandS.TupSets
import HandS.Small
import PySem.Challenge.RW_oncebuilt_k62_even_sums_bounds
set_option Elab.async false
set_option linter.all false
set_option maxRecDepth 100000
set_option maxHeartbeats 4000000
namespace G
open PySem PySem.Spec PyProof.Rows L2
/-! ### contracts that know of the repr guards (gd) -/
structure RoomG (gd : Bool) (k : Nat) (A : Around) : Prop where
  r : Room k A
  gs : gd = true → A.guards = some []
theorem RoomG.mono {gd : Bool} {j k : Nat} {A : Around} (x : RoomG gd k A) (h : j ≤ k) : RoomG gd j A := ⟨x.r.mono h, x.gs⟩
theorem RoomG.deeper {gd : Bool} {k : Nat} {A : Around} (x : RoomG gd (k + 1) A) (env : Env) : RoomG gd k (A.deeper env) := ⟨x.r.deeper env, x.gs⟩
theorem RoomG.make {gd : Bool} {k : Nat} {A : Around} (x : RoomG gd (k + 1) A) (C : Addr) (us : List Value) (kw : List (Str × Value)) : RoomG gd k (A.under (.builtin "type.__call__" ⟨.ref C :: us, kw⟩)) :=
  ⟨x.r.make C us kw, fun h => by
    have e : (Code.builtin "type.__call__" ⟨.ref C :: us, kw⟩).guards = [] := by
      have q : (guardIds.contains "type.__call__") = false := by decide
      show (if (guardIds.contains "type.__call__") = true then _ else _) = _
      rw [q]
      rfl
    unfold Around.under
    simp only [e]
    exact x.gs h⟩
theorem RoomG.units {gd : Bool} {k : Nat} {A : Around} (x : RoomG gd k A) : A.units + 64 < cLine := x.r.units
theorem RoomG.units0 {gd : Bool} {k : Nat} {A : Around} (x : RoomG gd k A) : A.units < cLine := x.r.units0
theorem huG {gd : Bool} {A : Around} {k : Nat} (hr : RoomG gd k A) : A.units + 1 < cLine := hu_of hr.r
/-- a def that keeps sp -/
structure FnG (P : Program) (w : World) (K : PySem.W.Frag) (mg : Str → Option Value) (base : Heap) (gd : Bool) (k : Nat) (f : Addr) (fd : FuncData) (ps : List Str) (sp : Sp) : Prop where
  len : ∀ vs H Q E, sp vs H Q E → vs.length = ps.length
  run : ∀ (A : Around) (outer : List Env) (s : Shared) (H : Hp) (args : Args) (us : List Value) (vs : List V) (Q : VK) (E : XK), RoomG gd k A → Env0 P w K mg base A outer s H → BindsTo s fd args (ps.zip us) → Vals vs us → sp vs H Q E →
    codeAny (model P w) A (.call (.ref f) args) (CR (L2.CX P w) outer P w H s Q E) s
section
variable {P : Program} {w : World} {K : PySem.W.Frag} {mg : Str → Option Value} {base : Heap} {gd : Bool} {k j : Nat} {f : Addr} {fd : FuncData} {ps : List Str} {sp : Sp}
theorem FnG.mono (F : FnG P w K mg base gd j f fd ps sp) (h : j ≤ k) : FnG P w K mg base gd k f fd ps sp := ⟨F.len, fun A outer s H args us vs Q E hr => F.run A outer s H args us vs Q E (hr.mono h)⟩
theorem FnG.to (F : FnG P w K mg base false k f fd ps sp) : FnOk P w K mg base (L2.CX P w) k f fd ps sp := ⟨F.len, fun A outer s H args us vs Q E hr => F.run A outer s H args us vs Q E ⟨hr, fun z => nomatch z⟩⟩
/-- THE RULE for a def -/
theorem okG {x qual : Str} {params : Arguments} {body : List Stmt} {scope : Scope} {dvs : List V} {kws : List (Str × V)} {N : List Str} (F : FunD K x qual params body scope dvs kws f fd) (S : FnScope N ps scope) (len : ∀ vs H Q E, sp vs H Q E → vs.length = ps.length)
    (hbody : ∀ (cdv : Value) (A : Around) (outer : List Env) (s : Shared) (H : Hp) (vs : List V) (Q : VK) (E : XK), RoomG gd k (A.deeper (envOfC qual scope s.heap.objs.size f cdv)) → sp vs H Q E →
      ∃ t, PSs (cxOf (L2.CX P w) P w K mg base N qual scope f cdv A outer s H E) body t ∧ t { nx := fun _ H' => Q .non H', rt := Q } (start N vs) H) : FnG P w K mg base gd (k + 1) f fd ps sp := by
  obtain ⟨oc, od, dV, kV, doc, pm, an, cdv, ct, osl, rfl, lk, hcd, _, _⟩ := F.ex
  exact ⟨len, fun A outer s H args us vs Q E hr e0 hb r hsp => LamX.run_ofS lk hcd S hr.r e0 hb r (len _ _ _ _ hsp) fun hr' => hbody cdv A outer s H vs Q E (hr.deeper _) hsp⟩
end
section
variable {X : Cx} {gd : Bool} {k n : Nat} {f C : Addr} {fd : FuncData} {ps ks : List Str} {sp : Sp} {dvs : List V} {ds : List Value} {E : XK} {x m : Str} {p pos apos : Pos} {e o : Expr} {es : List Expr} {kws : List Keyword} {ta : TE} {t tk : TA} {g : List Value → List Value → List Value} {gV : List V → List V → List V}
theorem run_fnG {pins : List (Addr × Obj)} {σ : L2.St} {H : Hp} {s : Shared} {Q : VK} {us : List Value} {vs : List V} (F : FnG X.prog X.w X.K X.mg X.base gd k f fd ps sp) (hr : RoomG gd k X.A) (hb : Binds X.K fd ps ds) (hd : Vals dvs ds) (hx : Passes (L2.CX X.prog X.w) X E)
    (I : Inv X pins σ H s) (r : Vals vs us) (h : sp (vs ++ dvs) H Q E) : wpAny (model X.prog X.w) X.A (call (.ref f) us) (EP X pins σ Q) X.xe s := by
  have r2 : Vals (vs ++ dvs) (us ++ ds) := r.append hd
  have hl : (us ++ ds).length = ps.length := by rw [← r2.length]; exact F.len _ _ _ _ h
  refine wpAny_call (codeAny_mono (F.run X.A X.stack s H ⟨us, []⟩ (us ++ ds) (vs ++ dvs) Q E hr I.env0 (hb s us I.kIn hl) r2 h) fun r s' hq => ?_)
  match r, hq with
  | .error e, hq => exact hx pins σ H s e s' I hq
  | .ok (.ret u), hq => exact I.after hq
theorem run_fnNG {pins : List (Addr × Obj)} {σ : L2.St} {H : Hp} {s : Shared} {Q : VK} {us ws : List Value} {vs zs : List V} (F : FnG X.prog X.w X.K X.mg X.base gd k f fd ps sp) (hr : RoomG gd k X.A) (hb : KBn X.K fd ps n ks g gV) (hx : Passes (L2.CX X.prog X.w) X E)
    (I : Inv X pins σ H s) (r : Vals vs us) (rz : Vals zs ws) (l1 : vs.length = n) (l2 : zs.length = ks.length) (h : sp (gV vs zs) H Q E) : wpAny (model X.prog X.w) X.A (call (.ref f) us (ks.zip ws)) (EP X pins σ Q) X.xe s := by
  refine wpAny_call (codeAny_mono (F.run X.A X.stack s H ⟨us, ks.zip ws⟩ (g us ws) (gV vs zs) Q E hr I.env0 (hb.to s us ws I.kIn (r.length.symm.trans l1) (rz.length.symm.trans l2)) (hb.rel r rz) h) fun r s' hq => ?_)
  match r, hq with
  | .error e, hq => exact hx pins σ H s e s' I hq
  | .ok (.ret u), hq => exact I.after hq
theorem pe_callG (F : FnG X.prog X.w X.K X.mg X.base gd k f fd ps sp) (hr : RoomG gd k X.A) (hg : Gl X x) (hm : X.mg x = some (.ref f)) (hk : PySem.W.keepIn X.K (.ref f) = true) (hb : Binds X.K fd ps ds) (hd : Vals dvs ds) (hx : Passes (L2.CX X.prog X.w) X E)
    (ha : PA X (e :: es) t) (hdb : (x == ("__debug__" : Str)) = false := by decide) (he : starEach (e :: es) X.env = (false, eval e X.env) :: starEach es X.env := by rfl) (hpl : (backTo pos (starEach es X.env)).any (·.1) = false := by rfl) :
    PE X (.Call (.Name x p) (e :: es) [] pos) (tCall sp dvs E t) := by
  refine ⟨fun pins s σ H Q I h => wpAny_Call_Name_kw (ld_glob I hg hm ?_ hdb)⟩
  exact PySem.W.callWith_K (h₀ := X.base) I.ok.mod.kin hk (thn (ha.run pos pins s σ H _ I h) fun us s1 ⟨vs, H1, I1, r, q⟩ => ⟨I1.kIn, run_fnG F hr hb hd hx I1 r q⟩) he hpl
theorem pe_call0G (F : FnG X.prog X.w X.K X.mg X.base gd k f fd ps sp) (hr : RoomG gd k X.A) (hg : Gl X x) (hm : X.mg x = some (.ref f)) (hk : PySem.W.keepIn X.K (.ref f) = true) (hb : Binds X.K fd ps ds) (hd : Vals dvs ds) (hx : Passes (L2.CX X.prog X.w) X E)
    (hdb : (x == ("__debug__" : Str)) = false := by decide) : PE X (.Call (.Name x p) [] [] pos) (tCall sp dvs E tNil) :=
  ⟨fun pins s σ H Q I h => wpAny_Call_Name_kw (ld_glob I hg hm (PySem.W.callWith_K0 I.kIn hk (run_fnG (us := []) F hr hb hd hx I .nil h)) hdb)⟩
theorem pe_callNG (F : FnG X.prog X.w X.K X.mg X.base gd k f fd ps sp) (hr : RoomG gd k X.A) (hg : Gl X x) (hm : X.mg x = some (.ref f)) (hk : PySem.W.keepIn X.K (.ref f) = true) (hb : KBn X.K fd ps n ks g gV) (hx : Passes (L2.CX X.prog X.w) X E)
    (ha : PA X (e :: es) t) (hkw : PK X kws tk) (hall : (backToKw pos (keywordEach kws X.env)).all (·.1.isSome) = true := by rfl) (hks : (backToKw pos (keywordEach kws X.env)).filterMap (·.1) = ks := by rfl)
    (hdb : (x == ("__debug__" : Str)) = false := by decide) (he : starEach (e :: es) X.env = (false, eval e X.env) :: starEach es X.env := by rfl)
    (hpl : ((backTo pos (starEach (e :: es) X.env)).any (·.1) || (backToKw pos (keywordEach kws X.env)).any (·.1.isNone)) = false := by rfl) :
    PE X (.Call (.Name x p) (e :: es) kws pos) (tCallN n ks.length sp gV E t tk) := by
  refine ⟨fun pins s σ H Q I h => wpAny_Call_Name_kw (ld_glob I hg hm ?_ hdb)⟩
  refine PySem.W.callWith_KW (h₀ := X.base) I.ok.mod.kin hk hall (thn (ha.run pos pins s σ H _ I h) fun us s1 ⟨vs, H1, I1, r, q⟩ => ?_) hpl he
  refine thn (hkw.run pos pins s1 σ H1 _ I1 q) fun ws s2 ⟨zs, H2, I2, rz, l1, l2, q2⟩ => ⟨I2.kIn, ?_⟩
  rw [hks]
  exact run_fnNG F hr hb hx I2 r rz l1 l2 q2
theorem pe_methG {pl : Sem Bool} (he : PE X o ta) (c : Cls X.K C) (hm : Meth X.K C m f) (F : FnG X.prog X.w X.K X.mg X.base gd k f fd ps sp) (hr : RoomG gd k X.A) (hb : Binds X.K fd ps ds) (hd : Vals dvs ds) (hx : Passes (L2.CX X.prog X.w) X E) (ha : PA X (e :: es) t)
    (hst : starEach (e :: es) X.env = (false, eval e X.env) :: starEach es X.env := by rfl) (hpl : (backTo pos (starEach es X.env)).any (·.1) = false := by rfl)
    (ht : eval (.Call (.Attribute o m apos) (e :: es) [] pos) X.env = (do
      let ov ← eval o X.env
      standAt apos.atName
      let (f, first) ← holding [ov] (getMethod ov m pl)
      callWith pos f first (backTo pos (starEach (e :: es) X.env)) (backToKw pos (keywordEach [] X.env))) := by rfl) :
    PE X (.Call (.Attribute o m apos) (e :: es) [] pos) (tMeth C m sp dvs E ta t) := by
  refine ⟨fun pins s σ H Q I h => PySem.W.methodCall_KW (pl := pl) (thn (he.run pins s σ H _ I h) fun u s1 ⟨x, H1, I1, rx, a, dx, fs, ex, ea, l, q⟩ => ?_) ht⟩
  subst ex
  obtain rfl : u = Value.ref a := rx
  exact getmeth_ok I1 ea c hm l (PySem.W.callWith_K (first := [.ref a]) (h₀ := X.base) I.ok.mod.kin hm.kp (thn (ha.run pos pins s1 σ H1 _ I1 q) fun us s2 ⟨vs, H2, I2, r, q2⟩ => ⟨I2.kIn, run_fnG (us := .ref a :: us) (vs := .ref a :: vs) F hr hb hd hx I2 (.cons rfl r) q2⟩) hst hpl)
theorem pe_meth0G {pl : Sem Bool} (he : PE X o ta) (c : Cls X.K C) (hm : Meth X.K C m f) (F : FnG X.prog X.w X.K X.mg X.base gd k f fd ps sp) (hr : RoomG gd k X.A) (hb : Binds X.K fd ps ds) (hd : Vals dvs ds) (hx : Passes (L2.CX X.prog X.w) X E)
    (ht : eval (.Call (.Attribute o m apos) [] [] pos) X.env = (do
      let ov ← eval o X.env
      standAt apos.atName
      let (f, first) ← holding [ov] (getMethod ov m pl)
      callWith pos f first (backTo pos (starEach [] X.env)) (backToKw pos (keywordEach [] X.env))) := by rfl) :
    PE X (.Call (.Attribute o m apos) [] [] pos) (tMeth C m sp dvs E ta tNil) := by
  refine ⟨fun pins s σ H Q I h => PySem.W.methodCall_KW (pl := pl) (thn (he.run pins s σ H _ I h) fun u s1 ⟨x, H1, I1, rx, a, dx, fs, ex, ea, l, q⟩ => ?_) ht⟩
  subst ex
  obtain rfl : u = Value.ref a := rx
  exact getmeth_ok I1 ea c hm l (PySem.W.callWith_K0 (first := [.ref a]) I1.kIn hm.kp (run_fnG (us := [.ref a]) (vs := [.ref a]) F hr hb hd hx I1 (.cons rfl .nil) q))
theorem run_makeG {pins : List (Addr × Obj)} {σ : L2.St} {H : Hp} {s : Shared} {Q : VK} {us : List Value} {vs : List V} (M : Mk X.K C f) (F : FnG X.prog X.w X.K X.mg X.base gd k f fd ps sp) (hr : RoomG gd (k + 1) X.A) (hb : Binds X.K fd ps ds) (hd : Vals dvs ds)
    (hx : Passes (L2.CX X.prog X.w) X E) (I : Inv X pins σ H s) (r : Vals vs us)
    (h : ∀ x dx, H x = none → H dx = none → dx ≠ x → sp (.ref x :: (vs ++ dvs)) (upd (upd H dx (.own x)) x (.ins C dx [])) (fun v H2 => v = .non ∧ Q (.ref x) H2) E) :
    wpAny (model X.prog X.w) X.A (call (.ref C) us) (EP X pins σ Q) X.xe s := by
  have hq := h (s.heap.objs.size + 1) s.heap.objs.size (I.hok.fresh (Nat.le_succ _)) (I.hok.fresh (Nat.le_refl _)) (Nat.ne_of_lt (Nat.lt_succ_self _))
  have I2 := Inv.made (C := C) I
  have r2 : Vals (V.ref (s.heap.objs.size + 1) :: (vs ++ dvs)) (Value.ref (s.heap.objs.size + 1) :: (us ++ ds)) := .cons rfl (r.append hd)
  have hl : (Value.ref (s.heap.objs.size + 1) :: us ++ ds).length = ps.length := (r2.length.symm.trans (F.len _ _ _ _ hq))
  refine wpAny_call (make_map (f := f) I.kIn M.makes M.init (beq_iff_eq.mp M.fn) (codeAny_mono (F.run _ X.stack _ _ ⟨Value.ref (s.heap.objs.size + 1) :: us, []⟩ (Value.ref (s.heap.objs.size + 1) :: (us ++ ds)) _ _ E (hr.make C us [])
    (I2.env0.make C us []) (hb _ (Value.ref (s.heap.objs.size + 1) :: us) I2.kIn hl) r2 hq) fun r s' hq' => ?_))
  match r, hq' with
  | .error e, hq' => exact hx pins σ _ _ e s' I2 hq'
  | .ok (.ret u), hq' =>
    obtain ⟨v, H', I3, rv, ev, q3⟩ := I2.after hq'
    subst ev
    exact ⟨rv, ⟨V.ref (s.heap.objs.size + 1), H', I3, rfl, q3⟩⟩
theorem pe_makeG (M : Mk X.K C f) (F : FnG X.prog X.w X.K X.mg X.base gd k f fd ps sp) (hr : RoomG gd (k + 1) X.A) (hg : Gl X x) (hm : X.mg x = some (.ref C)) (hb : Binds X.K fd ps ds) (hd : Vals dvs ds) (hx : Passes (L2.CX X.prog X.w) X E)
    (ha : PA X (e :: es) t) (hdb : (x == ("__debug__" : Str)) = false := by decide) (he : starEach (e :: es) X.env = (false, eval e X.env) :: starEach es X.env := by rfl) (hpl : (backTo pos (starEach es X.env)).any (·.1) = false := by rfl) :
    PE X (.Call (.Name x p) (e :: es) [] pos) (tMake C sp dvs E t) :=
  ⟨fun pins s σ H Q I h => wpAny_Call_Name_kw (ld_glob I hg hm (PySem.W.callWith_K (h₀ := X.base) I.ok.mod.kin M.kp (thn (ha.run pos pins s σ H _ I h) fun us s1 ⟨vs, H1, I1, r, q⟩ => ⟨I1.kIn, run_makeG M F hr hb hd hx I1 r q⟩) he hpl) hdb)⟩
theorem pe_make0G (M : Mk X.K C f) (F : FnG X.prog X.w X.K X.mg X.base gd k f fd ps sp) (hr : RoomG gd (k + 1) X.A) (hg : Gl X x) (hm : X.mg x = some (.ref C)) (hb : Binds X.K fd ps ds) (hd : Vals dvs ds) (hx : Passes (L2.CX X.prog X.w) X E)
    (hdb : (x == ("__debug__" : Str)) = false := by decide) : PE X (.Call (.Name x p) [] [] pos) (tMake C sp dvs E tNil) :=
  ⟨fun pins s σ H Q I h => wpAny_Call_Name_kw (ld_glob I hg hm (PySem.W.callWith_K0 I.kIn M.kp (run_makeG (us := []) M F hr hb hd hx I .nil h)) hdb)⟩
end
/-! ### defs by name -/
/-- the module's name x is a def with the parameters ps that keeps sp; the last parameters have the values dvs by default -/
def Df (P : Program) (w : World) (K : PySem.W.Frag) (mg : Str → Option Value) (base : Heap) (gd : Bool) (k : Nat) (x : Str) (ps : List Str) (dvs : List V) (sp : Sp) : Prop :=
  ∃ (f : Addr) (fd : FuncData) (ds : List Value), mg x = some (.ref f) ∧ PySem.W.keepIn K (.ref f) = true ∧ Vals dvs ds ∧ Binds K fd ps ds ∧ FnG P w K mg base gd k f fd ps sp
/-- .. called with n positional arguments and the keywords ks -/
def DfK (P : Program) (w : World) (K : PySem.W.Frag) (mg : Str → Option Value) (base : Heap) (gd : Bool) (k : Nat) (x : Str) (ps : List Str) (n : Nat) (ks : List Str) (gV : List V → List V → List V) (sp : Sp) : Prop :=
  ∃ (f : Addr) (fd : FuncData) (g : List Value → List Value → List Value), mg x = some (.ref f) ∧ PySem.W.keepIn K (.ref f) = true ∧ KBn K fd ps n ks g gV ∧ FnG P w K mg base gd k f fd ps sp
section
variable {X : Cx} {gd : Bool} {j k n : Nat} {ps ks : List Str} {sp : Sp} {dvs : List V} {E : XK} {x m : Str} {p pos apos : Pos} {e o : Expr} {es : List Expr} {kws : List Keyword} {ta : TE} {t tk : TA} {gV : List V → List V → List V}
theorem pe_callD (D : Df X.prog X.w X.K X.mg X.base gd k x ps dvs sp) (hr : RoomG gd j X.A) (hg : Gl X x) (hx : Passes (L2.CX X.prog X.w) X E) (ha : PA X (e :: es) t) (hk : k ≤ j := by decide)
    (hdb : (x == ("__debug__" : Str)) = false := by decide) (he : starEach (e :: es) X.env = (false, eval e X.env) :: starEach es X.env := by rfl) (hpl : (backTo pos (starEach es X.env)).any (·.1) = false := by rfl) :
    PE X (.Call (.Name x p) (e :: es) [] pos) (tCall sp dvs E t) := by
  obtain ⟨f, fd, ds, h1, h2, h3, h4, h5⟩ := D
  exact pe_callG h5 (hr.mono hk) hg h1 h2 h4 h3 hx ha hdb he hpl
theorem pe_call0D (D : Df X.prog X.w X.K X.mg X.base gd k x ps dvs sp) (hr : RoomG gd j X.A) (hg : Gl X x) (hx : Passes (L2.CX X.prog X.w) X E) (hk : k ≤ j := by decide)
    (hdb : (x == ("__debug__" : Str)) = false := by decide) : PE X (.Call (.Name x p) [] [] pos) (tCall sp dvs E tNil) := by
  obtain ⟨f, fd, ds, h1, h2, h3, h4, h5⟩ := D
  exact pe_call0G h5 (hr.mono hk) hg h1 h2 h4 h3 hx hdb
theorem pe_callKD (D : DfK X.prog X.w X.K X.mg X.base gd k x ps n ks gV sp) (hr : RoomG gd j X.A) (hg : Gl X x) (hx : Passes (L2.CX X.prog X.w) X E) (ha : PA X (e :: es) t) (hkw : PK X kws tk) (hk : k ≤ j := by decide)
    (hall : (backToKw pos (keywordEach kws X.env)).all (·.1.isSome) = true := by rfl) (hks : (backToKw pos (keywordEach kws X.env)).filterMap (·.1) = ks := by rfl)
    (hdb : (x == ("__debug__" : Str)) = false := by decide) (he : starEach (e :: es) X.env = (false, eval e X.env) :: starEach es X.env := by rfl)
    (hpl : ((backTo pos (starEach (e :: es) X.env)).any (·.1) || (backToKw pos (keywordEach kws X.env)).any (·.1.isNone)) = false := by rfl) :
    PE X (.Call (.Name x p) (e :: es) kws pos) (tCallN n ks.length sp gV E t tk) := by
  obtain ⟨f, fd, g, h1, h2, h4, h5⟩ := D
  exact pe_callNG h5 (hr.mono hk) hg h1 h2 h4 hx ha hkw hall hks hdb he hpl
/-- f(k = v, ..) -/
theorem pe_callK0D (D : DfK X.prog X.w X.K X.mg X.base gd k x ps 0 ks gV sp) (hr : RoomG gd j X.A) (hg : Gl X x) (hx : Passes (L2.CX X.prog X.w) X E) (hkw : PK X kws tk) (hk : k ≤ j := by decide)
    (hall : (backToKw pos (keywordEach kws X.env)).all (·.1.isSome) = true := by rfl) (hks : (backToKw pos (keywordEach kws X.env)).filterMap (·.1) = ks := by rfl)
    (hdb : (x == ("__debug__" : Str)) = false := by decide)
    (hpl : ((backTo pos (starEach [] X.env)).any (·.1) || (backToKw pos (keywordEach kws X.env)).any (·.1.isNone)) = false := by rfl) :
    PE X (.Call (.Name x p) [] kws pos) (tCallN 0 ks.length sp gV E tNil tk) := by
  obtain ⟨f, fd, g, h1, h2, h4, h5⟩ := D
  refine ⟨fun pins s σ H Q I h => ?_⟩
  refine wpAny_Call_Name_kw (ld_glob I hg h1 ?_ hdb)
  refine PySem.W.callWith_KW0 (h₀ := X.base) I.ok.mod.kin h2 hall ?_ hpl
  refine thn (hkw.run pos pins s σ H _ I h) fun ws s2 ⟨zs, H2, I2, rz, l1, l2, q2⟩ => ⟨I2.kIn, ?_⟩
  rw [hks]
  exact run_fnNG (us := []) (vs := []) h5 (hr.mono hk) h4 hx I2 .nil rz rfl l2 q2
end
section
variable {P : Program} {w : World} {K : PySem.W.Frag} {mg : Str → Option Value} {base : Heap} {gd : Bool} {k : Nat} {x : Str} {ps : List Str} {sp : Sp} {st : Stmt} {f : Addr} {fd : FuncData}
abbrev FnP (K : PySem.W.Frag) (x qual : Str) (st : Stmt) (dvs : List V) (f : Addr) (fd : FuncData) : Prop := FunD K x qual (defArgs st) (defBody st) (defScope st) dvs [] f fd
theorem Df.of {qual : Str} {kws : List (Str × V)} (F : FunD K x qual (defArgs st) (defBody st) (defScope st) [] kws f fd) (hm : mg x = some (.ref f)) (ok : FnG P w K mg base gd k f fd ps sp)
    (h : ∀ (kV doc pm : Value) (an : Option Addr) (cdv ct : Value) (us : List Value), us.length = ps.length → bindArgs (PySem.W.fnOf x qual (defArgs st) (defBody st) (defScope st) .none kV doc pm an cdv ct) ⟨us, []⟩ = pure (ps.zip us)) :
    Df P w K mg base gd k x ps [] sp := ⟨f, fd, [], hm, F.kp, .nil, F.bindsN h, ok⟩
end
/-! ### what leaves a def -/
section
variable {CX : CXT} {P : Program} {w : World} {K : PySem.W.Frag} {mg : Str → Option Value} {base : Heap} {N : List Str} {qual : Str} {scope : Scope} {f : Addr} {cd : Value} {A : Around} {outer : List Env} {s : Shared} {H : Hp} {E : XK}
theorem takeE : Takes (cxOf (L2.CX P w) P w K mg base N qual scope f cd A outer s H E) (fun cls d _ H' => E cls d H') := takes_of rfl rfl rfl rfl
theorem passE : Passes (L2.CX P w) (cxOf (L2.CX P w) P w K mg base N qual scope f cd A outer s H E) E := passes_call takeE fun _ _ _ _ h => h
end
/-! ### readings, cut -/
theorem seq_cut {t u : TS} {D : Ends} {σ : L2.St} {H : Hp} (J : L2.St → Hp → Prop) (h1 : ∀ N : L2.St → Hp → Prop, (∀ σ' H', J σ' H' → N σ' H') → t { D with nx := N } σ H) (h2 : ∀ σ' H', J σ' H' → u D σ' H') : tSeq t u D σ H := h1 (u D) h2
theorem if_cut {c : TT} {t u : TS} {D : Ends} {σ : L2.St} {H : Hp} (R : Bool → Hp → Prop) (h1 : ∀ Q : Bool → Hp → Prop, (∀ b H', R b H' → Q b H') → c σ H Q) (h2 : ∀ H', R true H' → t D σ H') (h3 : ∀ H', R false H' → u D σ H') : tIfS c t u D σ H :=
  h1 _ fun b H' r => by
    cases b with
    | true => exact iteT (h2 H' r)
    | false => exact iteF (h3 H' r)
theorem seq_cut2 {s1 t u : TS} {D : Ends} {σ : L2.St} {H : Hp} (J : L2.St → Hp → Prop) (h1 : ∀ N : L2.St → Hp → Prop, (∀ σ' H', J σ' H' → N σ' H') → s1 { D with nx := t { D with nx := N } } σ H) (h2 : ∀ σ' H', J σ' H' → u D σ' H') : tSeq s1 (tSeq t u) D σ H := h1 (u D) h2
/-! ### loops and comprehensions -/
/-- what walks over n things that stand still -/
structure ItP (J : It) (n : Nat) (item : Nat → V) (OK : Hp → Prop) : Prop where
  go : ∀ i H, OK H → i < n → J.go i H
  yld : ∀ i H x H', OK H → i < n → J.yld i H x H' → x = item i ∧ H' = H
  stop : ∀ H, OK H → J.stop n H
theorem itp_r (lo : Int) (n : Nat) : ItP (Itr lo n) n (fun i => .int (lo + i)) (fun _ => True) := ⟨fun _ _ _ h => h, fun _ _ _ _ _ _ y => ⟨y.2, y.1⟩, fun _ _ => Nat.le_refl _⟩
theorem itp_c (lo c : Int) (n : Nat) : ItP (Itc lo c n) n (fun i => .int (lo + (i : Nat) * c)) (fun _ => True) := ⟨fun _ _ _ h => h, fun _ _ _ _ _ _ y => ⟨y.2, y.1⟩, fun _ _ => Nat.le_refl _⟩
theorem itp_l (K : PySem.W.Frag) (a : Addr) (xs : List V) : ItP (Itl K a) xs.length (fun i => xs.getD i .non) (fun H => SqL K H a xs) where
  go := fun i H q h => ⟨xs, xs[i], q, List.getElem?_eq_getElem h⟩
  yld := fun i H x H' q h y => ⟨by
    have e := y.2 xs q
    rw [List.getD_eq_getElem?_getD, e]
    rfl, y.1⟩
  stop := fun H q => ⟨xs, q, Nat.le_refl _⟩
theorem itp_t (K : PySem.W.Frag) (a : Addr) (xs : List V) : ItP (Itt K a) xs.length (fun i => xs.getD i .non) (fun H => SqT K H a xs) where
  go := fun i H q h => ⟨xs, xs[i], q, List.getElem?_eq_getElem h⟩
  yld := fun i H x H' q h y => ⟨by
    have e := y.2 xs q
    rw [List.getD_eq_getElem?_getD, e]
    rfl, y.1⟩
  stop := fun H q => ⟨xs, q, Nat.le_refl _⟩
theorem itp_v (K : PySem.W.Frag) (a : Addr) (xs : List V) : ItP (Itv K a xs.length) xs.length (fun i => xs.getD (xs.length - 1 - i) .non) (fun H => SqL K H a xs) where
  go := fun i H q h => ⟨h, xs, xs[xs.length - 1 - i], q, List.getElem?_eq_getElem (by omega)⟩
  yld := fun i H x H' q h y => ⟨by
    have e := y.2 xs q
    rw [List.getD_eq_getElem?_getD, e]
    rfl, y.1⟩
  stop := fun H q => Nat.le_refl _
def tForB (J : It) (g : TG) (tb : TS) (D : Ends) (σ : L2.St) (H1 : Hp) : Prop := ∃ W : Nat → Nat → L2.St → Hp → Prop, (∃ m, W 0 m σ H1) ∧ ∀ i m σ H, W i m σ H →
  (J.stop i H ∧ D.nx σ H) ∨ (J.go i H ∧ ∃ N : L2.St → Hp → Prop, (∀ σ' H', N σ' H' → ∃ m', m' < m ∧ W (i + 1) m' σ' H') ∧ ∀ x H', J.yld i H x H' → g x σ H' fun σ2 H2 => tb { D with nx := N, ct := N, bk := D.nx } σ2 H2)
theorem tFor_eq (wi : TI) (g : TG) (tb : TS) (D : Ends) (σ : L2.St) (H : Hp) : tFor wi g tb D σ H = wi σ H fun J H1 => tForB J g tb D σ H1 := rfl
theorem forB {J : It} {n : Nat} {item : Nat → V} {OK : Hp → Prop} {g : TG} {tb : TS} {D : Ends} {σ : L2.St} {H : Hp} (I : ItP J n item OK) (Pv : Nat → L2.St → Hp → Prop) (h0 : Pv 0 σ H) (hok : ∀ i σ H, i ≤ n → Pv i σ H → OK H)
    (hs : ∀ (i : Nat) (σ : L2.St) (H : Hp) (N : L2.St → Hp → Prop), i < n → Pv i σ H → (∀ σ' H', Pv (i + 1) σ' H' → N σ' H') → g (item i) σ H fun σ2 H2 => tb { D with nx := N, ct := N, bk := D.nx } σ2 H2) (hd : ∀ σ H, Pv n σ H → D.nx σ H) :
    tForB J g tb D σ H := by
  refine ⟨fun i m σ H => m = n - i ∧ i ≤ n ∧ Pv i σ H, ⟨n, by simp, Nat.zero_le _, h0⟩, ?_⟩
  rintro i m σ H ⟨rfl, hi, p⟩
  by_cases hlt : i < n
  · refine .inr ⟨I.go i H (hok i σ H hi p) hlt, Pv (i + 1), fun σ' H' p' => ⟨n - (i + 1), by omega, rfl, hlt, p'⟩, fun x H' y => ?_⟩
    obtain ⟨ex, eH⟩ := I.yld i H x H' (hok i σ H hi p) hlt y
    subst ex eH
    exact hs i σ _ _ hlt p fun _ _ z => z
  · have e : i = n := by omega
    subst e
    exact .inl ⟨I.stop H (hok i σ H hi p), hd σ H p⟩
def tLcB (J : It) (g : TG) (tt : TT) (te : TE) (vs : List Nat) (σ : L2.St) (H1 : Hp) (Q : VK) : Prop := ∀ D, H1 D = none → ∃ W : Nat → Nat → Hp → Prop, (∃ m, W 0 m (upd H1 D (.lst []))) ∧ ∀ i m H, W i m H →
  (J.stop i H ∧ Q (.ref D) H) ∨ (J.go i H ∧ ∃ Nx : Hp → Prop, (∀ H', Nx H' → ∃ m', m' < m ∧ W (i + 1) m' H') ∧ ∀ x H', J.yld i H x H' → g x (wipe σ vs) H' fun σ2 H2 => wipe σ2 vs = wipe σ vs ∧ tt σ2 H2 fun b H3 =>
    if b = true then te σ2 H3 fun y H4 => ∃ acc, H4 D = some (.lst acc) ∧ acc.length < sizeLine ∧ Nx (upd H4 D (.lst (acc ++ [y]))) else Nx H3)
theorem tLc_eq (wi : TI) (g : TG) (tt : TT) (te : TE) (vs : List Nat) (σ : L2.St) (H : Hp) (Q : VK) : tLc wi g tt te vs σ H Q = wi σ H fun J H1 => tLcB J g tt te vs σ H1 Q := rfl
/-- a comprehension: Pv i H: the heap before turn i -/
theorem lcI {J : It} {n : Nat} {item : Nat → V} {OK : Hp → Prop} {g : TG} {tt : TT} {te : TE} {vs : List Nat} {σ : L2.St} {H1 : Hp} {Q : VK} (I : ItP J n item OK) (Pv : Addr → Nat → Hp → Prop) (h0 : ∀ D, H1 D = none → Pv D 0 (upd H1 D (.lst []))) (hok : ∀ D i H, H1 D = none → i ≤ n → Pv D i H → OK H)
    (hs : ∀ (D : Addr) (i : Nat) (H : Hp) (C : Hp → Prop), H1 D = none → i < n → Pv D i H → (∀ H', Pv D (i + 1) H' → C H') → g (item i) (wipe σ vs) H fun σ2 H2 => wipe σ2 vs = wipe σ vs ∧ tt σ2 H2 fun b H3 =>
      if b = true then te σ2 H3 fun y H4 => ∃ acc, H4 D = some (.lst acc) ∧ acc.length < sizeLine ∧ C (upd H4 D (.lst (acc ++ [y]))) else C H3) (hd : ∀ D H, H1 D = none → Pv D n H → Q (.ref D) H) : tLcB J g tt te vs σ H1 Q := by
  intro D hD
  refine ⟨fun i m H => m = n - i ∧ i ≤ n ∧ Pv D i H, ⟨n, by simp, Nat.zero_le _, h0 D hD⟩, ?_⟩
  rintro i m H ⟨rfl, hi, p⟩
  by_cases hlt : i < n
  · refine .inr ⟨I.go i H (hok D i H hD hi p) hlt, Pv D (i + 1), fun H' p' => ⟨n - (i + 1), by omega, rfl, hlt, p'⟩, fun x H' y => ?_⟩
    obtain ⟨ex, eH⟩ := I.yld i H x H' (hok D i H hD hi p) hlt y
    subst ex eH
    exact hs D i _ _ hD hlt p fun _ z => z
  · have e : i = n := by omega
    subst e
    exact .inl ⟨I.stop H (hok D i H hD hi p), hd D H hD p⟩
/-- a comprehension that changes nothing: f i is what the i-th turn gives -/
theorem lcB {J : It} {n : Nat} {item : Nat → V} {OK : Hp → Prop} {g : TG} {tt : TT} {te : TE} {vs : List Nat} {σ : L2.St} {H1 : Hp} {Q : VK} (I : ItP J n item OK) (f : Nat → Option V) (hok : ∀ D acc, H1 D = none → OK (upd H1 D (.lst acc)))
    (hs : ∀ (i : Nat) (D : Addr) (acc : List V) (C : Hp → Prop), i < n → H1 D = none → acc.length ≤ i → ((f i = none → C (upd H1 D (.lst acc))) ∧ ∀ y, f i = some y → C (upd H1 D (.lst (acc ++ [y])))) →
      g (item i) (wipe σ vs) (upd H1 D (.lst acc)) fun σ2 H2 => wipe σ2 vs = wipe σ vs ∧ tt σ2 H2 fun b H3 =>
        if b = true then te σ2 H3 fun y H4 => ∃ acc, H4 D = some (.lst acc) ∧ acc.length < sizeLine ∧ C (upd H4 D (.lst (acc ++ [y]))) else C H3)
    (hd : ∀ D, H1 D = none → Q (.ref D) (upd H1 D (.lst ((List.range n).filterMap f)))) : tLcB J g tt te vs σ H1 Q := by
  refine lcI I (fun D i H => H = upd H1 D (.lst ((List.range i).filterMap f))) (fun D _ => rfl) (fun D i H hD _ e => by rw [e]; exact hok D _ hD) (fun D i H C hD hi e hC => ?_) fun D H hD e => by rw [e]; exact hd D hD
  subst e
  refine hs i D _ C hi hD (Nat.le_trans (List.length_filterMap_le _ _) (by simp)) ⟨fun e => hC _ ?_, fun y e => hC _ ?_⟩
  · rw [List.range_succ, List.filterMap_append]
    simp [e]
  · rw [List.range_succ, List.filterMap_append]
    simp [e]
theorem filterMap_get {α : Type} (l : List α) (f : α → V) : (List.range l.length).filterMap (fun j => (l[j]?).map f) = l.map f := by
  have e : ∀ n, n ≤ l.length → (List.range n).filterMap (fun j => (l[j]?).map f) = (l.take n).map f := by
    intro n
    induction n with
    | zero => intro _; rfl
    | succ n ih =>
      intro h
      rw [List.range_succ, List.filterMap_append, ih (by omega), List.take_succ, List.getElem?_eq_getElem (by omega), List.map_append]
      simp [List.getElem?_eq_getElem (show n < l.length by omega)]
  rw [e _ (Nat.le_refl _), List.take_length]
theorem lcE {H1 : Hp} {D : Addr} {acc : List V} {C : Hp → Prop} {o : Option V} {y : V} (hC : (o = none → C (upd H1 D (.lst acc))) ∧ ∀ y, o = some y → C (upd H1 D (.lst (acc ++ [y])))) (e : o = some y) (hl : acc.length < sizeLine) :
    ∃ acc', (upd H1 D (.lst acc)) D = some (.lst acc') ∧ acc'.length < sizeLine ∧ C (upd (upd H1 D (.lst acc)) D (.lst (acc' ++ [y]))) := ⟨acc, upd_same, hl, by rw [upd_upd]; exact hC.2 y e⟩
def whBody (Pv : L2.St → Hp → Prop) (μ : L2.St → Hp → Nat) (m : Nat) (tb : TS) (D : Ends) (σ : L2.St) (H1 : Hp) : Prop :=
  ∃ N : L2.St → Hp → Prop, (∀ σ' H', N σ' H' → ∃ m', m' < m ∧ m' = μ σ' H' ∧ Pv σ' H') ∧ tb { D with nx := N, ct := N, bk := D.nx } σ H1
theorem whileB {c : TT} {tb : TS} {D : Ends} {σ : L2.St} {H : Hp} (Pv : L2.St → Hp → Prop) (μ : L2.St → Hp → Nat) (h0 : Pv σ H)
    (hs : ∀ σ H, Pv σ H → c σ H fun b H1 => if b = true then whBody Pv μ (μ σ H) tb D σ H1 else D.nx σ H1) : tWhile c tb D σ H := by
  refine ⟨fun m σ H => m = μ σ H ∧ Pv σ H, ⟨_, rfl, h0⟩, ?_⟩
  rintro m σ H ⟨rfl, p⟩
  exact hs σ H p
theorem whI {Pv : L2.St → Hp → Prop} {μ : L2.St → Hp → Nat} {m : Nat} {tb : TS} {D : Ends} {σ : L2.St} {H1 : Hp}
    (h : ∀ N : L2.St → Hp → Prop, (∀ σ' H', Pv σ' H' → μ σ' H' < m → N σ' H') → tb { D with nx := N, ct := N, bk := D.nx } σ H1) : whBody Pv μ m tb D σ H1 :=
  ⟨fun σ' H' => Pv σ' H' ∧ μ σ' H' < m, fun _ _ ⟨p, l⟩ => ⟨_, l, rfl, p⟩, h _ fun _ _ p l => ⟨p, l⟩⟩
theorem isi {K : PySem.W.Frag} {H : Hp} {x : V} {t T : String} {b : Bool} {Q : VK} (ty : TyX K H x (.type t)) (h : kitB t T = some b) (q : Q (.bl b) H) : rIsi K [x, .ty T] H Q := ⟨x, .ty T, .type t, .type T, b, rfl, .ty T, ty, kit_ty h, q⟩
theorem dp_ints {K : PySem.W.Frag} {H : Hp} : ∀ ns : List Int, DpAll K H (ns.map V.int) (ns.map PyData.int)
  | [] => .nil
  | n :: r => .cons (.int n) (dp_ints r)
theorem eqD_same {K : PySem.W.Frag} {H : Hp} {x y : V} {d : PyData} {Q : VK} (hx : Dp K H x d) (hy : Dp K H y d) (hs : SeqAt.shaped d = true) (q : Q (.bl true) H) : rEqD K x y H Q := by
  refine ⟨d, d, hx, hy, hs, hs, ?_⟩
  rw [SeqAt.eqv_refl d (Bool.and_eq_true_iff.mp hs).1]
  exact q
theorem neD_same {K : PySem.W.Frag} {H : Hp} {x y : V} {d : PyData} {Q : VK} (hx : Dp K H x d) (hy : Dp K H y d) (hs : SeqAt.shaped d = true) (q : Q (.bl false) H) : rNeD K x y H Q := by
  refine ⟨d, d, hx, hy, hs, hs, ?_⟩
  rw [SeqAt.eqv_refl d (Bool.and_eq_true_iff.mp hs).1]
  exact q
theorem tyL {K : PySem.W.Frag} {H : Hp} {p : Addr} {xs : List V} (h : H p = some (.lst xs)) : tyV K "list" (.ref p) H := Or.inl ⟨rfl, _, SqL.of h⟩
theorem last_get {α : Type} (xs : List α) (v : α) : (xs ++ [v])[(xs ++ [v]).length - 1]? = some v := by simp
theorem whileC {c : TT} {tb : TS} {D : Ends} {σ : L2.St} {H : Hp} (Pv : L2.St → Hp → Prop) (μ : L2.St → Hp → Nat) (h0 : Pv σ H)
    (hs : ∀ σ H, Pv σ H → ∀ B : L2.St → Hp → Prop, (∀ σ1 H1, (∀ N : L2.St → Hp → Prop, (∀ σ' H', Pv σ' H' → μ σ' H' < μ σ H → N σ' H') → tb { D with nx := N, ct := N, bk := D.nx } σ1 H1) → B σ1 H1) →
      c σ H fun b H1 => if b = true then B σ H1 else D.nx σ H1) : tWhile c tb D σ H :=
  whileB Pv μ h0 fun σ H p => hs σ H p (fun σ1 H1 => whBody Pv μ (μ σ H) tb D σ1 H1) fun _ _ h => whI h
theorem len_of {K : PySem.W.Frag} {H : Hp} {a : Addr} {xs : List V} (h : SqL K H a xs) : LenV K (.ref a) H xs.length := .inl ⟨xs, h, rfl⟩
theorem lenT_of {K : PySem.W.Frag} {H : Hp} {a : Addr} {xs : List V} (h : SqT K H a xs) : LenV K (.ref a) H xs.length := .inr ⟨xs, h, rfl⟩
theorem Same.upd {H : Hp} {p : Addr} {o : HO} (h : H p = none) : Same H (upd H p o) := fun b o' e => by rw [upd_ne (ne_of_none e h)]; exact e
theorem atI_of {α : Type} {xs : List α} {i : Int} {v : α} (h0 : 0 ≤ i) (h : xs[i.toNat]? = some v) : atI xs i = some v := by
  have e := atI_nat h
  rwa [Int.toNat_of_nonneg h0] at e
/-! ### the head's facts -/
abbrev Fx : Type := PySem.W.Frag → Bool
def obsX (fa : List Fx) (fn : List He.DefD) (K : PySem.W.Frag) : He.AlD := ((fa.all fun f => f K) && fn.all fun d => d.ok K, fn.map fun d => He.fnW K d.at_)
def SaysX (fa : List Fx) (fn : List He.DefD) (K : PySem.W.Frag) : Prop := obsX fa fn K = He.valD fn
def obsXG (n : Nat) (fa : List Fx) (fn : List He.DefD) (g : Addr → Option Obj) : He.AlD := obsX fa fn (He.frG g (He.asD g n))
def hookX (n : Nat) (fa : List Fx) (fn : List He.DefD) : PySem.W.Hook where
  α := He.AlD
  obs := fun s => obsXG n fa fn s.heap.get?
  val := fun _ => He.valD fn
  says := fun _ h => ∃ K : PySem.W.Frag, K.In h ∧ SaysX fa fn K
  of := fun _ _ e => ⟨_, He.frG_in, e⟩
  keeps := fun _ _ _ ⟨K, hK, c⟩ k => ⟨K, PySem.W.Frag.In.keeps hK k, c⟩
theorem obsXG_eq {n : Nat} {fa : List Fx} {fn : List He.DefD} {g : Addr → Option Obj} {s : Shared} (h : ∀ a, g a = s.heap.get? a) : obsXG n fa fn g = (hookX n fa fn).obs s := by
  have e : g = s.heap.get? := funext h
  rw [e] <;> rfl
section
variable {fa : List Fx} {fn : List He.DefD} {K : PySem.W.Frag}
theorem SaysX.fact (c : SaysX fa fn K) (i : Nat) {f : Fx} (h : fa[i]? = some f := by rfl) : f K = true := by
  have c1 := (He.ba (show ((fa.all fun f => f K) && fn.all fun d => d.ok K) = true from congrArg (fun z : He.AlD => z.1) c)).1
  exact List.all_eq_true.mp c1 f (List.mem_of_getElem? h)
theorem SaysX.def_ (c : SaysX fa fn K) (i : Nat) {d : He.DefD} (h : fn[i]? = some d := by rfl) : ∃ fd, FunD K d.name d.qual d.params d.body d.scope (d.dvs K) (d.kws K) (He.fAd K d.at_) fd := by
  have c2 := (He.ba (show ((fa.all fun f => f K) && fn.all fun d => d.ok K) = true from congrArg (fun z : He.AlD => z.1) c)).2
  have e : fn.map (fun d => He.fnW K d.at_) = fn.map He.DefD.val := congrArg (fun z : He.AlD => z.2) c
  have e2 : (fn.map fun d => He.fnW K d.at_)[i]? = (fn.map He.DefD.val)[i]? := by rw [e]
  rw [List.getElem?_map, List.getElem?_map, h] at e2
  exact He.DefD.funD (Option.some.inj e2) (List.all_eq_true.mp c2 d (List.mem_of_getElem? h))
end
def fGlo (x : Str) : Fx := fun K => (He.Fa.glo x).ok K
def fFree (x : Str) : Fx := fun K => (He.Fa.free x).ok K
def fInt (x : Str) (i : Int) : Fx := fun K => (He.Fa.int x i).ok K
def fCls (x : Str) : Fx := fun K => (He.Fa.cls x).ok K
def fNoat (x f : Str) : Fx := fun K => (He.Fa.noat x f).ok K
def fMeth (x f : Str) : Fx := fun K => (He.Fa.meth x f).ok K
def fMkr (x : Str) : Fx := fun K => (He.Fa.mkr x).ok K
def fExc (x : Str) : Fx := fun K => (He.Fa.exc x).ok K
def fExm (x y : Str) (b : Bool) : Fx := fun K => (He.Fa.exm x y b).ok K
/-- keyword calls of a def without defaults -/
theorem DfK.of {P : Program} {w : World} {K : PySem.W.Frag} {mg : Str → Option Value} {base : Heap} {k n : Nat} {x : Str} {ps ks : List Str} {sp : Sp} {st : Stmt} {f : Addr} {fd : FuncData} {qual : Str} {kws : List (Str × V)}
    (F : FunD K x qual (defArgs st) (defBody st) (defScope st) [] kws f fd) (hm : mg x = some (.ref f)) (ok : FnG P w K mg base gd k f fd ps sp) (g : {α : Type} → List α → List α → List α)
    (hrel : ∀ {vs zs : List V} {us ws : List Value}, Vals vs us → Vals zs ws → Vals (g vs zs) (g us ws))
    (h : ∀ (kV doc pm : Value) (an : Option Addr) (cdv ct : Value) (us ws : List Value), us.length = n → ws.length = ks.length → bindArgs (PySem.W.fnOf x qual (defArgs st) (defBody st) (defScope st) .none kV doc pm an cdv ct) ⟨us, ks.zip ws⟩ = pure (ps.zip (g us ws))) :
    DfK P w K mg base gd k x ps n ks (fun vs zs => g vs zs) sp := by
  obtain ⟨oc, od, dV, kV, doc, pm, an, cdv, ct, osl, rfl, lk, hcd, hD, hK⟩ := F.ex
  rcases hD with ⟨_, rfl⟩ | ⟨e, _⟩
  · exact ⟨f, _, fun us ws => g us ws, hm, F.kp, ⟨fun s us ws _ l1 l2 => .of_eq (h kV doc pm an cdv ct us ws l1 l2), fun r1 r2 => hrel r1 r2⟩, ok⟩
  · exact absurd rfl e
/-- positional calls of a def with defaults: n values are written, the defaults behind the first j fill up -/
theorem Df.ofD {P : Program} {w : World} {K : PySem.W.Frag} {mg : Str → Option Value} {base : Heap} {gd : Bool} {k : Nat} {x : Str} {ps : List Str} {sp : Sp} {st : Stmt} {f : Addr} {fd : FuncData} {qual : Str} {kws : List (Str × V)} {dvs : List V}
    (F : FunD K x qual (defArgs st) (defBody st) (defScope st) dvs kws f fd) (hm : mg x = some (.ref f)) (ok : FnG P w K mg base gd k f fd ps sp) (n j : Nat) (hd : dvs ≠ []) (hn : n + (dvs.length - j) = ps.length)
    (h : ∀ (T : Addr) (kV doc pm : Value) (an : Option Addr) (cdv ct : Value) (us its : List Value), us.length = n → its.length = dvs.length →
      ∃ k, bindArgs (PySem.W.fnOf x qual (defArgs st) (defBody st) (defScope st) (.ref T) kV doc pm an cdv ct) ⟨us, []⟩ = seqItems? (.ref T) >>= k ∧ k (some its.toArray) = pure (ps.zip (us ++ its.drop j))) :
    Df P w K mg base gd k x ps (dvs.drop j) sp := by
  obtain ⟨ds, h1, h2⟩ := F.binds1 n j hd hn h
  exact ⟨f, fd, ds, hm, F.kp, h1, h2, ok⟩
/-! ### methods and makers by name -/
def Dm (P : Program) (w : World) (K : PySem.W.Frag) (mg : Str → Option Value) (base : Heap) (gd : Bool) (k : Nat) (C : Addr) (m : Str) (ps : List Str) (dvs : List V) (sp : Sp) : Prop :=
  ∃ (f : Addr) (fd : FuncData) (ds : List Value), Cls K C ∧ Meth K C m f ∧ Vals dvs ds ∧ Binds K fd ps ds ∧ FnG P w K mg base gd k f fd ps sp
def DmK (P : Program) (w : World) (K : PySem.W.Frag) (mg : Str → Option Value) (base : Heap) (gd : Bool) (k : Nat) (C : Addr) (m : Str) (ps : List Str) (n : Nat) (ks : List Str) (gV : List V → List V → List V) (sp : Sp) : Prop :=
  ∃ (f : Addr) (fd : FuncData) (g : List Value → List Value → List Value), Cls K C ∧ Meth K C m f ∧ KBn K fd ps (n + 1) ks g gV ∧ FnG P w K mg base gd k f fd ps sp
def Dn (P : Program) (w : World) (K : PySem.W.Frag) (mg : Str → Option Value) (base : Heap) (gd : Bool) (k : Nat) (C : Addr) (x : Str) (ps : List Str) (dvs : List V) (sp : Sp) : Prop :=
  ∃ (f : Addr) (fd : FuncData) (ds : List Value), mg x = some (.ref C) ∧ Mk K C f ∧ Vals dvs ds ∧ Binds K fd ps ds ∧ FnG P w K mg base gd k f fd ps sp
def tMethK (C : Addr) (m : Str) (n nk : Nat) (sp : Sp) (gV : List V → List V → List V) (E : XK) (ta : TE) (t tk : TA) : TE := fun σ H Q => ta σ H fun x H1 => ∃ a dx fs, x = .ref a ∧ H1 a = some (.ins C dx fs) ∧ fs.lookup m = none ∧
  t σ H1 fun vs H2 => tk σ H2 fun zs H3 => vs.length = n ∧ zs.length = nk ∧ sp (gV (x :: vs) zs) H3 Q E
section
variable {X : Cx} {gd : Bool} {j k n : Nat} {C : Addr} {ps ks : List Str} {sp : Sp} {dvs : List V} {E : XK} {x m : Str} {p pos apos : Pos} {e o : Expr} {es : List Expr} {kws : List Keyword} {ta : TE} {t tk : TA} {gV : List V → List V → List V}
theorem pe_methD {pl : Sem Bool} (he : PE X o ta) (D : Dm X.prog X.w X.K X.mg X.base gd k C m ps dvs sp) (hr : RoomG gd j X.A) (hx : Passes (L2.CX X.prog X.w) X E) (ha : PA X (e :: es) t) (hk : k ≤ j := by decide)
    (hst : starEach (e :: es) X.env = (false, eval e X.env) :: starEach es X.env := by rfl) (hpl : (backTo pos (starEach es X.env)).any (·.1) = false := by rfl)
    (ht : eval (.Call (.Attribute o m apos) (e :: es) [] pos) X.env = (do
      let ov ← eval o X.env
      standAt apos.atName
      let (f, first) ← holding [ov] (getMethod ov m pl)
      callWith pos f first (backTo pos (starEach (e :: es) X.env)) (backToKw pos (keywordEach [] X.env))) := by rfl) :
    PE X (.Call (.Attribute o m apos) (e :: es) [] pos) (tMeth C m sp dvs E ta t) := by
  obtain ⟨f, fd, ds, h1, h2, h3, h4, h5⟩ := D
  exact pe_methG he h1 h2 h5 (hr.mono hk) h4 h3 hx ha hst hpl ht
theorem pe_meth0D {pl : Sem Bool} (he : PE X o ta) (D : Dm X.prog X.w X.K X.mg X.base gd k C m ps dvs sp) (hr : RoomG gd j X.A) (hx : Passes (L2.CX X.prog X.w) X E) (hk : k ≤ j := by decide)
    (ht : eval (.Call (.Attribute o m apos) [] [] pos) X.env = (do
      let ov ← eval o X.env
      standAt apos.atName
      let (f, first) ← holding [ov] (getMethod ov m pl)
      callWith pos f first (backTo pos (starEach [] X.env)) (backToKw pos (keywordEach [] X.env))) := by rfl) :
    PE X (.Call (.Attribute o m apos) [] [] pos) (tMeth C m sp dvs E ta tNil) := by
  obtain ⟨f, fd, ds, h1, h2, h3, h4, h5⟩ := D
  exact pe_meth0G he h1 h2 h5 (hr.mono hk) h4 h3 hx ht
/-- o.m(k = v, ..) -/
theorem pe_methK0D {pl : Sem Bool} (he : PE X o ta) (D : DmK X.prog X.w X.K X.mg X.base gd k C m ps 0 ks gV sp) (hr : RoomG gd j X.A) (hx : Passes (L2.CX X.prog X.w) X E) (hkw : PK X kws tk) (hk : k ≤ j := by decide)
    (hall : (backToKw pos (keywordEach kws X.env)).all (·.1.isSome) = true := by rfl) (hks : (backToKw pos (keywordEach kws X.env)).filterMap (·.1) = ks := by rfl)
    (hpl : ((backTo pos (starEach [] X.env)).any (·.1) || (backToKw pos (keywordEach kws X.env)).any (·.1.isNone)) = false := by rfl)
    (ht : eval (.Call (.Attribute o m apos) [] kws pos) X.env = (do
      let ov ← eval o X.env
      standAt apos.atName
      let (f, first) ← holding [ov] (getMethod ov m pl)
      callWith pos f first (backTo pos (starEach [] X.env)) (backToKw pos (keywordEach kws X.env))) := by rfl) :
    PE X (.Call (.Attribute o m apos) [] kws pos) (tMethK C m 0 ks.length sp gV E ta tNil tk) := by
  obtain ⟨f, fd, g, h1, h2, h4, h5⟩ := D
  refine ⟨fun pins s σ H Q I h => ?_⟩
  refine PySem.W.methodCall_KW (pl := pl) (thn (he.run pins s σ H _ I h) fun u s1 ⟨x, H1, I1, rx, a, dx, fs, ex, ea, l, q⟩ => ?_) ht
  subst ex
  obtain rfl : u = Value.ref a := rx
  refine getmeth_ok I1 ea h1 h2 l ?_
  refine PySem.W.callWith_KW0 (first := [.ref a]) (h₀ := X.base) I.ok.mod.kin h2.kp hall ?_ hpl
  refine thn (hkw.run pos pins s1 σ H1 _ I1 q) fun ws s2 ⟨zs, H2, I2, rz, l1, l2, q2⟩ => ⟨I2.kIn, ?_⟩
  rw [hks]
  exact run_fnNG (us := [.ref a]) (vs := [.ref a]) h5 (hr.mono hk) h4 hx I2 (.cons rfl .nil) rz rfl l2 q2
/-- o.m(e, .., k = v, ..) -/
theorem pe_methKD {pl : Sem Bool} (he : PE X o ta) (D : DmK X.prog X.w X.K X.mg X.base gd k C m ps n ks gV sp) (hr : RoomG gd j X.A) (hx : Passes (L2.CX X.prog X.w) X E) (ha : PA X (e :: es) t) (hkw : PK X kws tk) (hk : k ≤ j := by decide)
    (hall : (backToKw pos (keywordEach kws X.env)).all (·.1.isSome) = true := by rfl) (hks : (backToKw pos (keywordEach kws X.env)).filterMap (·.1) = ks := by rfl)
    (hst : starEach (e :: es) X.env = (false, eval e X.env) :: starEach es X.env := by rfl)
    (hpl : ((backTo pos (starEach (e :: es) X.env)).any (·.1) || (backToKw pos (keywordEach kws X.env)).any (·.1.isNone)) = false := by rfl)
    (ht : eval (.Call (.Attribute o m apos) (e :: es) kws pos) X.env = (do
      let ov ← eval o X.env
      standAt apos.atName
      let (f, first) ← holding [ov] (getMethod ov m pl)
      callWith pos f first (backTo pos (starEach (e :: es) X.env)) (backToKw pos (keywordEach kws X.env))) := by rfl) :
    PE X (.Call (.Attribute o m apos) (e :: es) kws pos) (tMethK C m n ks.length sp gV E ta t tk) := by
  obtain ⟨f, fd, g, h1, h2, h4, h5⟩ := D
  refine ⟨fun pins s σ H Q I h => ?_⟩
  refine PySem.W.methodCall_KW (pl := pl) (thn (he.run pins s σ H _ I h) fun u s1 ⟨x, H1, I1, rx, a, dx, fs, ex, ea, l, q⟩ => ?_) ht
  subst ex
  obtain rfl : u = Value.ref a := rx
  refine getmeth_ok I1 ea h1 h2 l ?_
  refine PySem.W.callWith_KW (first := [.ref a]) (h₀ := X.base) I.ok.mod.kin h2.kp hall (thn (ha.run pos pins s1 σ H1 _ I1 q) fun us s1' ⟨vs, H1', I1', r, q'⟩ => ?_) hpl hst
  refine thn (hkw.run pos pins s1' σ H1' _ I1' q') fun ws s2 ⟨zs, H2, I2, rz, l1, l2, q2⟩ => ⟨I2.kIn, ?_⟩
  rw [hks]
  exact run_fnNG (us := .ref a :: us) (vs := .ref a :: vs) h5 (hr.mono hk) h4 hx I2 (.cons rfl r) rz (congrArg Nat.succ l1) l2 q2
theorem pe_makeD (D : Dn X.prog X.w X.K X.mg X.base gd k C x ps dvs sp) (hr : RoomG gd j X.A) (hg : Gl X x) (hx : Passes (L2.CX X.prog X.w) X E) (ha : PA X (e :: es) t) (hk : k + 1 ≤ j := by decide)
    (hdb : (x == ("__debug__" : Str)) = false := by decide) (he : starEach (e :: es) X.env = (false, eval e X.env) :: starEach es X.env := by rfl) (hpl : (backTo pos (starEach es X.env)).any (·.1) = false := by rfl) :
    PE X (.Call (.Name x p) (e :: es) [] pos) (tMake C sp dvs E t) := by
  obtain ⟨f, fd, ds, h1, h2, h3, h4, h5⟩ := D
  exact pe_makeG h2 h5 (hr.mono hk) hg h1 h4 h3 hx ha hdb he hpl
theorem pe_make0D (D : Dn X.prog X.w X.K X.mg X.base gd k C x ps dvs sp) (hr : RoomG gd j X.A) (hg : Gl X x) (hx : Passes (L2.CX X.prog X.w) X E) (hk : k + 1 ≤ j := by decide)
    (hdb : (x == ("__debug__" : Str)) = false := by decide) : PE X (.Call (.Name x p) [] [] pos) (tMake C sp dvs E tNil) := by
  obtain ⟨f, fd, ds, h1, h2, h3, h4, h5⟩ := D
  exact pe_make0G h2 h5 (hr.mono hk) hg h1 h4 h3 hx hdb
end
section
variable {P : Program} {w : World} {K : PySem.W.Frag} {mg : Str → Option Value} {base : Heap} {gd : Bool} {k : Nat} {m : Str} {ps ks : List Str} {sp : Sp} {st : Stmt} {f C : Addr} {fd : FuncData} {qual : Str} {kws : List (Str × V)} {dvs : List V}
theorem Dm.of (F : FunD K m qual (defArgs st) (defBody st) (defScope st) [] kws f fd) (hc : Cls K C) (hm : Meth K C m f) (ok : FnG P w K mg base gd k f fd ps sp)
    (h : ∀ (kV doc pm : Value) (an : Option Addr) (cdv ct : Value) (us : List Value), us.length = ps.length → bindArgs (PySem.W.fnOf m qual (defArgs st) (defBody st) (defScope st) .none kV doc pm an cdv ct) ⟨us, []⟩ = pure (ps.zip us)) :
    Dm P w K mg base gd k C m ps [] sp := ⟨f, fd, [], hc, hm, .nil, F.bindsN h, ok⟩
theorem Dm.ofD (F : FunD K m qual (defArgs st) (defBody st) (defScope st) dvs kws f fd) (hc : Cls K C) (hm : Meth K C m f) (ok : FnG P w K mg base gd k f fd ps sp) (n j : Nat) (hd : dvs ≠ []) (hn : n + (dvs.length - j) = ps.length)
    (h : ∀ (T : Addr) (kV doc pm : Value) (an : Option Addr) (cdv ct : Value) (us its : List Value), us.length = n → its.length = dvs.length →
      ∃ k, bindArgs (PySem.W.fnOf m qual (defArgs st) (defBody st) (defScope st) (.ref T) kV doc pm an cdv ct) ⟨us, []⟩ = seqItems? (.ref T) >>= k ∧ k (some its.toArray) = pure (ps.zip (us ++ its.drop j))) :
    Dm P w K mg base gd k C m ps (dvs.drop j) sp := by
  obtain ⟨ds, h1, h2⟩ := F.binds1 n j hd hn h
  exact ⟨f, fd, ds, hc, hm, h1, h2, ok⟩
theorem DmK.of {n : Nat} (F : FunD K m qual (defArgs st) (defBody st) (defScope st) [] kws f fd) (hc : Cls K C) (hm : Meth K C m f) (ok : FnG P w K mg base gd k f fd ps sp) (g : {α : Type} → List α → List α → List α)
    (hrel : ∀ {vs zs : List V} {us ws : List Value}, Vals vs us → Vals zs ws → Vals (g vs zs) (g us ws))
    (h : ∀ (kV doc pm : Value) (an : Option Addr) (cdv ct : Value) (us ws : List Value), us.length = n + 1 → ws.length = ks.length → bindArgs (PySem.W.fnOf m qual (defArgs st) (defBody st) (defScope st) .none kV doc pm an cdv ct) ⟨us, ks.zip ws⟩ = pure (ps.zip (g us ws))) :
    DmK P w K mg base gd k C m ps n ks (fun vs zs => g vs zs) sp := by
  obtain ⟨oc, od, dV, kV, doc, pm, an, cdv, ct, osl, rfl, lk, hcd, hD, hK⟩ := F.ex
  rcases hD with ⟨_, rfl⟩ | ⟨e, _⟩
  · exact ⟨f, _, fun us ws => g us ws, hc, hm, ⟨fun s us ws _ l1 l2 => .of_eq (h kV doc pm an cdv ct us ws l1 l2), fun r1 r2 => hrel r1 r2⟩, ok⟩
  · exact absurd rfl e
theorem Dn.of {x : Str} (F : FunD K m qual (defArgs st) (defBody st) (defScope st) [] kws f fd) (hg : mg x = some (.ref C)) (hm : Mk K C f) (ok : FnG P w K mg base gd k f fd ps sp)
    (h : ∀ (kV doc pm : Value) (an : Option Addr) (cdv ct : Value) (us : List Value), us.length = ps.length → bindArgs (PySem.W.fnOf m qual (defArgs st) (defBody st) (defScope st) .none kV doc pm an cdv ct) ⟨us, []⟩ = pure (ps.zip us)) :
    Dn P w K mg base gd k C x ps [] sp := ⟨f, fd, [], hg, hm, .nil, F.bindsN h, ok⟩
end
/-! ### more built-ins -/
section
variable {X : Cx}
theorem call_repr_bool : CallR X (.builtin "repr") (fun xs H Q => ∃ b : Bool, xs = [.bl b] ∧ Q (.str (if b then "True" else "False")) H) := by
  intro pins s σ H xs us Q I r h
  obtain ⟨b, rfl, q⟩ := h
  obtain ⟨u, rfl, rx⟩ := vals1 r
  cases rx
  exact PySem.P.repr_of_bool ⟨.str _, H, I.tok _, ⟨_, rfl⟩, q⟩
end
/-- all but the object at b stays -/
def But (b : Addr) (H H' : Hp) : Prop := ∀ q o, q ≠ b → H q = some o → H' q = some o
theorem But.refl (b : Addr) (H : Hp) : But b H H := fun _ _ _ e => e
theorem But.trans {b : Addr} {H H1 H2 : Hp} (x : But b H H1) (y : But b H1 H2) : But b H H2 := fun q o n e => y q o n (x q o n e)
theorem But.of {b : Addr} {H H' : Hp} (x : Same H H') : But b H H' := fun q o _ e => x q o e
theorem But.upd {b : Addr} {H : Hp} {o : HO} : But b H (upd H b o) := fun q o' n e => by rw [upd_ne n]; exact e
theorem But.same {b : Addr} {H H1 H2 : Hp} (x : Same H H1) (n : H b = none) (y : But b H1 H2) : Same H H2 := fun q o e => y q o (ne_of_none e n) (x q o e)
/-! ### footprints -/
/-- all that stands outside F stays -/
def Keep (F : List Addr) (H H' : Hp) : Prop := ∀ a o, a ∉ F → H a = some o → H' a = some o
/-- F' is made of F and of new places -/
def New (F F' : List Addr) (H : Hp) : Prop := ∀ a ∈ F', a ∈ F ∨ H a = none
def Dis (F G : List Addr) : Prop := ∀ a ∈ F, a ∉ G
def Trk (F : List Addr) (H : Hp) : Prop := ∀ a ∈ F, ∃ o, H a = some o
/-- the places of F are free in H0 -/
def Fre (H0 : Hp) (F : List Addr) : Prop := ∀ a ∈ F, H0 a = none
theorem Keep.refl (F : List Addr) (H : Hp) : Keep F H H := fun _ _ _ e => e
theorem Keep.trans {F : List Addr} {H H1 H2 : Hp} (x : Keep F H H1) (y : Keep F H1 H2) : Keep F H H2 := fun a o n e => y a o n (x a o n e)
theorem Keep.of {F : List Addr} {H H' : Hp} (x : Same H H') : Keep F H H' := fun a o _ e => x a o e
theorem Keep.mono {F G : List Addr} {H H' : Hp} (x : Keep F H H') (h : ∀ a ∈ F, a ∈ G) : Keep G H H' := fun a o n e => x a o (fun z => n (h a z)) e
theorem Keep.upd {F : List Addr} {H : Hp} {b : Addr} {o : HO} (h : b ∈ F) : Keep F H (L2.upd H b o) := fun a o' n e => by
  rw [upd_ne (fun z => n (by rw [z]; exact h))]
  exact e
theorem Keep.new {F : List Addr} {H : Hp} {b : Addr} {o : HO} (h : H b = none) : Keep F H (L2.upd H b o) := .of (Same.upd h)
/-- a change of F and of what is new behind it -/
theorem Keep.then {F F' : List Addr} {H H1 H2 : Hp} (x : Keep F H H1) (n : New F F' H) (y : Keep F' H1 H2) : Keep F H H2 := fun a o na e => y a o (fun z => by
  rcases n a z with q | q
  · exact na q
  · rw [q] at e
    cases e) (x a o na e)
theorem Keep.same {F : List Addr} {H0 H H' : Hp} (s : Same H0 H) (f : Fre H0 F) (x : Keep F H H') : Same H0 H' := fun a o e => x a o (fun z => by
  rw [f a z] at e
  cases e) (s a o e)
theorem Keep.at {F : List Addr} {H H' : Hp} {a : Addr} {o : HO} (x : Keep F H H') (n : a ∉ F) (e : H a = some o) : H' a = some o := x a o n e
theorem Dis.symm {F G : List Addr} (d : Dis F G) : Dis G F := fun a h z => d a z h
theorem Dis.step {F F' G : List Addr} {H : Hp} (d : Dis F G) (n : New F F' H) (t : Trk G H) : Dis F' G := fun a h z => by
  rcases n a h with q | q
  · exact d a q z
  · obtain ⟨o, e⟩ := t a z
    rw [q] at e
    cases e
theorem New.refl (F : List Addr) (H : Hp) : New F F H := fun _ h => .inl h
theorem New.trans {F F1 F2 : List Addr} {H H1 : Hp} (x : New F F1 H) (y : New F1 F2 H1) (h : ∀ a, H1 a = none → H a = none) : New F F2 H := fun a ha => by
  rcases y a ha with q | q
  · exact x a q
  · exact .inr (h a q)
theorem Fre.step {H0 H : Hp} {F F' : List Addr} (s : Same H0 H) (f : Fre H0 F) (n : New F F' H) : Fre H0 F' := fun a h => by
  rcases n a h with q | q
  · exact f a q
  · exact s.free q
theorem Trk.keep {F G : List Addr} {H H' : Hp} (t : Trk G H) (d : Dis F G) (x : Keep F H H') : Trk G H' := fun a h => by
  obtain ⟨o, e⟩ := t a h
  exact ⟨o, x a o (d.symm a h) e⟩
theorem Trk.same {G : List Addr} {H H' : Hp} (t : Trk G H) (x : Same H H') : Trk G H' := fun a h => by
  obtain ⟨o, e⟩ := t a h
  exact ⟨o, x a o e⟩
/-- what is new in H is apart from what is tracked -/
theorem Dis.fresh {F G : List Addr} {H : Hp} (f : Fre H F) (t : Trk G H) : Dis F G := fun a h z => by
  obtain ⟨o, e⟩ := t a z
  rw [f a h] at e
  cases e
theorem ndp {L : List Addr} (nd : L.Nodup) (i j : Nat) {a b : Addr} (hi : L[i]? = some a := by rfl) (hj : L[j]? = some b := by rfl) (h : i ≠ j := by decide) : a ≠ b := by
  rintro rfl
  obtain ⟨h1, e1⟩ := List.getElem?_eq_some_iff.mp hi
  obtain ⟨h2, e2⟩ := List.getElem?_eq_some_iff.mp hj
  exact h ((List.getElem_inj nd).mp (e1.trans e2.symm))
theorem notin1 {a b : Addr} (h : a ≠ b) : a ∉ [b] := by simp [h]
theorem notin2 {a b c : Addr} (h : a ≠ b) (h' : a ≠ c) : a ∉ [b, c] := by simp [h, h']
theorem notin3 {a b c d : Addr} (h : a ≠ b) (h' : a ≠ c) (h'' : a ≠ d) : a ∉ [b, c, d] := by simp [h, h', h'']
theorem dis1 {F : List Addr} {a : Addr} (h : a ∉ F) : Dis F [a] := fun b hb z => h (by rw [← List.mem_singleton.mp z]; exact hb)
theorem dis3 {F : List Addr} {a b c : Addr} (h : a ∉ F) (h' : b ∉ F) (h'' : c ∉ F) : Dis F [a, b, c] := fun x hx z => by
  simp only [List.mem_cons, List.not_mem_nil, or_false] at z
  rcases z with z | z | z <;> subst z
  · exact h hx
  · exact h' hx
  · exact h'' hx
theorem eqvAll_ints : ∀ ns ms : List Int, PyData.eqvAll (ns.map PyData.int) (ms.map PyData.int) = decide (ns = ms)
  | [], [] => rfl
  | [], m :: ms => by simp [PyData.eqvAll]
  | n :: ns, [] => by simp [PyData.eqvAll]
  | n :: ns, m :: ms => by
    have ih := eqvAll_ints ns ms
    simp only [List.map_cons, PyData.eqvAll, PyData.eqv, ih, List.cons.injEq]
    by_cases h : n = m <;> by_cases h2 : ns = ms <;> simp [h, h2]
theorem eqD_ints {K : PySem.W.Frag} {H : Hp} {a b : Addr} {ns ms : List Int} {Q : VK} (ha : SqL K H a (ns.map V.int)) (hb : SqL K H b (ms.map V.int)) (q : Q (.bl (decide (ns = ms))) H) : rEqD K (.ref a) (.ref b) H Q := by
  refine ⟨_, _, .lst ha (dp_ints ns), .lst hb (dp_ints ms), PySem.W.shaped_ints _, PySem.W.shaped_ints _, ?_⟩
  have e : PyData.eqv (.list (ns.map PyData.int)) (.list (ms.map PyData.int)) = decide (ns = ms) := by
    simp only [PyData.eqv]
    exact eqvAll_ints ns ms
  rw [e]
  exact q
theorem neD_ints {K : PySem.W.Frag} {H : Hp} {a b : Addr} {ns ms : List Int} {Q : VK} (ha : SqL K H a (ns.map V.int)) (hb : SqL K H b (ms.map V.int)) (q : Q (.bl (!decide (ns = ms))) H) : rNeD K (.ref a) (.ref b) H Q := by
  refine ⟨_, _, .lst ha (dp_ints ns), .lst hb (dp_ints ms), PySem.W.shaped_ints _, PySem.W.shaped_ints _, ?_⟩
  have e : PyData.eqv (.list (ns.map PyData.int)) (.list (ms.map PyData.int)) = decide (ns = ms) := by
    simp only [PyData.eqv]
    exact eqvAll_ints ns ms
  rw [e]
  exact q
/-! ### bits -/
theorem bits_eq (n : Nat) : Builtin.Int.intBits (n : Int) = if n = 0 then 0 else n.log2 + 1 := by
  unfold Builtin.Int.intBits
  by_cases h : n = 0
  · subst h
    rfl
  · have e : ((n : Int) == 0) = false := beq_eq_false_iff_ne.mpr (by omega)
    rw [e, if_neg h]
    rfl
theorem bits_lt (n : Nat) : n < 2 ^ Builtin.Int.intBits (n : Int) := by
  rw [bits_eq]
  split
  · rename_i h
    subst h
    decide
  · exact Nat.lt_log2_self
theorem bits_le {a b : Nat} (h : a < 2 ^ b) : Builtin.Int.intBits (a : Int) ≤ b := by
  rw [bits_eq]
  split
  · exact Nat.zero_le _
  · rename_i h0
    have := (Nat.log2_lt h0 (k := b)).mpr h
    omega
theorem pow_cast (j : Nat) : ((2 ^ j : Nat) : Int) = 2 ^ j := by simp
theorem div_pow_cast (n j : Nat) : (n : Int) / 2 ^ j = ((n / 2 ^ j : Nat) : Int) := by simp
theorem divw_pow (i : Int) {j : Nat} (h : j ≤ 1000) : CDivW i ((2 ^ j : Nat) : Int) := by
  have p : 0 < 2 ^ j := Nat.pow_pos (by decide)
  refine ⟨by omega, ?_⟩
  show (2 ^ j).log2 < 9000
  rw [Nat.log2_two_pow]
  omega
theorem cshl_nat {a j : Nat} (b : Nat) (h : a < 2 ^ b) (hb : b ≤ 1000) (hj : j ≤ 1000) : CShl (a : Int) (j : Int) := by
  refine ⟨by omega, ?_⟩
  have := bits_le h
  omega
theorem vals_rev : ∀ {vs : List V} {us : List Value}, Vals vs us → Vals vs.reverse us.reverse
  | _, _, .nil => .nil
  | _, _, .cons r t => by
    rw [List.reverse_cons, List.reverse_cons]
    exact (vals_rev t).append (.cons r .nil)
end G
namespace G
open PySem PySem.Spec PyProof.Rows L2
/-! ### calls whose errors are wished for at the slots -/
def tCallT (sp : Sp) (dvs : List V) (W : WX) (t : TA) : TE := fun σ H Q => t σ H fun vs H1 => sp (vs ++ dvs) H1 Q fun cls d H' => W cls d σ H'
def tMethT (C : Addr) (m : Str) (sp : Sp) (dvs : List V) (W : WX) (ta : TE) (t : TA) : TE := fun σ H Q => ta σ H fun x H1 => ∃ a dx fs, x = .ref a ∧ H1 a = some (.ins C dx fs) ∧ fs.lookup m = none ∧
  t σ H1 fun vs H2 => sp (x :: (vs ++ dvs)) H2 Q fun cls d H' => W cls d σ H'
section
variable {X : Cx} {gd : Bool} {j k n : Nat} {C : Addr} {ps ks : List Str} {sp : Sp} {dvs : List V} {W : WX} {x m : Str} {p pos apos : Pos} {e o : Expr} {es : List Expr} {kws : List Keyword} {ta : TE} {t tk : TA} {gV : List V → List V → List V}
theorem run_fnT {f : Addr} {fd : FuncData} {ds : List Value} {E : XK} {pins : List (Addr × Obj)} {σ : L2.St} {H : Hp} {s : Shared} {Q : VK} {us : List Value} {vs : List V} (F : FnG X.prog X.w X.K X.mg X.base gd k f fd ps sp) (hr : RoomG gd k X.A) (hb : Binds X.K fd ps ds) (hd : Vals dvs ds) (tk : Takes X W)
    (I : Inv X pins σ H s) (r : Vals vs us) (h : sp (vs ++ dvs) H Q fun cls d H' => W cls d σ H') : wpAny (model X.prog X.w) X.A (call (.ref f) us) (EP X pins σ Q) X.xe s := by
  have r2 : Vals (vs ++ dvs) (us ++ ds) := r.append hd
  have hl : (us ++ ds).length = ps.length := by rw [← r2.length]; exact F.len _ _ _ _ h
  refine wpAny_call (codeAny_mono (F.run X.A X.stack s H ⟨us, []⟩ (us ++ ds) (vs ++ dvs) Q _ hr I.env0 (hb s us I.kIn hl) r2 h) fun r s' hq => ?_)
  cases r with
  | error e => exact passAt tk σ pins H s e s' I hq
  | ok fl =>
    cases fl with
    | ret u => exact I.after hq
    | next => exact False.elim hq
    | brk => exact False.elim hq
    | cont => exact False.elim hq
theorem pe_callTD (D : Df X.prog X.w X.K X.mg X.base gd k x ps dvs sp) (hr : RoomG gd j X.A) (hg : Gl X x) (tk : Takes X W) (ha : PA X (e :: es) t) (hk : k ≤ j := by decide)
    (hdb : (x == ("__debug__" : Str)) = false := by decide) (he : starEach (e :: es) X.env = (false, eval e X.env) :: starEach es X.env := by rfl) (hpl : (backTo pos (starEach es X.env)).any (·.1) = false := by rfl) :
    PE X (.Call (.Name x p) (e :: es) [] pos) (tCallT sp dvs W t) := by
  obtain ⟨f, fd, ds, h1, h2, h3, h4, h5⟩ := D
  refine ⟨fun pins s σ H Q I h => ?_⟩
  refine wpAny_Call_Name_kw (ld_glob I hg h1 ?_ hdb)
  refine PySem.W.callWith_K (h₀ := X.base) I.ok.mod.kin h2 (thn (ha.run pos pins s σ H _ I h) fun us s1 ⟨vs, H1, I1, r, q⟩ => ⟨I1.kIn, ?_⟩) he hpl
  exact run_fnT h5 (hr.mono hk) h4 h3 tk I1 r q (E := fun _ _ _ => False)
theorem pe_call0TD (D : Df X.prog X.w X.K X.mg X.base gd k x ps dvs sp) (hr : RoomG gd j X.A) (hg : Gl X x) (tk : Takes X W) (hk : k ≤ j := by decide)
    (hdb : (x == ("__debug__" : Str)) = false := by decide) : PE X (.Call (.Name x p) [] [] pos) (tCallT sp dvs W tNil) := by
  obtain ⟨f, fd, ds, h1, h2, h3, h4, h5⟩ := D
  refine ⟨fun pins s σ H Q I h => ?_⟩
  refine wpAny_Call_Name_kw (ld_glob I hg h1 ?_ hdb)
  exact PySem.W.callWith_K0 I.kIn h2 (run_fnT (us := []) (vs := []) h5 (hr.mono hk) h4 h3 tk I .nil h (E := fun _ _ _ => False))
theorem pe_methTD {pl : Sem Bool} (he : PE X o ta) (D : Dm X.prog X.w X.K X.mg X.base gd k C m ps dvs sp) (hr : RoomG gd j X.A) (tk : Takes X W) (ha : PA X (e :: es) t) (hk : k ≤ j := by decide)
    (hst : starEach (e :: es) X.env = (false, eval e X.env) :: starEach es X.env := by rfl) (hpl : (backTo pos (starEach es X.env)).any (·.1) = false := by rfl)
    (ht : eval (.Call (.Attribute o m apos) (e :: es) [] pos) X.env = (do
      let ov ← eval o X.env
      standAt apos.atName
      let (f, first) ← holding [ov] (getMethod ov m pl)
      callWith pos f first (backTo pos (starEach (e :: es) X.env)) (backToKw pos (keywordEach [] X.env))) := by rfl) :
    PE X (.Call (.Attribute o m apos) (e :: es) [] pos) (tMethT C m sp dvs W ta t) := by
  obtain ⟨f, fd, ds, h1, h2, h3, h4, h5⟩ := D
  refine ⟨fun pins s σ H Q I h => ?_⟩
  refine PySem.W.methodCall_KW (pl := pl) (thn (he.run pins s σ H _ I h) fun u s1 ⟨x, H1, I1, rx, a, dx, fs, ex, ea, l, q⟩ => ?_) ht
  subst ex
  obtain rfl : u = Value.ref a := rx
  refine getmeth_ok I1 ea h1 h2 l ?_
  refine PySem.W.callWith_K (first := [.ref a]) (h₀ := X.base) I.ok.mod.kin h2.kp (thn (ha.run pos pins s1 σ H1 _ I1 q) fun us s2 ⟨vs, H2, I2, r, q2⟩ => ⟨I2.kIn, ?_⟩) hst hpl
  exact run_fnT (us := .ref a :: us) (vs := .ref a :: vs) h5 (hr.mono hk) h4 h3 tk I2 (.cons rfl r) q2 (E := fun _ _ _ => False)
theorem pe_meth0TD {pl : Sem Bool} (he : PE X o ta) (D : Dm X.prog X.w X.K X.mg X.base gd k C m ps dvs sp) (hr : RoomG gd j X.A) (tk : Takes X W) (hk : k ≤ j := by decide)
    (ht : eval (.Call (.Attribute o m apos) [] [] pos) X.env = (do
      let ov ← eval o X.env
      standAt apos.atName
      let (f, first) ← holding [ov] (getMethod ov m pl)
      callWith pos f first (backTo pos (starEach [] X.env)) (backToKw pos (keywordEach [] X.env))) := by rfl) :
    PE X (.Call (.Attribute o m apos) [] [] pos) (tMethT C m sp dvs W ta tNil) := by
  obtain ⟨f, fd, ds, h1, h2, h3, h4, h5⟩ := D
  refine ⟨fun pins s σ H Q I h => ?_⟩
  refine PySem.W.methodCall_KW (pl := pl) (thn (he.run pins s σ H _ I h) fun u s1 ⟨x, H1, I1, rx, a, dx, fs, ex, ea, l, q⟩ => ?_) ht
  subst ex
  obtain rfl : u = Value.ref a := rx
  refine getmeth_ok I1 ea h1 h2 l ?_
  exact PySem.W.callWith_K0 (first := [.ref a]) I1.kIn h2.kp (run_fnT (us := [.ref a]) (vs := [.ref a]) h5 (hr.mono hk) h4 h3 tk I1 (.cons rfl .nil) q (E := fun _ _ _ => False))
end
/-! ### own exceptions -/
/-- what the written part says of an own exception class of the built-in base whose mro is bm, without an __init__ -/
structure ExF (K : PySem.W.Frag) (C : Addr) (bm : List Value) (newId : String) : Prop where
  ex : PySem.W.excIn K C bm newId = true
  kp : PySem.W.keepIn K (.ref C) = true
  sb : PySem.W.subIn K (.ref C) (.type "BaseException") = some true
  ty : PySem.W.typeIn K (.ref C) = some (.type "type")
def fExF (x : Str) (bm : List Value) (newId : String) : Fx := fun K => PySem.W.excIn K (He.ga K x) bm newId && (PySem.W.keepIn K (.ref (He.ga K x)) && (decide (PySem.W.subIn K (.ref (He.ga K x)) (.type "BaseException") = some true) && decide (PySem.W.typeIn K (.ref (He.ga K x)) = some (.type "type"))))
theorem exF_ok {K : PySem.W.Frag} {x : Str} {bm : List Value} {newId : String} (c : fExF x bm newId K = true) : ExF K (He.ga K x) bm newId := by
  obtain ⟨c1, c⟩ := He.ba c
  obtain ⟨c2, c⟩ := He.ba c
  obtain ⟨c3, c4⟩ := He.ba c
  exact ⟨c1, c2, of_decide_eq_true c3, of_decide_eq_true c4⟩
def fExm' (x y : Str) (b : Bool) : Fx := fun K => decide (PySem.W.exmOne K (.ref (He.ga K x)) (.ref (He.ga K y)) = some b)
theorem exm_ok' {K : PySem.W.Frag} {x y : Str} {b : Bool} (c : fExm' x y b K = true) : PySem.W.exmOne K (.ref (He.ga K x)) (.ref (He.ga K y)) = some b := of_decide_eq_true c
def fKit (x y : Str) (b : Bool) : Fx := fun K => decide (PySem.W.kitOne K (.ref (He.ga K x)) (.ref (He.ga K y)) = some b)
theorem kit_ok' {K : PySem.W.Frag} {x y : Str} {b : Bool} (c : fKit x y b K = true) : PySem.W.kitOne K (.ref (He.ga K x)) (.ref (He.ga K y)) = some b := of_decide_eq_true c
def fKitT (x : Str) (y : String) (b : Bool) : Fx := fun K => decide (PySem.W.kitOne K (.ref (He.ga K x)) (.type y) = some b)
theorem kitT_ok' {K : PySem.W.Frag} {x : Str} {y : String} {b : Bool} (c : fKitT x y b K = true) : PySem.W.kitOne K (.ref (He.ga K x)) (.type y) = some b := of_decide_eq_true c
def fExcC (x : Str) : Fx := fun K => He.eqO (PySem.W.findIn K (.ref (He.ga K x)) "__getattribute__") (some (some (.builtin "BaseException.__getattribute__"))) && (He.eqO (PySem.W.findIn K (.ref (He.ga K x)) "__getattr__") (some none) &&
  (decide (PySem.W.subIn K (.ref (He.ga K x)) (.type "BaseException") = some true) && (PySem.W.hasDictIn K (He.ga K x) && (He.eqO (PySem.W.findIn K (.ref (He.ga K x)) "__class__") (some (some (.builtin "object.__class__"))) &&
  (He.eqO (PySem.W.specialIn K (.builtin "object.__class__") "__get__") (some (some (.builtin "getset_descriptor.__get__"))) && (decide (PySem.W.takesIn K (.builtin "object.__class__") = some true) && decide (PySem.W.mroIn K (He.ga K x) (.type "object") = some true)))))))
theorem excC_ok {K : PySem.W.Frag} {x : Str} (c : fExcC x K = true) : ExcC K (He.ga K x) := by
  obtain ⟨c1, c⟩ := He.ba c
  obtain ⟨c2, c⟩ := He.ba c
  obtain ⟨c3, c⟩ := He.ba c
  obtain ⟨c4, c⟩ := He.ba c
  obtain ⟨c5, c⟩ := He.ba c
  obtain ⟨c6, c⟩ := He.ba c
  obtain ⟨c7, c8⟩ := He.ba c
  exact ⟨He.eqO_ok c1, He.eqO_ok c2, of_decide_eq_true c3, c4, He.eqO_ok c5, He.eqO_ok c6, of_decide_eq_true c7, of_decide_eq_true c8⟩
/-! ### isinstance of the caught error -/
def rIsE2 (K : PySem.W.Frag) (a : Addr) (cls : Value) (d : Option Addr) : List V → Hp → VK → Prop := fun xs H Q => ∃ D, cls = .ref D ∧ d = none ∧ ExcC K D ∧ rIsE K D a xs H Q
theorem call_isE2 {X : Cx} {a : Addr} {oe : Obj} {cls : Value} {d : Option Addr} {pn : List (Addr × Obj)} (hz : Zc cls d oe) (hf : ∃ vs, oe.data = .fields vs) : CallR (X.suite a ((a, oe) :: pn)) (.builtin "isinstance") (rIsE2 X.K a cls d) := by
  intro pins s σ H xs us Q I r h
  obtain ⟨D, rfl, rfl, C, h⟩ := h
  exact call_isE C hz hf pins s σ H xs us Q I r h
/-- isinstance(e, (C1, C2, ..)) -/
def rIsET (K : PySem.W.Frag) (a : Addr) (cls : Value) (d : Option Addr) : List V → Hp → VK → Prop := fun xs H Q => ∃ (D tp : Addr) (cs : List V) (us : List Value) (b : Bool), cls = .ref D ∧ d = none ∧ ExcC K D ∧ xs = [.ref a, .ref tp] ∧ H tp = some (.tup cs) ∧ Paired ClsV cs us ∧ PySem.W.kitAny K (.ref D) us = some b ∧ Q (.bl b) H
theorem call_isET {X : Cx} {a : Addr} {oe : Obj} {cls : Value} {d : Option Addr} {pn : List (Addr × Obj)} (hz : Zc cls d oe) (hf : ∃ vs, oe.data = .fields vs) : CallR (X.suite a ((a, oe) :: pn)) (.builtin "isinstance") (rIsET X.K a cls d) := by
  intro pins s σ H xs us Q I r h
  obtain ⟨D, tp, cs, ws, b, rfl, rfl, C, rfl, hT, k, e, q⟩ := h
  obtain ⟨u1, u2, rfl, r1, r2⟩ := vals2 r
  cases (show u1 = Value.ref a from r1)
  cases (show u2 = Value.ref tp from r2)
  obtain ⟨hget, _⟩ := I.pin (a, oe) (List.mem_append.mpr (.inl List.mem_cons_self))
  obtain ⟨vs, hv⟩ := hf
  have J : PySem.W.InstAt s.heap a oe D none := by
    obtain ⟨oc, od, oda, osl⟩ := oe
    obtain ⟨h1, h2⟩ := hz
    dsimp only at h1 h2 hv
    subst h1 h2 hv
    exact ⟨hget, rfl, rfl, trivial⟩
  obtain ⟨_, its, rv, o, h1, h2, n, h3⟩ := (show ObjOk X.prog X.w H s.heap tp (.tup cs) from I.hok tp _ hT)
  have e3 := ClsV.all k rv
  subst e3
  obtain ⟨oc, od, dt, sl⟩ := o
  simp only at h2 h3
  subst h2 h3
  exact PySem.W.kia_tup (PySem.W.handS_kitx_exc C.hg C.hk C.hs C.hd C.ha C.hn C.ht C.hm) I.kIn J h1 e (fun z => nomatch z) fun tk => ⟨.bl b, H, I.kept (t' := tk) fun _ _ z => z, rfl, q⟩
theorem kitAny_false {K : PySem.W.Frag} {t : Value} : ∀ {us : List Value}, (∀ u ∈ us, PySem.W.kitOne K t u = some false) → PySem.W.kitAny K t us = some false
  | [], _ => rfl
  | u :: r, h => by
    unfold PySem.W.kitAny
    rw [h u List.mem_cons_self]
    exact kitAny_false fun v hv => h v (List.mem_cons_of_mem _ hv)
end G
namespace G
open PySem PySem.Spec PyProof.Rows L2 NdefX LamX
/-! ### calling a value -/
/-- what a law's proof stands on -/
structure Wo where
  P : Program
  w : World
  K : PySem.W.Frag
  mg : Str → Option Value
  base : Heap
  gd : Bool
/-- the value v may be called with vs wherever H is held: the answer as Q says, an exception as E says -/
def Act (W : Wo) (k : Nat) (v : V) (vs : List V) (H : Hp) (Q : VK) (E : XK) : Prop :=
  ∀ (A : Around) (outer : List Env) (s : Shared) (u : Value) (us : List Value), RoomG W.gd k A → Env0 W.P W.w W.K W.mg W.base A outer s H → L2.RelV v u → Vals vs us →
    codeAny (model W.P W.w) A (.call u ⟨us, []⟩) (CR (L2.CX W.P W.w) outer W.P W.w H s Q E) s
theorem Act.mono {W : Wo} {j k : Nat} {v : V} {vs : List V} {H : Hp} {Q : VK} {E : XK} (a : Act W j v vs H Q E) (h : j ≤ k) : Act W k v vs H Q E := fun A outer s u us hr => a A outer s u us (hr.mono h)
theorem Act.imp {W : Wo} {k : Nat} {v : V} {vs : List V} {H : Hp} {Q Q' : VK} {E E' : XK} (a : Act W k v vs H Q E) (h : ∀ r H', Q r H' → Q' r H') (he : ∀ cls d H', E cls d H' → E' cls d H') : Act W k v vs H Q' E' := fun A outer s u us hr e0 ru rv => by
  refine codeAny_mono (a A outer s u us hr e0 ru rv) fun r s' q => ?_
  match r, q with
  | .error e, q =>
    obtain ⟨x, B, H', cls, d, q1, q2, q3, q4, q5, q6, q7, q8⟩ := q
    exact ⟨x, B, H', cls, d, q1, q2, q3, q4, q5, q6, q7, he _ _ _ q8⟩
  | .ok (.ret y), q =>
    obtain ⟨x, H', q1, q2, q3, q4, q5, q6⟩ := q
    exact ⟨x, H', q1, q2, q3, q4, q5, h _ _ q6⟩
/-- a def of the text -/
theorem FnG.act {W : Wo} {k : Nat} {f : Addr} {fd : FuncData} {ps : List Str} {sp : Sp} {ds : List Value} {dvs vs : List V} {H : Hp} {Q : VK} {E : XK} (F : FnG W.P W.w W.K W.mg W.base W.gd k f fd ps sp) (hb : Binds W.K fd ps ds) (hd : Vals dvs ds) (h : sp (vs ++ dvs) H Q E) : Act W k (.ref f) vs H Q E := by
  intro A outer s u us hr e0 ru rv
  obtain rfl : u = Value.ref f := ru
  have r2 : Vals (vs ++ dvs) (us ++ ds) := rv.append hd
  have hl : (us ++ ds).length = ps.length := by rw [← r2.length]; exact F.len _ _ _ _ h
  exact F.run A outer s H ⟨us, []⟩ (us ++ ds) (vs ++ dvs) Q E hr e0 (hb s us (e0.mod.kin.keeps fun b o e => (e0.bs b o e).1) hl) r2 h
/-! ### captured cells, tracked -/
abbrev cellX (o : Obj) : HO := .frz o (.ext fun _ => True)
/-- the cell at c holds v -/
def CellAt (H : Hp) (c : Addr) (v : V) : Prop := ∃ (o : Obj) (u : Value), H c = some (cellX o) ∧ o.data = .cell (some u) ∧ L2.RelV v u
theorem cellX_ok {P : Program} {w : World} {H : Hp} {h : Heap} {c : Addr} {o : Obj} (e : h.get? c = some o) : ObjOk P w H h c (cellX o) := ⟨e, trivial, ⟨o, e⟩, fun _ _ _ _ => trivial⟩
theorem cellX_get {P : Program} {w : World} {H : Hp} {h : Heap} {c : Addr} {o : Obj} (x : ObjOk P w H h c (cellX o)) : h.get? c = some o := x.1
theorem CellAt.is {P : Program} {w : World} {H : Hp} {h : Heap} {c : Addr} {v : V} (x : CellAt H c v) (hok : HOk P w H h) : ∃ u, L2.RelV v u ∧ h.IsCell c (some u) := by
  obtain ⟨o, u, e, d, r⟩ := x
  exact ⟨u, r, o, cellX_get (hok c _ e), d⟩
theorem CellAt.same {H H' : Hp} {c : Addr} {v : V} (x : CellAt H c v) (s : Same H H') : CellAt H' c v := by
  obtain ⟨o, u, e, d, r⟩ := x
  exact ⟨o, u, s _ _ e, d, r⟩
/-- without the cells cs -/
def cut (H : Hp) (cs : List Addr) : Hp := fun b => if b ∈ cs then none else H b
/-- H', the cells cs as in H -/
def mend (H' H : Hp) (cs : List Addr) : Hp := fun b => if b ∈ cs then H b else H' b
def Cld (H : Hp) (cs : List Addr) : Prop := ∀ c ∈ cs, ∃ o, H c = some (cellX o)
theorem cut_in {H : Hp} {cs : List Addr} {b : Addr} (h : b ∈ cs) : cut H cs b = none := if_pos h
theorem cut_out {H : Hp} {cs : List Addr} {b : Addr} (h : b ∉ cs) : cut H cs b = H b := if_neg h
theorem mend_in {H' H : Hp} {cs : List Addr} {b : Addr} (h : b ∈ cs) : mend H' H cs b = H b := if_pos h
theorem mend_out {H' H : Hp} {cs : List Addr} {b : Addr} (h : b ∉ cs) : mend H' H cs b = H' b := if_neg h
theorem Cld.out {H : Hp} {cs : List Addr} (x : Cld H cs) {b : Addr} {o : HO} (e : H b = some o) (n : ∀ ob, o ≠ cellX ob) : b ∉ cs := fun z => by
  obtain ⟨ob, q⟩ := x b z
  rw [e] at q
  exact n ob (Option.some.inj q)
theorem Cld.outN {H : Hp} {cs : List Addr} (x : Cld H cs) {b : Addr} (e : H b = none) : b ∉ cs := fun z => by
  obtain ⟨ob, q⟩ := x b z
  rw [e] at q
  cases q
theorem cut_none {H : Hp} {cs : List Addr} {b : Addr} (e : H b = none) : cut H cs b = none := by
  unfold cut
  split
  · rfl
  · exact e
theorem hok_cut {P : Program} {w : World} {H : Hp} {h : Heap} {cs : List Addr} (hok : HOk P w H h) (x : Cld H cs) : HOk P w (cut H cs) h := fun b o e => by
  have hb : b ∉ cs := fun z => by
    rw [cut_in z] at e
    cases e
  rw [cut_out hb] at e
  refine (hok b o e).stay (fun _ _ _ q => q) (fun c q => ?_) fun c xs q => ?_
  · rw [cut_out (x.out q fun _ z => by cases z)]
    exact q
  · rw [cut_out (x.out q fun _ z => by cases z)]
    exact q
theorem Env0.cut {P : Program} {w : World} {K : PySem.W.Frag} {mg : Str → Option Value} {base : Heap} {A : Around} {outer : List Env} {s : Shared} {H : Hp} {cs : List Addr} (e : Env0 P w K mg base A outer s H) (x : Cld H cs) : Env0 P w K mg base A outer s (G.cut H cs) :=
  ⟨e.frames, e.mod, fun b o q => ⟨(e.bs b o q).1, cut_none (e.bs b o q).2⟩, e.bsz, e.funs, fun b hb => cut_none (e.frf b hb), hok_cut e.hok x, e.bare⟩
/-- the cells come back -/
theorem hok_mend {P : Program} {w : World} {H H' : Hp} {h' : Heap} {cs : List Addr} (hok' : HOk P w H' h') (x : Cld H cs) (n : ∀ c ∈ cs, H' c = none) (g : ∀ c ∈ cs, ∀ o, H c = some (cellX o) → h'.get? c = some o) : HOk P w (mend H' H cs) h' := fun b o e => by
  by_cases hb : b ∈ cs
  · rw [mend_in hb] at e
    obtain ⟨ob, q⟩ := x b hb
    rw [q] at e
    cases e
    exact cellX_ok (g b hb ob q)
  · rw [mend_out hb] at e
    refine (hok' b o e).stay (fun _ _ _ q => q) (fun c q => ?_) fun c xs q => ?_
    · rw [mend_out fun z => by rw [n c z] at q; cases q]
      exact q
    · rw [mend_out fun z => by rw [n c z] at q; cases q]
      exact q
section
variable {P : Program} {w : World} {H H' : Hp} {s s' : Shared} {cs : List Addr} {outer : List Env} {Q Q' : VK} {E E' : XK}
theorem ce_mend {u : Value} (hok : HOk P w H s.heap) (frf : ∀ b ∈ frs outer, H b = none) (x : Cld H cs) (hQ : ∀ v H', (∀ c ∈ cs, H' c = none) → Q' v H' → Q v (mend H' H cs)) (c : CE outer P w (cut H cs) s Q' u s') : CE outer P w H s Q u s' := by
  obtain ⟨v, H', os, bare, un, hok', r, q⟩ := c
  have at0 : ∀ c ∈ cs, ∀ o, H c = some (cellX o) → s.heap.get? c = some o := fun c hc o e => cellX_get (hok c _ e)
  have nf : ∀ c ∈ cs, c ∉ frs outer := fun c hc z => by
    obtain ⟨o, e⟩ := x c hc
    rw [frf c z] at e
    cases e
  have hn : ∀ c ∈ cs, H' c = none := fun c hc => by
    obtain ⟨o, e⟩ := x c hc
    exact un.free c o (at0 c hc o e) (cut_in hc) (by simp)
  have hg : ∀ c ∈ cs, ∀ o, H c = some (cellX o) → s'.heap.get? c = some o := fun c hc o e => un.keep c o (at0 c hc o e) (cut_in hc) (nf c hc) (by simp)
  refine ⟨v, mend H' H cs, os, bare, ⟨fun b o e n h1 h2 => un.keep b o e (cut_none n) h1 h2, fun b o e n h1 h2 => un.slot b o e (cut_none n) h1 h2, fun b o e n h2 => ?_, un.there, fun b xs e => ?_, fun b o u e => ?_, fun b ps e => ?_⟩, hok_mend hok' x hn hg, r, hQ _ _ hn q⟩
  · rw [mend_out (x.outN n)]
    exact un.free b o e (cut_none n) h2
  · have hb := x.out e fun _ z => by cases z
    rw [mend_out hb]
    exact un.tups b xs (by rw [cut_out hb]; exact e)
  · by_cases hb : b ∈ cs
    · rw [mend_in hb]
      exact e
    · rw [mend_out hb]
      exact un.frzs b o u (by rw [cut_out hb]; exact e)
  · have hb := x.out e fun _ z => by cases z
    rw [mend_out hb]
    exact un.tbls b ps (by rw [cut_out hb]; exact e)
theorem cx_mend {u : Value} (hok : HOk P w H s.heap) (frf : ∀ b ∈ frs outer, H b = none) (x : Cld H cs) (hE : ∀ cls d H', (∀ c ∈ cs, H' c = none) → E' cls d H' → E cls d (mend H' H cs)) (c : L2.CX P w outer (cut H cs) s E' u s') : L2.CX P w outer H s E u s' := by
  obtain ⟨a, B, H', cls, d, e1, fl, hok', ub, na, os, bare, q⟩ := c
  have at0 : ∀ c ∈ cs, ∀ o, H c = some (cellX o) → s.heap.get? c = some o := fun c hc o e => cellX_get (hok c _ e)
  have nf : ∀ c ∈ cs, c ∉ frs outer := fun c hc z => by
    obtain ⟨o, e⟩ := x c hc
    rw [frf c z] at e
    cases e
  have hn : ∀ c ∈ cs, H' c = none := fun c hc => by
    obtain ⟨o, e⟩ := x c hc
    exact ub.free c o (at0 c hc o e) (cut_in hc)
  have hg : ∀ c ∈ cs, ∀ o, H c = some (cellX o) → B.get? c = some o := fun c hc o e => ub.keep c o (at0 c hc o e) (cut_in hc) (nf c hc)
  have nac : a ∉ cs := fun z => by
    obtain ⟨o, e⟩ := x a z
    have g := hg a z o e
    rw [fl.2.1] at g
    cases g
  refine ⟨a, B, mend H' H cs, cls, d, e1, fl, hok_mend hok' x hn hg, ⟨fun b o e n h1 => ub.keep b o e (cut_none n) h1, ub.slot, fun b o e n => ?_, ub.there, fun b xs e => ?_, fun b o u e => ?_, fun b ps e => ?_⟩, by rw [mend_out nac]; exact na, os, bare, hE _ _ _ hn q⟩
  · rw [mend_out (x.outN n)]
    exact ub.free b o e (cut_none n)
  · have hb := x.out e fun _ z => by cases z
    rw [mend_out hb]
    exact ub.tups b xs (by rw [cut_out hb]; exact e)
  · by_cases hb : b ∈ cs
    · rw [mend_in hb]
      exact e
    · rw [mend_out hb]
      exact ub.frzs b o u (by rw [cut_out hb]; exact e)
  · have hb := x.out e fun _ z => by cases z
    rw [mend_out hb]
    exact ub.tbls b ps (by rw [cut_out hb]; exact e)
end

/-! ### functions made at run time -/
def capt (cl : List (Str × Addr)) : List Addr := cl.filterMap fun p => cl.lookup p.1
theorem mem_capt {cl : List (Str × Addr)} {c : Addr} : c ∈ capt cl ↔ ∃ y, cl.lookup y = some c := by
  unfold capt
  rw [List.mem_filterMap]
  exact ⟨fun ⟨p, _, h⟩ => ⟨p.1, h⟩, fun ⟨y, h⟩ => ⟨(y, c), PySem.mem_of_lookup h, h⟩⟩
/-- the captured names fr hold ws -/
structure Cap (H : Hp) (cl : List (Str × Addr)) (fr : List Str) (ws : List V) : Prop where
  len : ws.length = fr.length
  all : ∀ y c, cl.lookup y = some c → ∃ v, CellAt H c v
  inj : ∀ x y c, cl.lookup x = some c → cl.lookup y = some c → x = y
  has : ∀ (i : Nat) (y : Str), fr[i]? = some y → ∃ c v, cl.lookup y = some c ∧ ws[i]? = some v ∧ CellAt H c v
theorem Cap.cld {H : Hp} {cl : List (Str × Addr)} {fr : List Str} {ws : List V} (C : Cap H cl fr ws) : Cld H (capt cl) := fun c hc => by
  obtain ⟨y, e⟩ := mem_capt.mp hc
  obtain ⟨v, o, u, q, _⟩ := C.all y c e
  exact ⟨o, q⟩
theorem Cap.same {H H' : Hp} {cl : List (Str × Addr)} {fr : List Str} {ws : List V} (C : Cap H cl fr ws) (k : ∀ c ∈ capt cl, H' c = H c) : Cap H' cl fr ws := by
  have cm : ∀ {y c v}, cl.lookup y = some c → CellAt H c v → CellAt H' c v := fun {y c v} e ⟨o, u, q, r⟩ => ⟨o, u, by rw [k c (mem_capt.mpr ⟨y, e⟩)]; exact q, r⟩
  refine ⟨C.len, fun y c e => ?_, C.inj, fun i y e => ?_⟩
  · obtain ⟨v, q⟩ := C.all y c e
    exact ⟨v, cm e q⟩
  · obtain ⟨c, v, e1, e2, q⟩ := C.has i y e
    exact ⟨c, v, e1, e2, cm e1 q⟩
theorem Cap.cells {P : Program} {w : World} {H : Hp} {h : Heap} {cl : List (Str × Addr)} {fr : List Str} {ws : List V} (C : Cap H cl fr ws) (hok : HOk P w H h) : CellsAt cl fr (ws.map some) h (cut H (capt cl)) := by
  refine ⟨by rw [List.length_map]; exact C.len, fun y c e => ⟨cut_in (mem_capt.mpr ⟨y, e⟩), ?_⟩, C.inj, fun i y e => ?_⟩
  · obtain ⟨v, q⟩ := C.all y c e
    obtain ⟨u, _, z⟩ := q.is hok
    exact ⟨_, z⟩
  · obtain ⟨c, v, e1, e2, q⟩ := C.has i y e
    refine ⟨c, e1, fun v' e3 => ?_⟩
    rw [List.getElem?_map, e2] at e3
    cases e3
    exact q.is hok
section
variable {W : Wo} {N ps fr : List Str} {F : NF} {f : Addr} {k : Nat} {H : Hp} {vs ws : List V} {Q : VK} {E : XK}
/-- a nested def, its captured cells tracked -/
theorem act_nf (hF : H f = some (FnO f F)) (hc : H F.c = some (CodeO F.c F.qual)) (C : Cap H F.cl fr ws) (S : NScope N ps fr F.scope) (hb : ∀ (doc pm ctv : Value) (us : List Value), us.length = ps.length → bindArgs (F.fd doc pm ctv) ⟨us, []⟩ = pure (ps.zip us)) (hl : vs.length = ps.length)
    (hbody : ∀ (A : Around) (outer : List Env) (s : Shared), RoomG W.gd k (A.deeper (envF F f s.heap.objs.size)) → Env0 W.P W.w W.K W.mg W.base A outer s H →
      ∃ t, PSs (ncx (L2.CX W.P W.w) W.P W.w W.K W.mg W.base N F f A outer s (cut H (capt F.cl)) fun cls d H' => (∀ c ∈ capt F.cl, H' c = none) → E cls d (mend H' H (capt F.cl))) F.body t ∧
        t { nx := fun _ H' => (∀ c ∈ capt F.cl, H' c = none) → Q .non (mend H' H (capt F.cl)), rt := fun v H' => (∀ c ∈ capt F.cl, H' c = none) → Q v (mend H' H (capt F.cl)) } (startF N vs (ws.map some)) (cut H (capt F.cl))) :
    Act W (k + 1) (.ref f) vs H Q E := by
  intro A outer s u us hr e0 ru rv
  obtain rfl : u = Value.ref f := ru
  have CL := C.cld
  have e1 := Env0.cut e0 CL
  have lim : s.heap.NoLimit := e0.mod.nolimit.keeps fun b o e => (e0.bs b o e).1
  obtain ⟨od, sl, doc, pm, ctv, ho⟩ := fnO_at e0.hok hF
  refine codeAny_call_function hr.r.depth ho rfl S.co S.gen rfl (codeO_at e0.hok hc) ?_
  rw [hb doc pm ctv us (by rw [← rv.length]; exact hl)]
  refine wpAny_pure (wpAny_newFunctionEnv S.nocell (fun ⟨n, _⟩ hy => S.par n (List.of_mem_zip hy).1) (fun h₁ hns hsb => ⟨lim.fresh _ hsb, ?_⟩) S.kind)
  show codeAny _ _ (.func F.body (envF F f s.heap.objs.size)) _ _
  refine codeAny_func ?_
  have kp : ∀ b o, s.heap.get? b = some o → h₁.get? b = some o := fun b o e => hsb.extBut b o (Nat.ne_of_lt (Heap.lt_size e)) (Heap.get?_push_of_some _ e)
  obtain ⟨t, ht, hq⟩ := hbody A outer s (hr.deeper _) e0
  have I := inv_startN (CX := L2.CX W.P W.w) (E := fun cls d H' => (∀ c ∈ capt F.cl, H' c = none) → E cls d (mend H' H (capt F.cl))) (tk := s.toks + (ps.zip us).length) (f := f) S hr.r.hd e1 hl rv (C.cells e0.hok) hns kp
  refine wpAny_mono (ht.run [] _ (startF N vs (ws.map some)) _ _ I hq) (fun fl s' hs => ?_) fun e s' hs => wpAny_mono hs (fun _ s'' h => cx_mend e0.hok e0.frf CL (fun _ _ _ hn z => z hn) h) (fun _ s'' h => cx_mend e0.hok e0.frf CL (fun _ _ _ hn z => z hn) h)
  match fl, hs with
  | .ret u, ⟨v, σ', H', J, rv', q⟩ => exact ce_mend (Q' := fun v H' => (∀ c ∈ capt F.cl, H' c = none) → Q v (mend H' H (capt F.cl))) e0.hok e0.frf CL (fun _ _ hn z => z hn) ⟨v, H', J.os, J.bare, J.base, J.hok, rv', q⟩
  | .next, ⟨σ', H', J, q⟩ => exact ce_mend (Q' := fun v H' => (∀ c ∈ capt F.cl, H' c = none) → Q v (mend H' H (capt F.cl))) e0.hok e0.frf CL (fun _ _ hn z => z hn) ⟨V.non, H', J.os, J.bare, J.base, J.hok, rfl, q⟩
  | .brk, ⟨_, _, _, q⟩ => exact False.elim q
  | .cont, ⟨_, _, _, q⟩ => exact False.elim q
end
end G
namespace G
open PySem PySem.Spec PyProof.Rows L2 NdefX LamX
/-! ### values as trees -/
inductive D where
  | non | bl (b : Bool) | int (i : Int) | str (x : Str) | ty (n : String) | ref (a : Addr) | tup (xs : List D)
mutual
def RelD (H : Hp) : D → V → Prop
  | .non, v => v = .non
  | .bl b, v => v = .bl b
  | .int i, v => v = .int i
  | .str x, v => v = .str x
  | .ty n, v => v = .ty n
  | .ref a, v => v = .ref a
  | .tup ds, v => ∃ a vs, v = .ref a ∧ H a = some (.tup vs) ∧ RelDs H ds vs
def RelDs (H : Hp) : List D → List V → Prop
  | [], vs => vs = []
  | d :: ds, vs => ∃ v r, vs = v :: r ∧ RelD H d v ∧ RelDs H ds r
end
/-- what never changes: tuples, code objects -/
def Kept (u : HO) : Prop := (∃ vs, u = .tup vs) ∨ ∃ c q, u = CodeO c q
def NK (H : Hp) (a : Addr) : Prop := ∀ u, H a = some u → ¬ Kept u
def Tx (H H' : Hp) : Prop := ∀ a u, Kept u → H a = some u → H' a = some u
theorem Tx.tup {H H' : Hp} (t : Tx H H') (a : Addr) (vs : List V) (e : H a = some (.tup vs)) : H' a = some (.tup vs) := t a _ (.inl ⟨vs, rfl⟩) e
theorem Tx.code {H H' : Hp} (t : Tx H H') {a c : Addr} {q : Str} (e : H a = some (CodeO c q)) : H' a = some (CodeO c q) := t a _ (.inr ⟨c, q, rfl⟩) e
theorem Tx.refl (H : Hp) : Tx H H := fun _ _ _ e => e
theorem Tx.trans {H H1 H2 : Hp} (x : Tx H H1) (y : Tx H1 H2) : Tx H H2 := fun a u k e => y a u k (x a u k e)
theorem Tx.upd {H : Hp} {a : Addr} {o : HO} (n : NK H a) : Tx H (upd H a o) := fun b u k e => by
  rw [upd_ne (fun z => n u (by rw [← z]; exact e) k)]
  exact e
theorem NK.none {H : Hp} {a : Addr} (n : H a = none) : NK H a := fun u e => by rw [n] at e; cases e
theorem NK.of {H : Hp} {a : Addr} {o : HO} (h : H a = some o) (n1 : ∀ vs, o ≠ .tup vs) (n2 : ∀ φ, o ≠ .ext φ) : NK H a := fun u e k => by
  rw [h] at e
  cases e
  rcases k with ⟨vs, z⟩ | ⟨c, q, z⟩
  · exact n1 vs z
  · unfold CodeO at z
    exact n2 _ z
theorem Tx.new {H : Hp} {a : Addr} {o : HO} (n : H a = none) : Tx H (L2.upd H a o) := Tx.upd (NK.none n)
mutual
theorem RelD.tx {H H' : Hp} (t : Tx H H') : ∀ {d : D} {v : V}, RelD H d v → RelD H' d v
  | .non, v, h => h
  | .bl b, v, h => h
  | .int i, v, h => h
  | .str x, v, h => h
  | .ty n, v, h => h
  | .ref a, v, h => h
  | .tup ds, v, h => by
    obtain ⟨a, vs, e, h1, h2⟩ := (show ∃ a vs, v = .ref a ∧ H a = some (.tup vs) ∧ RelDs H ds vs by simpa only [RelD] using h)
    simp only [RelD]
    exact ⟨a, vs, e, t.tup a vs h1, RelDs.tx t h2⟩
theorem RelDs.tx {H H' : Hp} (t : Tx H H') : ∀ {ds : List D} {vs : List V}, RelDs H ds vs → RelDs H' ds vs
  | [], vs, h => by
    simp only [RelDs] at h ⊢
    exact h
  | d :: ds, vs, h => by
    simp only [RelDs] at h ⊢
    obtain ⟨v, r, e, h1, h2⟩ := h
    exact ⟨v, r, e, RelD.tx t h1, RelDs.tx t h2⟩
end
theorem relDs_iff {H : Hp} : ∀ {ds : List D} {vs : List V}, RelDs H ds vs ↔ Paired (RelD H) ds vs
  | [], vs => by
    simp only [RelDs]
    constructor
    · intro e; subst e; exact .nil
    · intro h; cases h; rfl
  | d :: ds, vs => by
    simp only [RelDs]
    constructor
    · rintro ⟨v, r, e, h1, h2⟩; subst e; exact .cons h1 (relDs_iff.mp h2)
    · intro h
      cases h with
      | cons a b => exact ⟨_, _, rfl, a, relDs_iff.mpr b⟩
theorem RelDs.nil {H : Hp} : RelDs H [] [] := by simp only [RelDs]
theorem RelDs.cons {H : Hp} {d : D} {v : V} {ds : List D} {vs : List V} (h1 : RelD H d v) (h2 : RelDs H ds vs) : RelDs H (d :: ds) (v :: vs) := by
  simp only [RelDs]
  exact ⟨v, vs, rfl, h1, h2⟩
theorem RelDs.length {H : Hp} {ds : List D} {vs : List V} (h : RelDs H ds vs) : ds.length = vs.length := (relDs_iff.mp h).length
theorem RelDs.inv {H : Hp} {d : D} {ds : List D} {vs : List V} (h : RelDs H (d :: ds) vs) : ∃ v r, vs = v :: r ∧ RelD H d v ∧ RelDs H ds r := by simpa only [RelDs] using h
theorem RelDs.inv0 {H : Hp} {vs : List V} (h : RelDs H [] vs) : vs = [] := by simpa only [RelDs] using h
theorem paired_get {α β : Type} {F : α → β → Prop} : ∀ {xs : List α} {ys : List β} {i : Nat} {x : α}, Paired F xs ys → xs[i]? = some x → ∃ y, ys[i]? = some y ∧ F x y
  | _, _, _, _, .nil, e => by simp at e
  | _, _, 0, _, .cons r _, e => by simp at e; subst e; exact ⟨_, rfl, r⟩
  | _, _, i + 1, x, .cons _ t, e => by
    obtain ⟨u, h1, h2⟩ := paired_get (i := i) (x := x) t (by simpa using e)
    exact ⟨u, by simpa using h1, h2⟩
theorem paired_app {α β : Type} {F : α → β → Prop} : ∀ {xs xs' : List α} {ys ys' : List β}, Paired F xs ys → Paired F xs' ys' → Paired F (xs ++ xs') (ys ++ ys')
  | _, _, _, _, .nil, s => s
  | _, _, _, _, .cons r t, s => .cons r (paired_app t s)
theorem paired_take {α β : Type} {F : α → β → Prop} : ∀ {xs : List α} {ys : List β} (n : Nat), Paired F xs ys → Paired F (xs.take n) (ys.take n)
  | _, _, 0, _ => .nil
  | _, _, _ + 1, .nil => .nil
  | _, _, n + 1, .cons r t => .cons r (paired_take n t)
theorem paired_drop {α β : Type} {F : α → β → Prop} : ∀ {xs : List α} {ys : List β} (n : Nat), Paired F xs ys → Paired F (xs.drop n) (ys.drop n)
  | _, _, 0, r => r
  | _, _, _ + 1, .nil => .nil
  | _, _, n + 1, .cons _ t => paired_drop n t
theorem paired_set {α β : Type} {F : α → β → Prop} {x : α} {y : β} (r : F x y) : ∀ {xs : List α} {ys : List β} (i : Nat), Paired F xs ys → Paired F (xs.set i x) (ys.set i y)
  | _, _, _, .nil => .nil
  | _, _, 0, .cons _ t => .cons r t
  | _, _, i + 1, .cons q t => .cons q (paired_set r i t)
theorem paired_mono {α β : Type} {F F' : α → β → Prop} (h : ∀ a b, F a b → F' a b) : ∀ {xs : List α} {ys : List β}, Paired F xs ys → Paired F' xs ys
  | _, _, .nil => .nil
  | _, _, .cons r t => .cons (h _ _ r) (paired_mono h t)
theorem paired_rev {α β : Type} {F : α → β → Prop} : ∀ {xs : List α} {ys : List β}, Paired F xs ys → Paired F xs.reverse ys.reverse
  | _, _, .nil => .nil
  | _, _, .cons r t => by
    rw [List.reverse_cons, List.reverse_cons]
    exact paired_app (paired_rev t) (.cons r .nil)
theorem RelDs.get {H : Hp} {ds : List D} {vs : List V} {i : Nat} {d : D} (h : RelDs H ds vs) (e : ds[i]? = some d) : ∃ v, vs[i]? = some v ∧ RelD H d v := paired_get (relDs_iff.mp h) e
theorem RelDs.app {H : Hp} {ds es : List D} {vs us : List V} (h : RelDs H ds vs) (h' : RelDs H es us) : RelDs H (ds ++ es) (vs ++ us) := relDs_iff.mpr (paired_app (relDs_iff.mp h) (relDs_iff.mp h'))
theorem RelDs.take {H : Hp} {ds : List D} {vs : List V} (n : Nat) (h : RelDs H ds vs) : RelDs H (ds.take n) (vs.take n) := relDs_iff.mpr (paired_take n (relDs_iff.mp h))
theorem RelDs.drop {H : Hp} {ds : List D} {vs : List V} (n : Nat) (h : RelDs H ds vs) : RelDs H (ds.drop n) (vs.drop n) := relDs_iff.mpr (paired_drop n (relDs_iff.mp h))
theorem RelDs.set {H : Hp} {ds : List D} {vs : List V} {d : D} {v : V} (n : Nat) (h : RelDs H ds vs) (r : RelD H d v) : RelDs H (ds.set n d) (vs.set n v) := relDs_iff.mpr (paired_set r n (relDs_iff.mp h))
theorem RelDs.rev {H : Hp} {ds : List D} {vs : List V} (h : RelDs H ds vs) : RelDs H ds.reverse vs.reverse := relDs_iff.mpr (paired_rev (relDs_iff.mp h))
theorem RelDs.snoc {H : Hp} {ds : List D} {vs : List V} {d : D} {v : V} (h : RelDs H ds vs) (r : RelD H d v) : RelDs H (ds ++ [d]) (vs ++ [v]) := h.app (.cons r .nil)
theorem rel_non {H : Hp} {v : V} : RelD H .non v ↔ v = .non := by simp only [RelD]
theorem rel_int {H : Hp} {i : Int} {v : V} : RelD H (.int i) v ↔ v = .int i := by simp only [RelD]
theorem rel_bl {H : Hp} {i : Bool} {v : V} : RelD H (.bl i) v ↔ v = .bl i := by simp only [RelD]
theorem rel_str {H : Hp} {i : Str} {v : V} : RelD H (.str i) v ↔ v = .str i := by simp only [RelD]
theorem rel_ty {H : Hp} {i : String} {v : V} : RelD H (.ty i) v ↔ v = .ty i := by simp only [RelD]
theorem rel_ref {H : Hp} {i : Addr} {v : V} : RelD H (.ref i) v ↔ v = .ref i := by simp only [RelD]
theorem rel_tup {H : Hp} {ds : List D} {v : V} : RelD H (.tup ds) v ↔ ∃ a vs, v = .ref a ∧ H a = some (.tup vs) ∧ RelDs H ds vs := by simp only [RelD]
theorem rel_new {H : Hp} {ds : List D} {vs : List V} {a : Addr} (n : H a = none) (h : RelDs H ds vs) : RelD (upd H a (.tup vs)) (.tup ds) (.ref a) := rel_tup.mpr ⟨a, vs, rfl, upd_same, h.tx (Tx.new n)⟩
/-! ### the heap of what may change -/
/-- a lambda's words, the cells that it captured, its code object -/
structure LF where
  qual : Str
  params : Arguments
  body : Expr
  scope : Scope
  cl : List (Str × Addr)
  c : Addr
def LamO (f : Addr) (F : LF) : HO := .ext fun h => ∃ (pm ctv : Value), h.get? f = some (PySem.W.kla_obj "<lambda>" F.qual F.params F.body F.scope F.cl pm F.c ctv)
inductive O where
  | lst (xs : List D) | kl (xs : List D) | dk (kvs : List (Key × D)) | dt (kvs : List (List Key × D)) | ins (C dx : Addr) (fs : List (Str × D)) | xd (fs : List (Str × D)) | fn (F : NF) | lm (F : LF) | tab (nm : Nat → Nat → Str) | cel (d : D)
abbrev M := Addr → Option O
def put (m : M) (a : Addr) (o : O) : M := fun b => if b = a then some o else m b
theorem put_same {m : M} {a : Addr} {o : O} : put m a o a = some o := by unfold put; rw [if_pos rfl]
theorem put_ne {m : M} {a b : Addr} {o : O} (h : b ≠ a) : put m a o b = m b := by unfold put; rw [if_neg h]
theorem put_put {m : M} {a : Addr} {o u : O} : put (put m a o) a u = put m a u := by
  funext b; unfold put; split <;> rfl
def PK {κ : Type} (H : Hp) : List (κ × D) → List (κ × V) → Prop := Paired fun p q => p.1 = q.1 ∧ RelD H p.2 q.2
theorem PK.tx {κ : Type} {H H' : Hp} {xs : List (κ × D)} {ys : List (κ × V)} (t : Tx H H') (h : PK H xs ys) : PK H' xs ys := paired_mono (fun _ _ ⟨e, r⟩ => ⟨e, r.tx t⟩) h
theorem PK.lookup {H : Hp} : ∀ {xs : List (Str × D)} {ys : List (Str × V)} (f : Str), PK H xs ys → (∀ d, xs.lookup f = some d → ∃ v, ys.lookup f = some v ∧ RelD H d v) ∧ (xs.lookup f = none → ys.lookup f = none)
  | _, _, f, .nil => ⟨fun d e => by simp at e, fun _ => rfl⟩
  | (k, d) :: xs, (k', v) :: ys, f, .cons ⟨e, r⟩ t => by
    cases (show k = k' from e)
    obtain ⟨h1, h2⟩ := PK.lookup f t
    simp only [List.lookup_cons]
    cases f == k with
    | true => exact ⟨fun d' e' => by cases e'; exact ⟨v, rfl, r⟩, fun e' => by cases e'⟩
    | false => exact ⟨h1, h2⟩
def OOk (H : Hp) (a : Addr) : O → Prop
  | .lst xs => ∃ vs, H a = some (.lst vs) ∧ RelDs H xs vs
  | .kl xs => ∃ o vs, H a = some (.frz o (.lst vs)) ∧ RelDs H xs vs
  | .dk kvs => ∃ ws, H a = some (.dK ws) ∧ PK H kvs ws
  | .dt kvs => ∃ ws, H a = some (.dT ws) ∧ PK H kvs ws
  | .ins C dx fs => ∃ ws, H a = some (.ins C dx ws) ∧ PK H fs ws
  | .xd fs => ∃ ws, H a = some (.xd ws) ∧ PK H fs ws
  | .fn F => H a = some (FnO a F) ∧ H F.c = some (CodeO F.c F.qual)
  | .lm F => H a = some (LamO a F) ∧ H F.c = some (CodeO F.c F.qual)
  | .tab nm => TabN H a nm
  | .cel d => ∃ v, CellAt H a v ∧ RelD H d v
def Sm (m : M) (H : Hp) : Prop := ∀ a o, m a = some o → OOk H a o
theorem OOk.ex {H : Hp} {a : Addr} : ∀ {o : O}, OOk H a o → ∃ u, H a = some u
  | .lst xs, ⟨vs, e, _⟩ => ⟨_, e⟩
  | .kl xs, ⟨o, vs, e, _⟩ => ⟨_, e⟩
  | .dk _, ⟨_, e, _⟩ => ⟨_, e⟩
  | .dt _, ⟨_, e, _⟩ => ⟨_, e⟩
  | .ins _ _ _, ⟨_, e, _⟩ => ⟨_, e⟩
  | .xd _, ⟨_, e, _⟩ => ⟨_, e⟩
  | .fn F, ⟨e, _⟩ => ⟨_, e⟩
  | .lm F, ⟨e, _⟩ => ⟨_, e⟩
  | .tab nm, ⟨ps, e, _⟩ => ⟨_, e⟩
  | .cel d, ⟨v, ⟨o, u, e, _⟩, _⟩ => ⟨_, e⟩
theorem OOk.tx {H H' : Hp} {a : Addr} (t : Tx H H') (e : H' a = H a) : ∀ {o : O}, OOk H a o → OOk H' a o
  | .lst xs, ⟨vs, h, r⟩ => ⟨vs, e.trans h, r.tx t⟩
  | .kl xs, ⟨o, vs, h, r⟩ => ⟨o, vs, e.trans h, r.tx t⟩
  | .dk _, ⟨vs, h, r⟩ => ⟨vs, e.trans h, r.tx t⟩
  | .dt _, ⟨vs, h, r⟩ => ⟨vs, e.trans h, r.tx t⟩
  | .ins _ _ _, ⟨vs, h, r⟩ => ⟨vs, e.trans h, r.tx t⟩
  | .xd _, ⟨vs, h, r⟩ => ⟨vs, e.trans h, r.tx t⟩
  | .fn F, ⟨h, r⟩ => ⟨e.trans h, t.code r⟩
  | .lm F, ⟨h, r⟩ => ⟨e.trans h, t.code r⟩
  | .tab nm, ⟨ps, h, r, k⟩ => ⟨ps, e.trans h, r, fun pos cv hc => by
    obtain ⟨c, e1, e2⟩ := k pos cv hc
    exact ⟨c, e1, t.code e2⟩⟩
  | .cel d, ⟨v, ⟨o, u, h, q⟩, r⟩ => ⟨v, ⟨o, u, e.trans h, q⟩, r.tx t⟩
theorem Sm.nil {m : M} {H : Hp} {a : Addr} (s : Sm m H) (n : H a = none) : m a = none := by
  cases e : m a with
  | none => rfl
  | some o =>
    obtain ⟨u, h⟩ := (s a o e).ex
    rw [n] at h
    cases h
theorem Sm.other {m : M} {H : Hp} {a : Addr} {u : HO} (s : Sm m H) (nk : NK H a) : ∀ b o, b ≠ a → m b = some o → OOk (upd H a u) b o := fun b o hb e => (s b o e).tx (Tx.upd nk) (upd_ne hb)
theorem Sm.upd {m : M} {H : Hp} {a : Addr} {u : HO} {o : O} (s : Sm m H) (nk : NK H a) (ok : OOk (upd H a u) a o) : Sm (put m a o) (upd H a u) := fun b o' e => by
  by_cases hb : b = a
  · subst hb
    rw [put_same] at e
    cases e
    exact ok
  · rw [put_ne hb] at e
    exact s.other nk b o' hb e
theorem Sm.new {m : M} {H : Hp} {a : Addr} {u : HO} {o : O} (s : Sm m H) (n : H a = none) (ok : OOk (L2.upd H a u) a o) : Sm (put m a o) (L2.upd H a u) := s.upd (NK.none n) ok
/-- a new thing that is not tracked -/
theorem Sm.skip {m : M} {H : Hp} {a : Addr} {u : HO} (s : Sm m H) (n : H a = none) : Sm m (L2.upd H a u) := fun b o e => s.other (NK.none n) b o (fun z => by rw [z, s.nil n] at e; cases e) e
/-- fewer things -/
def Sub (m m' : M) : Prop := ∀ a o, m a = some o → m' a = some o
theorem Sub.refl (m : M) : Sub m m := fun _ _ e => e
theorem Sub.trans {m m1 m2 : M} (x : Sub m m1) (y : Sub m1 m2) : Sub m m2 := fun a o e => y a o (x a o e)
theorem Sub.put {m m' : M} {a : Addr} {o : O} (x : Sub m m') : Sub (put m a o) (put m' a o) := fun b u e => by
  by_cases hb : b = a
  · subst hb; rw [put_same] at e ⊢; exact e
  · rw [put_ne hb] at e ⊢; exact x b u e
theorem Sub.skip {m m' : M} {a : Addr} {o : O} (x : Sub m m') (n : m a = none) : Sub m (G.put m' a o) := fun b u e => by
  rw [put_ne (fun z => by rw [z, n] at e; cases e)]
  exact x b u e
theorem Sm.sub {m m' : M} {H : Hp} (s : Sm m' H) (x : Sub m m') : Sm m H := fun a o e => s a o (x a o e)
/-! ### transformers, lifted -/
abbrev DK := D → M → Prop
abbrev DSt := List (Option D)
abbrev DTE := DSt → M → DK → Prop
abbrev DTT := DSt → M → (Bool → M → Prop) → Prop
abbrev DTA := DSt → M → (List D → M → Prop) → Prop
abbrev DXK := Value → Option Addr → M → Prop
structure DEnds where
  nx : DSt → M → Prop
  rt : DK
  bk : DSt → M → Prop := fun _ _ => False
  ct : DSt → M → Prop := fun _ _ => False
abbrev DTS := DEnds → DSt → M → Prop
abbrev DSp := List D → M → DK → DXK → Prop
def RelOD (H : Hp) : Option D → Option V → Prop
  | none, _ => True
  | some d, o => ∃ v, o = some v ∧ RelD H d v
def RelSt (H : Hp) (δ : DSt) (σ : L2.St) : Prop := Paired (RelOD H) δ σ
theorem RelOD.tx {H H' : Hp} (t : Tx H H') : ∀ {d : Option D} {o : Option V}, RelOD H d o → RelOD H' d o
  | none, _, _ => trivial
  | some d, o, ⟨v, e, r⟩ => ⟨v, e, r.tx t⟩
theorem RelSt.tx {H H' : Hp} {δ : DSt} {σ : L2.St} (t : Tx H H') (r : RelSt H δ σ) : RelSt H' δ σ := paired_mono (fun _ _ => RelOD.tx t) r
theorem RelSt.get {H : Hp} {δ : DSt} {σ : L2.St} {i : Nat} {d : D} (r : RelSt H δ σ) (e : δ[i]? = some (some d)) : ∃ v, σ[i]? = some (some v) ∧ RelD H d v := by
  obtain ⟨o, h1, v, h2, h3⟩ := paired_get r e
  exact ⟨v, by rw [h1, h2], h3⟩
theorem RelSt.set {H : Hp} {δ : DSt} {σ : L2.St} {d : D} {v : V} (i : Nat) (r : RelSt H δ σ) (h : RelD H d v) : RelSt H (δ.set i (some d)) (σ.set i (some v)) := paired_set ⟨v, rfl, h⟩ i r
def Le (Q' : DK) (H : Hp) (Q : VK) : Prop := ∀ d m' v H', Q' d m' → Tx H H' → RelD H' d v → Sm m' H' → Q v H'
def LeB (Q' : Bool → M → Prop) (H : Hp) (Q : Bool → Hp → Prop) : Prop := ∀ b m' H', Q' b m' → Tx H H' → Sm m' H' → Q b H'
def LeA (Q' : List D → M → Prop) (H : Hp) (Q : List V → Hp → Prop) : Prop := ∀ d m' v H', Q' d m' → Tx H H' → RelDs H' d v → Sm m' H' → Q v H'
def LeX (E' : DXK) (H : Hp) (E : XK) : Prop := ∀ cls d m' H', E' cls d m' → Tx H H' → Sm m' H' → E cls d H'
def LeS (N' : DSt → M → Prop) (H : Hp) (N : L2.St → Hp → Prop) : Prop := ∀ δ m' σ H', N' δ m' → Tx H H' → RelSt H' δ σ → Sm m' H' → N σ H'
structure LeD (D' : DEnds) (H : Hp) (D : Ends) : Prop where
  nx : LeS D'.nx H D.nx
  rt : Le D'.rt H D.rt
  bk : LeS D'.bk H D.bk
  ct : LeS D'.ct H D.ct
theorem Le.tx {Q' : DK} {H H1 : Hp} {Q : VK} (t : Tx H H1) (h : Le Q' H Q) : Le Q' H1 Q := fun d m' v H' q t' => h d m' v H' q (t.trans t')
theorem LeB.tx {Q' : Bool → M → Prop} {H H1 : Hp} {Q : Bool → Hp → Prop} (t : Tx H H1) (h : LeB Q' H Q) : LeB Q' H1 Q := fun d m' H' q t' => h d m' H' q (t.trans t')
theorem LeA.tx {Q' : List D → M → Prop} {H H1 : Hp} {Q : List V → Hp → Prop} (t : Tx H H1) (h : LeA Q' H Q) : LeA Q' H1 Q := fun d m' v H' q t' => h d m' v H' q (t.trans t')
theorem LeX.tx {E' : DXK} {H H1 : Hp} {E : XK} (t : Tx H H1) (h : LeX E' H E) : LeX E' H1 E := fun c d m' H' q t' => h c d m' H' q (t.trans t')
theorem LeS.tx {Q' : DSt → M → Prop} {H H1 : Hp} {Q : L2.St → Hp → Prop} (t : Tx H H1) (h : LeS Q' H Q) : LeS Q' H1 Q := fun d m' v H' q t' => h d m' v H' q (t.trans t')
theorem LeD.tx {Q' : DEnds} {H H1 : Hp} {Q : Ends} (t : Tx H H1) (h : LeD Q' H Q) : LeD Q' H1 Q := ⟨h.nx.tx t, h.rt.tx t, h.bk.tx t, h.ct.tx t⟩
def up (T0 : Hp) (t : DTE) : TE := fun σ H Q => Tx T0 H ∧ ∃ δ m Q', RelSt H δ σ ∧ Sm m H ∧ t δ m Q' ∧ Le Q' H Q
def upT (T0 : Hp) (t : DTT) : TT := fun σ H Q => Tx T0 H ∧ ∃ δ m Q', RelSt H δ σ ∧ Sm m H ∧ t δ m Q' ∧ LeB Q' H Q
def upA (T0 : Hp) (t : DTA) : TA := fun σ H Q => Tx T0 H ∧ ∃ δ m Q', RelSt H δ σ ∧ Sm m H ∧ t δ m Q' ∧ LeA Q' H Q
def upS (T0 : Hp) (t : DTS) : TS := fun D σ H => Tx T0 H ∧ ∃ δ m D', RelSt H δ σ ∧ Sm m H ∧ t D' δ m ∧ LeD D' H D
def upSp (sp : DSp) : Sp := fun vs H Q E => ∃ ds m Q' E', RelDs H ds vs ∧ Sm m H ∧ sp ds m Q' E' ∧ Le Q' H Q ∧ LeX E' H E
abbrev DR2 := D → D → M → DK → Prop
def upR (T0 : Hp) (r : DR2) : R2 := fun x y H Q => Tx T0 H ∧ ∃ d e m Q', RelD H d x ∧ RelD H e y ∧ Sm m H ∧ r d e m Q' ∧ Le Q' H Q
def upR1 (T0 : Hp) (r : D → M → DK → Prop) : V → Hp → VK → Prop := fun x H Q => Tx T0 H ∧ ∃ d m Q', RelD H d x ∧ Sm m H ∧ r d m Q' ∧ Le Q' H Q
def upC (T0 : Hp) (r : List D → M → DK → Prop) : List V → Hp → VK → Prop := fun xs H Q => Tx T0 H ∧ ∃ ds m Q', RelDs H ds xs ∧ Sm m H ∧ r ds m Q' ∧ Le Q' H Q
def upM (T0 : Hp) (r : D → List D → M → DK → Prop) : V → List V → Hp → VK → Prop := fun x xs H Q => Tx T0 H ∧ ∃ d ds m Q', RelD H d x ∧ RelDs H ds xs ∧ Sm m H ∧ r d ds m Q' ∧ Le Q' H Q
abbrev DE (T0 : Hp) (X : Cx) (e : Expr) (t : DTE) : Prop := PE X e (up T0 t)
abbrev DT (T0 : Hp) (X : Cx) (e : Expr) (t : DTT) : Prop := PT X e (upT T0 t)
abbrev DW (T0 : Hp) (X : Cx) (e : Expr) (t : DTT) : Prop := PW X e (upT T0 t)
abbrev DA (T0 : Hp) (X : Cx) (es : List Expr) (t : DTA) : Prop := PA X es (upA T0 t)
abbrev DS (T0 : Hp) (X : Cx) (st : Stmt) (t : DTS) : Prop := PS X st (upS T0 t)
abbrev DSs (T0 : Hp) (X : Cx) (st : List Stmt) (t : DTS) : Prop := PSs X st (upS T0 t)
section
variable {T0 : Hp} {X : Cx} {e : Expr} {es : List Expr} {st : Stmt} {sts : List Stmt}
theorem pe_imp {t t' : TE} (h : PE X e t) (i : ∀ σ H Q, t' σ H Q → t σ H Q) : PE X e t' := ⟨fun pins s σ H Q I q => h.run pins s σ H Q I (i σ H Q q)⟩
theorem pt_imp {t t' : TT} (h : PT X e t) (i : ∀ σ H Q, t' σ H Q → t σ H Q) : PT X e t' := ⟨fun pins s σ H Q I q => h.run pins s σ H Q I (i σ H Q q)⟩
theorem pw_imp {t t' : TT} (h : PW X e t) (i : ∀ σ H Q, t' σ H Q → t σ H Q) : PW X e t' := ⟨fun w pins s σ H Q I q => h.run w pins s σ H Q I (i σ H Q q)⟩
theorem pa_imp {t t' : TA} (h : PA X es t) (i : ∀ σ H Q, t' σ H Q → t σ H Q) : PA X es t' := ⟨fun pos pins s σ H Q I q => h.run pos pins s σ H Q I (i σ H Q q)⟩
theorem ps_imp {t t' : TS} (h : PS X st t) (i : ∀ D σ H, t' D σ H → t D σ H) : PS X st t' := ⟨fun pins s σ H D I q => h.run pins s σ H D I (i D σ H q)⟩
theorem pss_imp {t t' : TS} (h : PSs X sts t) (i : ∀ D σ H, t' D σ H → t D σ H) : PSs X sts t' := ⟨fun pins s σ H D I q => h.run pins s σ H D I (i D σ H q)⟩
end
end G
namespace G
open PySem PySem.Spec PyProof.Rows L2 NdefX LamX
/-! ### expressions -/
def dVar (i : Nat) : DTE := fun δ m Q => ∃ d, δ[i]? = some (some d) ∧ Q d m
def dC (d : D) : DTE := fun _ m Q => Q d m
def dOp (r : DR2) (ta tb : DTE) : DTE := fun δ m Q => ta δ m fun x m1 => tb δ m1 fun y m2 => r x y m2 Q
def dUn (r : D → M → DK → Prop) (ta : DTE) : DTE := fun δ m Q => ta δ m fun x m1 => r x m1 Q
def dNil : DTA := fun _ m Q => Q [] m
def dCons (ta : DTE) (t : DTA) : DTA := fun δ m Q => ta δ m fun x m1 => t δ m1 fun xs m2 => Q (x :: xs) m2
def dTup (t : DTA) : DTE := fun δ m Q => t δ m fun xs m1 => xs.length ≤ sizeLine ∧ Q (.tup xs) m1
def dLst (t : DTA) : DTE := fun δ m Q => t δ m fun xs m1 => xs.length ≤ sizeLine ∧ ∀ p, m1 p = none → Q (.ref p) (put m1 p (.lst xs))
def dFld (K : PySem.W.Frag) (ta : DTE) (f : Str) : DTE := fun δ m Q => ta δ m fun x m1 => ∃ a C dx fs v, x = .ref a ∧ m1 a = some (.ins C dx fs) ∧ Cls K C ∧ NoAttr K C f ∧ fs.lookup f = some v ∧ Q v m1
section
variable {T0 : Hp} {X : Cx} {a b c e : Expr} {es : List Expr} {ta tb tc te : DTE} {t : DTA} {pos : Pos}
theorem de_var {i : Nat} {x : Str} (hN : X.N[i]? = some x) (hv : Vis X.env.scope x) (hd : (x == ("__debug__" : Str)) = false := by decide) (hcd : (x == ("__classdict__" : Str)) = false := by decide) : DE T0 X (.Name x pos) (dVar i) :=
  pe_imp (pe_var hN hv hd hcd) fun σ H Q ⟨tx, δ, m, Q', rs, sm, ⟨d, e, q⟩, le⟩ => by
    obtain ⟨v, ev, rv⟩ := rs.get e
    exact ⟨v, ev, le d m v H q (Tx.refl H) rv sm⟩
theorem de_int {i : Int} {k : Nat} {t} (h : PE X (.Constant t k pos) (tC (.int i))) : DE T0 X (.Constant t k pos) (dC (.int i)) := pe_imp h fun σ H Q ⟨tx, δ, m, Q', rs, sm, q, le⟩ => le _ m _ H q (Tx.refl H) (rel_int.mpr rfl) sm
theorem de_of {d : D} {v : V} (r : ∀ H, RelD H d v) (h : PE X e (fun _ H Q => Q v H)) : DE T0 X e (dC d) := pe_imp h fun σ H Q ⟨tx, δ, m, Q', rs, sm, q, le⟩ => le _ m _ H q (Tx.refl H) (r H) sm
theorem de_op {op : Operator} {r : DR2} (ho : OpR X (binaryOp op) (upR T0 r)) (ha : DE T0 X a ta) (hb : DE T0 X b tb) : DE T0 X (.BinOp a op b pos) (dOp r ta tb) :=
  pe_imp (pe_op ho ha hb) fun σ H Q ⟨tx, δ, m, Q', rs, sm, h, le⟩ => ⟨tx, δ, m, _, rs, sm, h, fun d m1 v H1 h1 t1 r1 s1 => ⟨tx.trans t1, δ, m1, _, rs.tx t1, s1, h1, fun d2 m2 v2 H2 h2 t2 r2 s2 => ⟨(tx.trans t1).trans t2, d, d2, m2, Q', r1.tx t2, r2, s2, h2, le.tx (t1.trans t2)⟩⟩⟩
theorem de_un {op : UnaryOp} {r : D → M → DK → Prop} (ho : UnR X (unaryOp op) (upR1 T0 r)) (ha : DE T0 X a ta) : DE T0 X (.UnaryOp op a pos) (dUn r ta) :=
  pe_imp (pe_un ho ha) fun σ H Q ⟨tx, δ, m, Q', rs, sm, h, le⟩ => ⟨tx, δ, m, _, rs, sm, h, fun d m1 v H1 h1 t1 r1 s1 => ⟨tx.trans t1, d, m1, Q', r1, s1, h1, le.tx t1⟩⟩
theorem de_cmpR {op : CmpOp} {r : DR2} (ho : OpR X (compareOp op) (upR T0 r)) (ha : DE T0 X a ta) (hb : DE T0 X b tb) (hm : behindInMarks op b = false) : DE T0 X (.Compare a [op] [b] pos) (dOp r ta tb) :=
  pe_imp (pe_cmpR ho ha hb hm) fun σ H Q ⟨tx, δ, m, Q', rs, sm, h, le⟩ => ⟨tx, δ, m, _, rs, sm, h, fun d m1 v H1 h1 t1 r1 s1 => ⟨tx.trans t1, δ, m1, _, rs.tx t1, s1, h1, fun d2 m2 v2 H2 h2 t2 r2 s2 => ⟨(tx.trans t1).trans t2, d, d2, m2, Q', r1.tx t2, r2, s2, h2, le.tx (t1.trans t2)⟩⟩⟩
def dTest (te : DTE) : DTT := fun δ m Q => te δ m fun x m1 => ∃ b, x = .bl b ∧ Q b m1
theorem dt_cmpR {op : CmpOp} {r : DR2} (ho : OpR X (compareOp op) (upR T0 r)) (ha : DE T0 X a ta) (hb : DE T0 X b tb) (hm : behindInMarks op b = false) : DT T0 X (.Compare a [op] [b] pos) (dTest (dOp r ta tb)) :=
  pt_imp (pt_cmpR ho ha hb hm) fun σ H Q ⟨tx, δ, m, Q', rs, sm, h, le⟩ => ⟨tx, δ, m, _, rs, sm, h, fun d m1 v H1 h1 t1 r1 s1 => ⟨tx.trans t1, δ, m1, _, rs.tx t1, s1, h1, fun d2 m2 v2 H2 h2 t2 r2 s2 => ⟨(tx.trans t1).trans t2, d, d2, m2, _, r1.tx t2, r2, s2, h2, fun d3 m3 v3 H3 h3 t3 r3 s3 => by
    obtain ⟨b, e, q⟩ := h3
    subst e
    exact ⟨b, rel_bl.mp r3, le b m3 H3 q ((t1.trans t2).trans t3) s3⟩⟩⟩⟩
/-- a test by a bool value -/
theorem da_nil : DA T0 X [] dNil := pa_imp pa_nil fun σ H Q ⟨tx, δ, m, Q', rs, sm, q, le⟩ => le [] m [] H q (Tx.refl H) .nil sm
theorem da_cons (he : DE T0 X e te) (hr : DA T0 X es t) (hs : starEach (e :: es) X.env = (false, eval e X.env) :: starEach es X.env := by rfl) : DA T0 X (e :: es) (dCons te t) :=
  pa_imp (pa_cons he hr hs) fun σ H Q ⟨tx, δ, m, Q', rs, sm, h, le⟩ => ⟨tx, δ, m, _, rs, sm, h, fun d m1 v H1 h1 t1 r1 s1 => ⟨tx.trans t1, δ, m1, _, rs.tx t1, s1, h1, fun d2 m2 v2 H2 h2 t2 r2 s2 => le _ m2 _ H2 h2 (t1.trans t2) (.cons (r1.tx t2) r2) s2⟩⟩
theorem de_tup {x1} (h : DA T0 X es t) : DE T0 X (.Tuple es x1 pos) (dTup t) :=
  pe_imp (pe_tup h) fun σ H Q ⟨tx, δ, m, Q', rs, sm, h, le⟩ => ⟨tx, δ, m, _, rs, sm, h, fun d m1 v H1 ⟨hl, q⟩ t1 r1 s1 => ⟨by rw [← r1.length]; exact hl, fun p np => le _ m1 _ _ q (t1.trans (Tx.new np)) (rel_new np r1) (s1.skip np)⟩⟩
theorem de_lst (h : DA T0 X es t) : DE T0 X (.List es pos) (dLst t) :=
  pe_imp (pe_lst h) fun σ H Q ⟨tx, δ, m, Q', rs, sm, h, le⟩ => ⟨tx, δ, m, _, rs, sm, h, fun d m1 v H1 ⟨hl, q⟩ t1 r1 s1 => ⟨by rw [← r1.length]; exact hl, fun p np => le _ _ _ _ (q p (s1.nil np)) (t1.trans (Tx.new np)) (rel_ref.mpr rfl) (s1.new np ⟨v, upd_same, r1.tx (Tx.new np)⟩)⟩⟩
theorem de_fld {f : Str} (he : DE T0 X e te) (hb : attributeBase e f X.env (eval e X.env) = eval e X.env) : DE T0 X (.Attribute e f pos) (dFld X.K te f) :=
  pe_imp (pe_fld he hb) fun σ H Q ⟨tx, δ, m, Q', rs, sm, h, le⟩ => ⟨tx, δ, m, _, rs, sm, h, fun d m1 v H1 ⟨a, C, dx, fs, w, ex, ea, hc, hn, hl, q⟩ t1 r1 s1 => by
    subst ex
    cases rel_ref.mp r1
    obtain ⟨ws, e1, pk⟩ := s1 a _ ea
    obtain ⟨z, e2, r2⟩ := (pk.lookup f).1 w hl
    exact ⟨a, C, dx, ws, z, rfl, e1, hc, hn, e2, le w m1 z H1 q t1 r2 s1⟩⟩
end
/-! ### calls of built-ins, subscripts, methods of built-in types -/
abbrev DTO := DSt → M → (Option Int → M → Prop) → Prop
def LeO (Q' : Option Int → M → Prop) (H : Hp) (Q : Option Int → Hp → Prop) : Prop := ∀ o m' H', Q' o m' → Tx H H' → Sm m' H' → Q o H'
def upO (T0 : Hp) (t : DTO) : TO := fun σ H Q => Tx T0 H ∧ ∃ δ m Q', RelSt H δ σ ∧ Sm m H ∧ t δ m Q' ∧ LeO Q' H Q
def dONone : DTO := fun _ m Q => Q none m
def dOSome (te : DTE) : DTO := fun δ m Q => te δ m fun x m1 => ∃ i, x = .int i ∧ Q (some i) m1
abbrev DSlR := D → Option Int → Option Int → M → DK → Prop
def upSl (T0 : Hp) (r : DSlR) : V → Option Int → Option Int → Hp → VK → Prop := fun x lo hi H Q => Tx T0 H ∧ ∃ d m Q', RelD H d x ∧ Sm m H ∧ r d lo hi m Q' ∧ Le Q' H Q
def dSl (r : DSlR) (te : DTE) (tl th : DTO) : DTE := fun δ m Q => te δ m fun x m1 => tl δ m1 fun l m2 => th δ m2 fun u m3 => r x l u m3 Q
def dCallB (r : List D → M → DK → Prop) (t : DTA) : DTE := fun δ m Q => t δ m fun xs m1 => r xs m1 Q
section
variable {T0 : Hp} {X : Cx} {a b c e o : Expr} {es : List Expr} {ta tb tc te : DTE} {t : DTA} {pos p2 : Pos} {lo hi : Option Expr}
theorem do_none : PO X none (upO T0 dONone) := ⟨fun pins s σ H Q I ⟨tx, δ, m, Q', rs, sm, q, le⟩ => po_none.run pins s σ H Q I (le none m H q (Tx.refl H) sm)⟩
theorem do_some (he : DE T0 X e te) : PO X (some e) (upO T0 (dOSome te)) := ⟨fun pins s σ H Q I ⟨tx, δ, m, Q', rs, sm, h, le⟩ => (po_some he).run pins s σ H Q I ⟨tx, δ, m, _, rs, sm, h, fun d m1 v H1 ⟨i, ei, q⟩ t1 r1 s1 => by
  subst ei
  cases rel_int.mp r1
  exact ⟨i, rfl, le (some i) m1 H1 q t1 s1⟩⟩⟩
theorem de_slice {r : DSlR} (hr : SlR X (upSl T0 r)) (he : DE T0 X e te) {tl th : DTO} (hl : PO X lo (upO T0 tl)) (hu : PO X hi (upO T0 th)) : DE T0 X (.Subscript e (.Slice lo hi none p2) pos) (dSl r te tl th) :=
  pe_imp (pe_slice hr he hl hu) fun σ H Q ⟨tx, δ, m, Q', rs, sm, h, le⟩ => ⟨tx, δ, m, _, rs, sm, h, fun d m1 v H1 h1 t1 r1 s1 => ⟨tx.trans t1, δ, m1, _, rs.tx t1, s1, h1, fun o2 m2 H2 h2 t2 s2 => ⟨(tx.trans t1).trans t2, δ, m2, _, rs.tx (t1.trans t2), s2, h2, fun o3 m3 H3 h3 t3 s3 =>
    ⟨((tx.trans t1).trans t2).trans t3, d, m3, Q', r1.tx (t2.trans t3), s3, h3, le.tx ((t1.trans t2).trans t3)⟩⟩⟩⟩
theorem de_ix {r : DR2} (hr : IxR X (upR T0 r)) (ha : DE T0 X a ta) (hb : DE T0 X b tb) (hs : PlainIx b) : DE T0 X (.Subscript a b pos) (dOp r ta tb) :=
  pe_imp (pe_ix hr ha hb hs) fun σ H Q ⟨tx, δ, m, Q', rs, sm, h, le⟩ => ⟨tx, δ, m, _, rs, sm, h, fun d m1 v H1 h1 t1 r1 s1 => ⟨tx.trans t1, δ, m1, _, rs.tx t1, s1, h1, fun d2 m2 v2 H2 h2 t2 r2 s2 => ⟨(tx.trans t1).trans t2, d, d2, m2, Q', r1.tx t2, r2, s2, h2, le.tx (t1.trans t2)⟩⟩⟩
theorem callB_imp {σ : L2.St} {H : Hp} {Q : VK} {r : List D → M → DK → Prop} (h : up T0 (dCallB r t) σ H Q) : upA T0 t σ H (fun vs H1 => upC T0 r vs H1 Q) := by
  obtain ⟨tx, δ, m, Q', rs, sm, h, le⟩ := h
  exact ⟨tx, δ, m, _, rs, sm, h, fun d m1 v H1 h1 t1 r1 s1 => ⟨tx.trans t1, d, m1, Q', r1, s1, h1, le.tx t1⟩⟩
theorem de_callB {x : Str} {p : Pos} {id : String} {r : List D → M → DK → Prop} (hc : CallR X (.builtin id) (upC T0 r)) (hg : Gl X x) (hm : X.mg x = none) (hv : bootBuiltins x = some (.builtin id)) (ha : DA T0 X (e :: es) t) (hn : x ≠ "__name__" := by decide) (hdb : (x == ("__debug__" : Str)) = false := by decide)
    (he : starEach (e :: es) X.env = (false, eval e X.env) :: starEach es X.env := by rfl) (hpl : (backTo pos (starEach es X.env)).any (·.1) = false := by rfl) : DE T0 X (.Call (.Name x p) (e :: es) [] pos) (dCallB r t) :=
  pe_imp (pe_callB hc hg hm hv ha hn hdb he hpl) fun σ H Q h => callB_imp h
theorem de_callTy {x : Str} {p : Pos} {T : String} {r : List D → M → DK → Prop} (hc : CallR X (.type T) (upC T0 r)) (hg : Gl X x) (hm : X.mg x = none) (hv : bootBuiltins x = some (.type T)) (ha : DA T0 X (e :: es) t) (hn : x ≠ "__name__" := by decide) (hdb : (x == ("__debug__" : Str)) = false := by decide)
    (he : starEach (e :: es) X.env = (false, eval e X.env) :: starEach es X.env := by rfl) (hpl : (backTo pos (starEach es X.env)).any (·.1) = false := by rfl) : DE T0 X (.Call (.Name x p) (e :: es) [] pos) (dCallB r t) :=
  pe_imp (pe_callTy hc hg hm hv ha hn hdb he hpl) fun σ H Q h => callB_imp h
end
end G
namespace G
open PySem PySem.Spec PyProof.Rows L2 NdefX LamX
/-! ### tests -/
def dAnd (t u : DTT) : DTT := fun δ m Q => t δ m fun c m1 => if c = true then u δ m1 Q else Q false m1
def dOr (t u : DTT) : DTT := fun δ m Q => t δ m fun c m1 => if c = true then Q true m1 else u δ m1 Q
def dNot (t : DTT) : DTT := fun δ m Q => t δ m fun c m1 => Q (!c) m1
def dAndV (ta tb : DTE) : DTE := fun δ m Q => ta δ m fun x m1 => ∃ c, x = .bl c ∧ if c = true then tb δ m1 Q else Q (.bl false) m1
def dOrV (ta tb : DTE) : DTE := fun δ m Q => ta δ m fun x m1 => ∃ c, x = .bl c ∧ if c = true then Q (.bl true) m1 else tb δ m1 Q
def dNotV (ta : DTE) : DTE := fun δ m Q => ta δ m fun x m1 => ∃ c, x = .bl c ∧ Q (.bl (!c)) m1
def dIfE (t : DTT) (ta tb : DTE) : DTE := fun δ m Q => t δ m fun c m1 => if c = true then ta δ m1 Q else tb δ m1 Q
/-- a value's truth -/
def TruD (m : M) : D → Bool → Prop
  | .non, k => k = false
  | .bl b, k => k = b
  | .int i, k => k = (i != 0)
  | .str y, k => y.length ≤ sizeLine ∧ k = ((y.length : Int) != 0)
  | .tup xs, k => k = !xs.isEmpty
  | .ref a, k => (∃ xs, (m a = some (.lst xs) ∨ m a = some (.kl xs)) ∧ k = !xs.isEmpty) ∨ ∃ kvs, m a = some (.dk kvs) ∧ k = !kvs.isEmpty
  | .ty _, _ => False
def dTru (ta : DTE) : DTT := fun δ m Q => ta δ m fun x m1 => ∃ k, TruD m1 x k ∧ Q k m1
theorem emp_of {α β : Type} {F : α → β → Prop} {xs : List α} {ys : List β} (h : Paired F xs ys) : xs.isEmpty = ys.isEmpty := by cases h <;> rfl
theorem TruD.ok {K : PySem.W.Frag} {m : M} {H : Hp} {d : D} {v : V} {k : Bool} (s : Sm m H) (r : RelD H d v) (h : TruD m d k) : TruV K v H k := by
  cases d with
  | non => cases rel_non.mp r; exact h
  | bl b => cases rel_bl.mp r; exact h
  | int i => cases rel_int.mp r; exact h
  | str y => cases rel_str.mp r; exact h
  | ty n => exact (show False from h).elim
  | tup xs =>
    obtain ⟨a, vs, e, h1, h2⟩ := rel_tup.mp r
    subst e
    refine .inr (.inl ⟨vs, SqT.of h1, ?_⟩)
    rw [← emp_of (relDs_iff.mp h2)]
    exact h
  | ref a =>
    cases rel_ref.mp r
    rcases h with ⟨xs, h1 | h1, e⟩ | ⟨kvs, h1, e⟩
    · obtain ⟨vs, h2, h3⟩ := s a _ h1
      refine .inl ⟨vs, SqL.of h2, ?_⟩
      rw [← emp_of (relDs_iff.mp h3)]
      exact e
    · obtain ⟨o, vs, h2, h3⟩ := s a _ h1
      refine .inl ⟨vs, .inl (.inr ⟨o, h2⟩), ?_⟩
      rw [← emp_of (relDs_iff.mp h3)]
      exact e
    · obtain ⟨vs, h2, h3⟩ := s a _ h1
      refine .inr (.inr ⟨vs, h2, ?_⟩)
      rw [← emp_of h3]
      exact e
section
variable {T0 : Hp} {X : Cx} {a b c e : Expr} {rest : List Expr} {ta tb te : DTE} {tA tB' : DTT} {pos : Pos}
theorem dt_val (h : DE T0 X e te) (he : ∀ whole, isTrue e X.env whole = (do let v ← whole; standAt e.pos; holding [v] (truthy v)) := by intro _; rfl) : DT T0 X e (dTest te) :=
  pt_imp (pt_val h he) fun σ H Q ⟨tx, δ, m, Q', rs, sm, h, le⟩ => ⟨tx, δ, m, _, rs, sm, h, fun d m1 v H1 ⟨b, eb, q⟩ t1 r1 s1 => by
    subst eb
    exact ⟨b, rel_bl.mp r1, le b m1 H1 q t1 s1⟩⟩
theorem dt_truth (h : DE T0 X e te) (he : ∀ whole, isTrue e X.env whole = (do let v ← whole; standAt e.pos; holding [v] (truthy v)) := by intro _; rfl) : DT T0 X e (dTru te) :=
  pt_imp (pt_truth h he) fun σ H Q ⟨tx, δ, m, Q', rs, sm, h, le⟩ => ⟨tx, δ, m, _, rs, sm, h, fun d m1 v H1 ⟨k, hk, q⟩ t1 r1 s1 => ⟨k, hk.ok s1 r1, le k m1 H1 q t1 s1⟩⟩
theorem dw_and1 (ha : DT T0 X a tA) : DW T0 X (.BoolOp .And [a] pos) tA := pw_and1 ha
theorem dw_or1 (ha : DT T0 X a tA) : DW T0 X (.BoolOp .Or [a] pos) tA := pw_or1 ha
theorem dw_and (ha : DT T0 X a tA) (hb : DW T0 X (.BoolOp .And (b :: rest) pos) tB') : DW T0 X (.BoolOp .And (a :: b :: rest) pos) (dAnd tA tB') :=
  pw_imp (pw_and ha hb) fun σ H Q ⟨tx, δ, m, Q', rs, sm, h, le⟩ => ⟨tx, δ, m, _, rs, sm, h, fun k m1 H1 q t1 s1 => by
    cases k with
    | true => exact ⟨tx.trans t1, δ, m1, Q', rs.tx t1, s1, q, le.tx t1⟩
    | false => exact le false m1 H1 q t1 s1⟩
theorem dw_or (ha : DT T0 X a tA) (hb : DW T0 X (.BoolOp .Or (b :: rest) pos) tB') : DW T0 X (.BoolOp .Or (a :: b :: rest) pos) (dOr tA tB') :=
  pw_imp (pw_or ha hb) fun σ H Q ⟨tx, δ, m, Q', rs, sm, h, le⟩ => ⟨tx, δ, m, _, rs, sm, h, fun k m1 H1 q t1 s1 => by
    cases k with
    | false => exact ⟨tx.trans t1, δ, m1, Q', rs.tx t1, s1, q, le.tx t1⟩
    | true => exact le true m1 H1 q t1 s1⟩
theorem dt_not (ha : DT T0 X a tA) : DT T0 X (.UnaryOp .Not a pos) (dNot tA) :=
  pt_imp (pt_not ha) fun σ H Q ⟨tx, δ, m, Q', rs, sm, h, le⟩ => ⟨tx, δ, m, _, rs, sm, h, fun k m1 H1 q t1 s1 => le _ m1 H1 q t1 s1⟩
theorem de_one {op} (h : DE T0 X a ta) : DE T0 X (.BoolOp op [a] pos) ta := pe_one h
theorem de_and (ha : DE T0 X a ta) (hb : DE T0 X (.BoolOp .And (b :: rest) pos) tb) : DE T0 X (.BoolOp .And (a :: b :: rest) pos) (dAndV ta tb) :=
  pe_imp (pe_and ha hb) fun σ H Q ⟨tx, δ, m, Q', rs, sm, h, le⟩ => ⟨tx, δ, m, _, rs, sm, h, fun d m1 v H1 ⟨k, ek, q⟩ t1 r1 s1 => by
    subst ek
    refine ⟨k, rel_bl.mp r1, ?_⟩
    cases k with
    | true => exact ⟨tx.trans t1, δ, m1, Q', rs.tx t1, s1, q, le.tx t1⟩
    | false => exact le _ m1 _ H1 q t1 (rel_bl.mpr rfl) s1⟩
theorem de_or (ha : DE T0 X a ta) (hb : DE T0 X (.BoolOp .Or (b :: rest) pos) tb) : DE T0 X (.BoolOp .Or (a :: b :: rest) pos) (dOrV ta tb) :=
  pe_imp (pe_or ha hb) fun σ H Q ⟨tx, δ, m, Q', rs, sm, h, le⟩ => ⟨tx, δ, m, _, rs, sm, h, fun d m1 v H1 ⟨k, ek, q⟩ t1 r1 s1 => by
    subst ek
    refine ⟨k, rel_bl.mp r1, ?_⟩
    cases k with
    | false => exact ⟨tx.trans t1, δ, m1, Q', rs.tx t1, s1, q, le.tx t1⟩
    | true => exact le _ m1 _ H1 q t1 (rel_bl.mpr rfl) s1⟩
theorem de_not (ha : DE T0 X a ta) : DE T0 X (.UnaryOp .Not a pos) (dNotV ta) :=
  pe_imp (pe_not ha) fun σ H Q ⟨tx, δ, m, Q', rs, sm, h, le⟩ => ⟨tx, δ, m, _, rs, sm, h, fun d m1 v H1 ⟨k, ek, q⟩ t1 r1 s1 => by
    subst ek
    exact ⟨k, rel_bl.mp r1, le _ m1 _ H1 q t1 (rel_bl.mpr rfl) s1⟩⟩
theorem de_ifExp (hc : DT T0 X c tA) (ha : DE T0 X a ta) (hb : DE T0 X b tb) : DE T0 X (.IfExp c a b pos) (dIfE tA ta tb) :=
  pe_imp (pe_ifExp hc ha hb) fun σ H Q ⟨tx, δ, m, Q', rs, sm, h, le⟩ => ⟨tx, δ, m, _, rs, sm, h, fun k m1 H1 q t1 s1 => by
    cases k with
    | true => exact ⟨tx.trans t1, δ, m1, Q', rs.tx t1, s1, q, le.tx t1⟩
    | false => exact ⟨tx.trans t1, δ, m1, Q', rs.tx t1, s1, q, le.tx t1⟩⟩
end
/-! ### statements -/
def sNext : DTS := fun N δ m => N.nx δ m
def sSeq (t u : DTS) : DTS := fun N δ m => t { N with nx := u N } δ m
def sBreak : DTS := fun N δ m => N.bk δ m
def sCont : DTS := fun N δ m => N.ct δ m
def sDrop (te : DTE) : DTS := fun N δ m => te δ m fun _ m1 => N.nx δ m1
def sRet (te : DTE) : DTS := fun N δ m => te δ m N.rt
def sRetN : DTS := fun N _ m => N.rt .non m
def sIf (c : DTT) (t u : DTS) : DTS := fun N δ m => c δ m fun b m1 => if b = true then t N δ m1 else u N δ m1
def sNever : DTS := fun _ _ _ => False
abbrev DTG := D → DSt → M → (DSt → M → Prop) → Prop
abbrev DTGs := List D → DSt → M → (DSt → M → Prop) → Prop
def upG (T0 : Hp) (t : DTG) : TG := fun v σ H Q => Tx T0 H ∧ ∃ d δ m Q', RelD H d v ∧ RelSt H δ σ ∧ Sm m H ∧ t d δ m Q' ∧ LeS Q' H Q
def upGs (T0 : Hp) (t : DTGs) : TGs := fun vs σ H Q => Tx T0 H ∧ ∃ ds δ m Q', RelDs H ds vs ∧ RelSt H δ σ ∧ Sm m H ∧ t ds δ m Q' ∧ LeS Q' H Q
abbrev DG (T0 : Hp) (X : Cx) (e : Expr) (t : DTG) : Prop := PG X e (upG T0 t)
abbrev DGs (T0 : Hp) (X : Cx) (es : List Expr) (t : DTGs) : Prop := PGs X es (upGs T0 t)
def eName (i : Nat) : DTG := fun d δ m Q => Q (δ.set i (some d)) m
def eNil : DTGs := fun ds δ m Q => ds = [] ∧ Q δ m
def eCons (t : DTG) (u : DTGs) : DTGs := fun ds δ m Q => ∃ d r, ds = d :: r ∧ t d δ m fun δ' m' => u r δ' m' Q
def eTup (n : Nat) (t : DTGs) : DTG := fun d δ m Q => ∃ xs, d = .tup xs ∧ xs.length = n ∧ t xs δ m Q
def sAsg (te : DTE) (g : DTG) : DTS := fun N δ m => te δ m fun x m1 => g x δ m1 N.nx
abbrev DSet := D → D → D → M → (M → Prop) → Prop
def upSet (T0 : Hp) (t : DSet) : TSet := fun o i v H Q => Tx T0 H ∧ ∃ d1 d2 d3 m Q', RelD H d1 o ∧ RelD H d2 i ∧ RelD H d3 v ∧ Sm m H ∧ t d1 d2 d3 m Q' ∧ ∀ m' H', Q' m' → Tx H H' → Sm m' H' → Q H'
def eSub (to ti : DTE) (t : DSet) : DTG := fun v δ m Q => to δ m fun o m1 => ti δ m1 fun i m2 => t o i v m2 fun m3 => Q δ m3
def sAug (i : Nat) (te : DTE) (ti : DR2) : DTS := fun N δ m => ∃ x, δ[i]? = some (some x) ∧ te δ m fun y m1 => ti x y m1 fun z m2 => N.nx (δ.set i (some z)) m2
def sAugS (to ti te : DTE) (tget tip : DR2) (tset : DSet) : DTS := fun N δ m => to δ m fun o m1 => ti δ m1 fun i m2 => tget o i m2 fun x m3 => te δ m3 fun y m4 => tip x y m4 fun z m5 => tset o i z m5 fun m6 => N.nx δ m6
def putD (f : Str) (d : D) : List (Str × D) → List (Str × D)
  | [] => [(f, d)]
  | (k, x) :: r => if k = f then (k, d) :: r else (k, x) :: putD f d r
def sFldD (K : PySem.W.Frag) (ta tv : DTE) (f : Str) : DTS := fun N δ m => tv δ m fun y m1 => ta δ m1 fun x m2 => ∃ a C dx fs, x = .ref a ∧ m2 a = some (.ins C dx fs) ∧ Cls K C ∧ NoAttr K C f ∧ fs.length < 1000 ∧ N.nx δ (put m2 a (.ins C dx (putD f y fs)))
def sFldAugD (K : PySem.W.Frag) (ta tv : DTE) (rd : DR2) (f : Str) : DTS := fun N δ m => ta δ m fun x m1 => ∃ a C dx fs v, x = .ref a ∧ m1 a = some (.ins C dx fs) ∧ Cls K C ∧ NoAttr K C f ∧ fs.lookup f = some v ∧
  tv δ m1 fun y m2 => rd v y m2 fun z m3 => ∃ dx' fs', m3 a = some (.ins C dx' fs') ∧ fs'.length < 1000 ∧ N.nx δ (put m3 a (.ins C dx' (putD f z fs')))
section
variable {T0 : Hp} {X : Cx} {a b c e o i value : Expr} {es : List Expr} {st : Stmt} {rest : List Stmt} {t u : DTS} {ta tb te tv to ti : DTE} {tc : DTT} {pos pos' tpos : Pos} {f : Str}
theorem dss_nil : DSs T0 X [] sNext := pss_imp pss_nil fun N σ H ⟨tx, δ, m, N', rs, sm, h, le⟩ => le.nx δ m σ H h (Tx.refl H) rs sm
theorem dss_cons (h1 : DS T0 X st t) (h2 : DSs T0 X rest u) : DSs T0 X (st :: rest) (sSeq t u) :=
  pss_imp (pss_cons h1 h2) fun N σ H ⟨tx, δ, m, N', rs, sm, h, le⟩ => ⟨tx, δ, m, _, rs, sm, h, ⟨fun δ1 m1 σ1 H1 q t1 r1 s1 => ⟨tx.trans t1, δ1, m1, N', r1, s1, q, le.tx t1⟩, le.rt, le.bk, le.ct⟩⟩
theorem dss_one (h1 : DS T0 X st t) : DSs T0 X [st] t := pss_one h1
theorem ds_pass : DS T0 X (.Pass pos) sNext := ps_imp ps_pass fun N σ H ⟨tx, δ, m, N', rs, sm, h, le⟩ => le.nx δ m σ H h (Tx.refl H) rs sm
theorem ds_break : DS T0 X (.Break pos) sBreak := ps_imp ps_break fun N σ H ⟨tx, δ, m, N', rs, sm, h, le⟩ => le.bk δ m σ H h (Tx.refl H) rs sm
theorem ds_continue : DS T0 X (.Continue pos) sCont := ps_imp ps_continue fun N σ H ⟨tx, δ, m, N', rs, sm, h, le⟩ => le.ct δ m σ H h (Tx.refl H) rs sm
theorem ds_doc {x j} : DS T0 X (.Expr (.Constant (.str x) j pos) pos') sNext := ps_imp ps_doc fun N σ H ⟨tx, δ, m, N', rs, sm, h, le⟩ => le.nx δ m σ H h (Tx.refl H) rs sm
theorem ds_expr (he : DE T0 X e te) (hs : swapsWith e none pos.line X.env = pure false := by rfl) : DS T0 X (.Expr e pos) (sDrop te) :=
  ps_imp (ps_expr he hs) fun N σ H ⟨tx, δ, m, N', rs, sm, h, le⟩ => ⟨tx, δ, m, _, rs, sm, h, fun d m1 v H1 q t1 r1 s1 => le.nx δ m1 σ H1 q t1 (rs.tx t1) s1⟩
theorem ds_ret (he : DE T0 X e te) : DS T0 X (.Return (some e) pos) (sRet te) :=
  ps_imp (ps_ret he) fun N σ H ⟨tx, δ, m, N', rs, sm, h, le⟩ => ⟨tx, δ, m, _, rs, sm, h, le.rt⟩
theorem ds_retN : DS T0 X (.Return none pos) sRetN := ps_imp ps_retN fun N σ H ⟨tx, δ, m, N', rs, sm, h, le⟩ => le.rt .non m .non H h (Tx.refl H) (rel_non.mpr rfl) sm
theorem ds_if {a b : List Stmt} (hc : DT T0 X c tc) (ha : DSs T0 X a t) (hb : DSs T0 X b u) : DS T0 X (.If c a b pos) (sIf tc t u) :=
  ps_imp (ps_if hc ha hb) fun N σ H ⟨tx, δ, m, N', rs, sm, h, le⟩ => ⟨tx, δ, m, _, rs, sm, h, fun k m1 H1 q t1 s1 => by
    cases k with
    | true => exact ⟨tx.trans t1, δ, m1, N', rs.tx t1, s1, q, le.tx t1⟩
    | false => exact ⟨tx.trans t1, δ, m1, N', rs.tx t1, s1, q, le.tx t1⟩⟩
theorem ds_never : DS T0 X st sNever := ps_imp ps_never fun N σ H ⟨tx, δ, m, N', rs, sm, h, le⟩ => h.elim
theorem dss_never {sts : List Stmt} : DSs T0 X sts sNever := pss_imp pss_never fun N σ H ⟨tx, δ, m, N', rs, sm, h, le⟩ => h.elim
theorem dg_name {i : Nat} {x : Str} (hN : X.N.Nodup) (hi : X.N[i]? = some x) (hx : Loc X.env.scope x) (hf : X.fn x = true ∨ X.env.scope.names.lookup x = some .local := by first | exact .inl rfl | exact .inr rfl | assumption) : DG T0 X (.Name x pos) (eName i) :=
  ⟨fun pins s σ H v u Q I r ⟨tx, d, δ, m, Q', rd, rs, sm, h, le⟩ => (pg_name hN hi hx hf).run pins s σ H v u Q I r (le _ m _ H h (Tx.refl H) (rs.set i rd) sm)⟩
theorem dgs_nil : DGs T0 X [] eNil := ⟨fun pins s σ H vs us Q I r ⟨tx, ds, δ, m, Q', rd, rs, sm, ⟨e, h⟩, le⟩ => by
  subst e
  cases rd.inv0
  exact pgs_nil.run pins s σ H _ us Q I r ⟨rfl, le δ m σ H h (Tx.refl H) rs sm⟩⟩
theorem dgs_cons {t : DTG} {u : DTGs} (h1 : DG T0 X e t) (h2 : DGs T0 X es u) (hs : (assignEach (e :: es) X.env).map (·.2) = assign e X.env :: (assignEach es X.env).map (·.2) := by rfl) : DGs T0 X (e :: es) (eCons t u) :=
  ⟨fun pins s σ H vs us Q I r ⟨tx, ds, δ, m, Q', rd, rs, sm, ⟨d, dr, e, h⟩, le⟩ => by
    subst e
    obtain ⟨v, vr, ev, r1, r2⟩ := rd.inv
    subst ev
    exact (pgs_cons h1 h2 hs).run pins s σ H _ us Q I r ⟨v, vr, rfl, tx, d, δ, m, _, r1, rs, sm, h, fun δ1 m1 σ1 H1 q t1 r3 s1 => ⟨tx.trans t1, dr, δ1, m1, Q', r2.tx t1, r3, s1, q, le.tx t1⟩⟩⟩
theorem dg_tup {k : Nat} {t : DTGs} {n : Nat} (hc : X.calm = true) (h : DGs T0 X es t) (hn : (assignEach es X.env).length = n := by rfl) (hst : (assignEach es X.env).findIdx? (·.1) = none := by rfl) : DG T0 X (.Tuple es k pos) (eTup n t) :=
  ⟨fun pins s σ H v u Q I r ⟨tx, d, δ, m, Q', rd, rs, sm, ⟨xs, e, hl, h'⟩, le⟩ => by
    subst e
    obtain ⟨a, vs, ev, h1, h2⟩ := rel_tup.mp rd
    exact (pg_tup hc h hn hst).run pins s σ H v u Q I r ⟨a, vs, ev, SqT.of h1, by rw [← h2.length]; exact hl, tx, xs, δ, m, Q', h2, rs, sm, h', le⟩⟩
theorem dg_sub {t : DSet} (ho : DE T0 X o to) (hi : DE T0 X i ti) (hs : PSet X (upSet T0 t))
    (ha : ∀ v, assign (.Subscript o i pos) X.env v = (do
      let ov ← holding [v] (eval o X.env)
      let iv ← holding [v, ov] (eval i X.env)
      standAt pos
      holding [v, ov, iv] (setItem ov iv v)
      release [v, ov, iv] []) := by intro _; rfl) : DG T0 X (.Subscript o i pos) (eSub to ti t) :=
  ⟨fun pins s σ H v u Q I r ⟨tx, d, δ, m, Q', rd, rs, sm, h', le⟩ => (pg_sub ho hi hs ha).run pins s σ H v u Q I r ⟨tx, δ, m, _, rs, sm, h', fun d1 m1 v1 H1 q1 t1 r1 s1 => ⟨tx.trans t1, δ, m1, _, rs.tx t1, s1, q1, fun d2 m2 v2 H2 q2 t2 r2 s2 =>
    ⟨(tx.trans t1).trans t2, d1, d2, d, m2, _, r1.tx t2, r2, rd.tx (t1.trans t2), s2, q2, fun m3 H3 q3 t3 s3 => le δ m3 σ H3 q3 ((t1.trans t2).trans t3) (rs.tx ((t1.trans t2).trans t3)) s3⟩⟩⟩⟩
theorem ds_asg {tg : Expr} {g : DTG} (he : DE T0 X e te) (hg : DG T0 X tg g) (hs : swapsWithSole [tg] e pos.line X.env = pure false := by rfl) (hw : swappedStores [tg] e X.env = pure none := by rfl)
    (h1 : (assignEach [tg] X.env).map (·.2) = [assign tg X.env] := by rfl) : DS T0 X (.Assign [tg] e pos) (sAsg te g) :=
  ps_imp (ps_asg he hg hs hw h1) fun N σ H ⟨tx, δ, m, N', rs, sm, h, le⟩ => ⟨tx, δ, m, _, rs, sm, h, fun d m1 v H1 q t1 r1 s1 => ⟨tx.trans t1, d, δ, m1, _, r1, rs.tx t1, s1, q, le.nx.tx t1⟩⟩
theorem ds_set {i : Nat} {x : Str} (hN : X.N.Nodup) (hi : X.N[i]? = some x) (hx : Loc X.env.scope x) (he : DE T0 X e te) (hs : swapsWith e (some (.Name x pos')) pos.line X.env = pure false := by rfl) (hf : X.fn x = true ∨ X.env.scope.names.lookup x = some .local := by first | exact .inl rfl | exact .inr rfl | assumption) :
    DS T0 X (.Assign [.Name x pos'] e pos) (sAsg te (eName i)) :=
  ps_imp (ps_set hN hi hx he hs hf) fun N σ H ⟨tx, δ, m, N', rs, sm, h, le⟩ => ⟨tx, δ, m, _, rs, sm, h, fun d m1 v H1 q t1 r1 s1 => le.nx _ m1 _ H1 q t1 ((rs.tx t1).set i r1) s1⟩
theorem ds_aug {i : Nat} {x : Str} {op : Operator} {ti : DR2} (hN : X.N.Nodup) (hi : X.N[i]? = some x) (hx : Loc X.env.scope x) (he : DE T0 X e te) (ho : PIp X op (upR T0 ti)) (hf : X.fn x = true ∨ X.env.scope.names.lookup x = some .local := by first | exact .inl rfl | exact .inr rfl | assumption) :
    DS T0 X (.AugAssign (.Name x pos') op e pos) (sAug i te ti) :=
  ps_imp (ps_aug hN hi hx he ho hf) fun N σ H ⟨tx, δ, m, N', rs, sm, ⟨d, ed, h⟩, le⟩ => by
    obtain ⟨v, ev, rv⟩ := rs.get ed
    exact ⟨v, ev, tx, δ, m, _, rs, sm, h, fun d1 m1 v1 H1 q1 t1 r1 s1 => ⟨tx.trans t1, d, d1, m1, _, rv.tx t1, r1, s1, q1, fun d2 m2 v2 H2 q2 t2 r2 s2 => le.nx _ m2 _ H2 q2 (t1.trans t2) ((rs.tx (t1.trans t2)).set i r2) s2⟩⟩
theorem ds_augS {op : Operator} {tget tip : DR2} {tset : DSet} (ho : DE T0 X o to) (hi : DE T0 X i ti) (hg : PGet X (upR T0 tget)) (he : DE T0 X e te) (hp : PIp X op (upR T0 tip)) (hs : PSet X (upSet T0 tset))
    (ha : ∀ ov iv new, augStore i ov iv new = (do holding [new, ov, iv] (setItem ov iv new); release [new, ov, iv] []; pure .next) := by intros; rfl) : DS T0 X (.AugAssign (.Subscript o i tpos) op e pos) (sAugS to ti te tget tip tset) :=
  ps_imp (ps_augS ho hi hg he hp hs ha) fun N σ H ⟨tx, δ, m, N', rs, sm, h, le⟩ => ⟨tx, δ, m, _, rs, sm, h, fun d1 m1 v1 H1 q1 t1 r1 s1 => ⟨tx.trans t1, δ, m1, _, rs.tx t1, s1, q1, fun d2 m2 v2 H2 q2 t2 r2 s2 => ⟨(tx.trans t1).trans t2, d1, d2, m2, _, r1.tx t2, r2, s2, q2, fun d3 m3 v3 H3 q3 t3 r3 s3 =>
    ⟨((tx.trans t1).trans t2).trans t3, δ, m3, _, rs.tx ((t1.trans t2).trans t3), s3, q3, fun d4 m4 v4 H4 q4 t4 r4 s4 => ⟨(((tx.trans t1).trans t2).trans t3).trans t4, d3, d4, m4, _, r3.tx t4, r4, s4, q4, fun d5 m5 v5 H5 q5 t5 r5 s5 =>
      ⟨((((tx.trans t1).trans t2).trans t3).trans t4).trans t5, d1, d2, d5, m5, _, r1.tx (((t2.trans t3).trans t4).trans t5), r2.tx ((t3.trans t4).trans t5), r5, s5, q5, fun m6 H6 q6 t6 s6 => le.nx δ m6 σ H6 q6 (((((t1.trans t2).trans t3).trans t4).trans t5).trans t6) (rs.tx (((((t1.trans t2).trans t3).trans t4).trans t5).trans t6)) s6⟩⟩⟩⟩⟩⟩
theorem PK.put {H : Hp} {d : D} {v : V} (f : Str) (r : RelD H d v) : ∀ {xs : List (Str × D)} {ys : List (Str × V)}, PK H xs ys → PK H (putD f d xs) (putF f v ys)
  | _, _, .nil => .cons ⟨rfl, r⟩ .nil
  | (k, x) :: xs, (k', y) :: ys, .cons ⟨e, q⟩ t => by
    cases (show k = k' from e)
    unfold putD putF
    split
    · exact .cons ⟨rfl, r⟩ t
    · exact .cons ⟨rfl, q⟩ (PK.put f r t)
theorem ins_nk {H : Hp} {a C dx : Addr} {fs : List (Str × V)} (h : H a = some (.ins C dx fs)) : NK H a := NK.of h (fun _ z => by cases z) (fun _ z => by cases z)
theorem ds_fld (ha : DE T0 X o ta) (hv : DE T0 X value tv) (hs : swapsWith value (some (.Attribute o f pos')) pos.line X.env = pure false) : DS T0 X (.Assign [.Attribute o f pos'] value pos) (sFldD X.K ta tv f) :=
  ps_imp (ps_fld ha hv hs) fun N σ H ⟨tx, δ, m, N', rs, sm, h, le⟩ => ⟨tx, δ, m, _, rs, sm, h, fun d1 m1 v1 H1 q1 t1 r1 s1 => ⟨tx.trans t1, δ, m1, _, rs.tx t1, s1, q1, fun d2 m2 v2 H2 ⟨a, C, dx, fs, ex, ea, hc, hn, hl, q2⟩ t2 r2 s2 => by
    subst ex
    cases rel_ref.mp r2
    obtain ⟨ws, e1, pk⟩ := s2 a _ ea
    have n1 := ins_nk e1
    have tu : Tx H2 (L2.upd H2 a (.ins C dx (putF f v1 ws))) := Tx.upd n1
    exact ⟨a, C, dx, ws, rfl, e1, hc, hn, by rw [← Paired.length pk]; exact hl, le.nx δ _ σ _ q2 ((t1.trans t2).trans tu) (rs.tx ((t1.trans t2).trans tu)) (s2.upd n1 ⟨_, upd_same, (PK.put f (r1.tx t2) pk).tx tu⟩)⟩⟩⟩
theorem ds_fldaug {op : Operator} {rd : DR2} (ha : DE T0 X o ta) (hv : DE T0 X value tv) (hop : InOp X op (upR T0 rd)) : DS T0 X (.AugAssign (.Attribute o f tpos) op value pos) (sFldAugD X.K ta tv rd f) :=
  ps_imp (ps_fldaug ha hv hop) fun N σ H ⟨tx, δ, m, N', rs, sm, h, le⟩ => ⟨tx, δ, m, _, rs, sm, h, fun d1 m1 v1 H1 ⟨a, C, dx, fs, w, ex, ea, hc, hn, hl, q1⟩ t1 r1 s1 => by
    subst ex
    cases rel_ref.mp r1
    obtain ⟨ws, e1, pk⟩ := s1 a _ ea
    obtain ⟨z, e2, rz⟩ := (pk.lookup f).1 w hl
    refine ⟨a, C, dx, ws, z, rfl, e1, hc, hn, e2, tx.trans t1, δ, m1, _, rs.tx t1, s1, q1, fun d2 m2 v2 H2 q2 t2 r2 s2 => ⟨(tx.trans t1).trans t2, w, d2, m2, _, rz.tx t2, r2, s2, q2, fun d3 m3 v3 H3 ⟨dx', fs', ea', hl', q3⟩ t3 r3 s3 => ?_⟩⟩
    obtain ⟨ws', e3, pk'⟩ := s3 a _ ea'
    have n1 := ins_nk e3
    have tu : Tx H3 (L2.upd H3 a (.ins C dx' (putF f v3 ws'))) := Tx.upd n1
    exact ⟨dx', ws', e3, by rw [← Paired.length pk']; exact hl', le.nx δ _ σ _ q3 (((t1.trans t2).trans t3).trans tu) (rs.tx (((t1.trans t2).trans t3).trans tu)) (s3.upd n1 ⟨_, upd_same, (PK.put f r3 pk').tx tu⟩)⟩⟩
end
end G
namespace G
open PySem PySem.Spec PyProof.Rows L2 NdefX LamX
/-! ### while -/
def sWhile (c : DTT) (tb : DTS) : DTS := fun N δ m => ∃ W : Nat → DSt → M → Prop, (∃ n, W n δ m) ∧ ∀ n δ m, W n δ m → c δ m fun b m1 => if b = true then tb { N with nx := fun δ' m' => ∃ n', n' < n ∧ W n' δ' m', ct := fun δ' m' => ∃ n', n' < n ∧ W n' δ' m', bk := N.nx } δ m1 else N.nx δ m1
section
variable {T0 : Hp} {X : Cx} {pos : Pos} {c : Expr} {body : List Stmt} {tc : DTT} {tb : DTS}
theorem ds_while (hp : PassesOwn (model X.prog X.w) X.A X.env X.xe) (hc : DT T0 X c tc) (hb : DSs T0 X body tb) : DS T0 X (.While c body [] pos) (sWhile tc tb) :=
  ps_imp (ps_while hp hc hb) fun N σ H ⟨tx, δ, m, N', rs, sm, ⟨W, ⟨n0, w0⟩, turn⟩, le⟩ => by
    refine ⟨fun n σ' H' => Tx H H' ∧ ∃ δ' m', RelSt H' δ' σ' ∧ Sm m' H' ∧ W n δ' m', ⟨n0, Tx.refl H, δ, m, rs, sm, w0⟩, ?_⟩
    rintro n σ1 H1 ⟨t1, δ1, m1, r1, s1, w1⟩
    refine ⟨tx.trans t1, δ1, m1, _, r1, s1, turn n δ1 m1 w1, fun b m2 H2 q t2 s2 => ?_⟩
    cases b with
    | true =>
      refine ⟨fun σ' H' => ∃ n', n' < n ∧ Tx H H' ∧ ∃ δ' m', RelSt H' δ' σ' ∧ Sm m' H' ∧ W n' δ' m', fun σ' H' z => z, (tx.trans t1).trans t2, δ1, m2, _, r1.tx t2, s2, q, ?_⟩
      have k : LeS (fun δ' m' => ∃ n', n' < n ∧ W n' δ' m') H2 (fun σ' H' => ∃ n', n' < n ∧ Tx H H' ∧ ∃ δ' m', RelSt H' δ' σ' ∧ Sm m' H' ∧ W n' δ' m') := fun δ3 m3 σ3 H3 ⟨n', hn, w⟩ t3 r3 s3 => ⟨n', hn, (t1.trans t2).trans t3, δ3, m3, r3, s3, w⟩
      exact ⟨k, le.rt.tx (t1.trans t2), le.nx.tx (t1.trans t2), k⟩
    | false => exact le.nx δ1 m2 σ1 H2 q (t1.trans t2) (r1.tx t2) s2
end
/-! ### what is walked -/
/-- J walks over the items while ok holds -/
structure ItD (J : It) (items : List D) (ok : M → Prop) (H0 : Hp) : Prop where
  go : ∀ H m i d, Tx H0 H → Sm m H → ok m → items[i]? = some d → J.go i H ∧ ∀ x H', J.yld i H x H' → Tx H H' ∧ (∀ m, Sm m H → Sm m H') ∧ RelD H' d x
  stop : ∀ H m, Tx H0 H → Sm m H → ok m → J.stop items.length H
theorem ItD.tx {J : It} {items : List D} {ok : M → Prop} {H H' : Hp} (I : ItD J items ok H) (t : Tx H H') : ItD J items ok H' := ⟨fun H2 m i d t2 => I.go H2 m i d (t.trans t2), fun H2 m t2 => I.stop H2 m (t.trans t2)⟩
abbrev DTI := DSt → M → (List D → (M → Prop) → M → Prop) → Prop
def upI (T0 : Hp) (t : DTI) : TI := fun σ H R => Tx T0 H ∧ ∃ δ m Q', RelSt H δ σ ∧ Sm m H ∧ t δ m Q' ∧ ∀ items ok m1 H1 J, Q' items ok m1 → Tx H H1 → Sm m1 H1 → ItD J items ok H1 → R J H1
abbrev DI (T0 : Hp) (X : Cx) (tg iter : Expr) (t : DTI) : Prop := PI X tg iter (upI T0 t)
theorem pi_imp {X : Cx} {tg iter : Expr} {t t' : TI} (h : PI X tg iter t) (i : ∀ σ H R, t' σ H R → t σ H R) : PI X tg iter t' := ⟨fun pins s σ H R I q => h.run pins s σ H R I (i σ H R q)⟩
def forR (ok : M → Prop) (g : DTG) (tb : DTS) (N : DEnds) : List D → DSt → M → Prop
  | [], δ, m => ok m ∧ N.nx δ m
  | x :: r, δ, m => ok m ∧ g x δ m fun δ2 m2 => tb { N with nx := forR ok g tb N r, ct := forR ok g tb N r, bk := N.nx } δ2 m2
def sFor (wi : DTI) (g : DTG) (tb : DTS) : DTS := fun N δ m => wi δ m fun items ok m1 => forR ok g tb N items δ m1
section
variable {T0 : Hp} {X : Cx} {pos : Pos} {tg iter e : Expr} {body : List Stmt} {wi : DTI} {g : DTG} {tb : DTS} {te : DTE} {ta : DTA}
theorem ds_for (hp : PassesOwn (model X.prog X.w) X.A X.env X.xe) (hc : X.calm = true) (hi : DI T0 X tg iter wi) (hg : DG T0 X tg g) (hb : DSs T0 X body tb) (hs : ∀ x, foldedSetIterable iter X.env x = pure x := by intro _; rfl) : DS T0 X (.For tg iter body [] pos) (sFor wi g tb) :=
  ps_imp (ps_for hp hc hi hg hb hs) fun N σ H ⟨tx, δ, m, N', rs, sm, h, le⟩ => by
    refine ⟨tx, δ, m, _, rs, sm, h, fun items ok m1 H1 J q t1 s1 I => ?_⟩
    refine ⟨fun i k σ' H' => k = items.length - i ∧ i ≤ items.length ∧ Tx H1 H' ∧ ∃ δ' m', RelSt H' δ' σ' ∧ Sm m' H' ∧ forR ok g tb N' (items.drop i) δ' m', ⟨items.length, by simp, Nat.zero_le _, Tx.refl H1, δ, m1, rs.tx t1, s1, q⟩, ?_⟩
    rintro i k σ2 H2 ⟨rfl, hi, t2, δ2, m2, r2, s2, w⟩
    by_cases hlt : i < items.length
    · rw [List.drop_eq_getElem_cons hlt] at w
      obtain ⟨ho, w⟩ := w
      obtain ⟨hgo, hy⟩ := I.go H2 m2 i items[i] t2 s2 ho (List.getElem?_eq_getElem hlt)
      refine .inr ⟨hgo, fun σ' H' => Tx H1 H' ∧ ∃ δ' m', RelSt H' δ' σ' ∧ Sm m' H' ∧ forR ok g tb N' (items.drop (i + 1)) δ' m', fun σ' H' z => ⟨items.length - (i + 1), by omega, rfl, hlt, z⟩, fun x H3 y => ?_⟩
      obtain ⟨t3, s3, r3⟩ := hy x H3 y
      have t123 := (t1.trans t2).trans t3
      refine ⟨tx.trans t123, items[i], δ2, m2, _, r3, r2.tx t3, s3 m2 s2, w, fun δ4 m4 σ4 H4 q4 t4 r4 s4 => ⟨(tx.trans t123).trans t4, δ4, m4, _, r4, s4, q4, ?_⟩⟩
      have kk : LeS (forR ok g tb N' (items.drop (i + 1))) H4 (fun σ' H' => Tx H1 H' ∧ ∃ δ' m', RelSt H' δ' σ' ∧ Sm m' H' ∧ forR ok g tb N' (items.drop (i + 1)) δ' m') := fun δ5 m5 σ5 H5 q5 t5 r5 s5 => ⟨((t2.trans t3).trans t4).trans t5, δ5, m5, r5, s5, q5⟩
      exact ⟨kk, le.rt.tx (t123.trans t4), le.nx.tx (t123.trans t4), kk⟩
    · have e : i = items.length := by omega
      subst e
      rw [List.drop_length] at w
      obtain ⟨ho, w⟩ := w
      exact .inl ⟨I.stop H2 m2 t2 s2 ho, le.nx δ2 m2 σ2 H2 w (t1.trans t2) r2 s2⟩
/-! iterators -/
def iLst (te : DTE) : DTI := fun δ m R => te δ m fun x m1 => ∃ a xs, x = .ref a ∧ m1 a = some (.lst xs) ∧ R xs (fun m => m a = some (.lst xs)) m1
def iKl (te : DTE) : DTI := fun δ m R => te δ m fun x m1 => ∃ a xs, x = .ref a ∧ m1 a = some (.kl xs) ∧ R xs (fun m => m a = some (.kl xs)) m1
def iTp (te : DTE) : DTI := fun δ m R => te δ m fun x m1 => ∃ xs, x = .tup xs ∧ R xs (fun _ => True) m1
def iRg1 (ta : DTA) : DTI := fun δ m R => ta δ m fun xs m1 => ∃ j : Int, xs = [.int j] ∧ -(2 ^ 62) ≤ j ∧ j < 2 ^ 62 ∧ R ((List.range j.toNat).map fun (k : Nat) => .int k) (fun _ => True) m1
def iRg2 (ta : DTA) : DTI := fun δ m R => ta δ m fun xs m1 => ∃ i j : Int, xs = [.int i, .int j] ∧ (-(2 ^ 62) ≤ i ∧ i < 2 ^ 62 ∧ -(2 ^ 62) ≤ j ∧ j < 2 ^ 62) ∧ R ((List.range (j - i).toNat).map fun (k : Nat) => .int (i + k)) (fun _ => True) m1
def iRg3 (ta : DTA) : DTI := fun δ m R => ta δ m fun xs m1 => ∃ (i j c : Int) (n : Nat), xs = [.int i, .int j, .int c] ∧ RgC i j c n ∧ R ((List.range n).map fun (k : Nat) => .int (i + k * c)) (fun _ => True) m1
def iRv (ta : DTA) : DTI := fun δ m R => ta δ m fun vs m1 => ∃ a xs, vs = [.ref a] ∧ m1 a = some (.lst xs) ∧ R xs.reverse (fun m => m a = some (.lst xs)) m1
def iEn (ta : DTA) : DTI := fun δ m R => ta δ m fun vs m1 => ∃ a xs, vs = [.ref a] ∧ m1 a = some (.lst xs) ∧ R (xs.zipIdx.map fun p => .tup [.int (p.2 : Int), p.1]) (fun m => m a = some (.lst xs)) m1
theorem di_list (he : DE T0 X e te) : DI T0 X tg e (iLst te) :=
  pi_imp (pi_list he) fun σ H R ⟨tx, δ, m, Q', rs, sm, h, le⟩ => ⟨tx, δ, m, _, rs, sm, h, fun d m1 v H1 ⟨a, xs, ex, ea, q⟩ t1 r1 s1 => by
    subst ex
    cases rel_ref.mp r1
    obtain ⟨vs, e1, rv⟩ := s1 a _ ea
    refine ⟨a, rfl, ⟨vs, SqL.of e1⟩, le xs _ m1 H1 _ q t1 s1 ⟨fun H2 m2 i d t2 s2 ok hd => ?_, fun H2 m2 t2 s2 ok => ?_⟩⟩
    · obtain ⟨vs2, e2, rv2⟩ := s2 a _ ok
      obtain ⟨v, hv, rd⟩ := rv2.get hd
      refine ⟨⟨vs2, v, SqL.of e2, hv⟩, fun x H' ⟨eH, hx⟩ => ?_⟩
      subst eH
      have := hx vs2 (SqL.of e2)
      rw [hv] at this
      cases this
      exact ⟨Tx.refl _, fun _ z => z, rd⟩
    · obtain ⟨vs2, e2, rv2⟩ := s2 a _ ok
      exact ⟨vs2, SqL.of e2, by rw [rv2.length]; exact Nat.le_refl _⟩⟩
theorem di_kl (he : DE T0 X e te) : DI T0 X tg e (iKl te) :=
  pi_imp (pi_list he) fun σ H R ⟨tx, δ, m, Q', rs, sm, h, le⟩ => ⟨tx, δ, m, _, rs, sm, h, fun d m1 v H1 ⟨a, xs, ex, ea, q⟩ t1 r1 s1 => by
    subst ex
    cases rel_ref.mp r1
    obtain ⟨o, vs, e1, rv⟩ := s1 a _ ea
    refine ⟨a, rfl, ⟨vs, .inl (.inr ⟨o, e1⟩)⟩, le xs _ m1 H1 _ q t1 s1 ⟨fun H2 m2 i d t2 s2 ok hd => ?_, fun H2 m2 t2 s2 ok => ?_⟩⟩
    · obtain ⟨o2, vs2, e2, rv2⟩ := s2 a _ ok
      obtain ⟨v, hv, rd⟩ := rv2.get hd
      refine ⟨⟨vs2, v, .inl (.inr ⟨o2, e2⟩), hv⟩, fun x H' ⟨eH, hx⟩ => ?_⟩
      subst eH
      have := hx vs2 (.inl (.inr ⟨o2, e2⟩))
      rw [hv] at this
      cases this
      exact ⟨Tx.refl _, fun _ z => z, rd⟩
    · obtain ⟨o2, vs2, e2, rv2⟩ := s2 a _ ok
      exact ⟨vs2, .inl (.inr ⟨o2, e2⟩), by rw [rv2.length]; exact Nat.le_refl _⟩⟩
theorem di_tup (he : DE T0 X e te) : DI T0 X tg e (iTp te) :=
  pi_imp (pi_tup he) fun σ H R ⟨tx, δ, m, Q', rs, sm, h, le⟩ => ⟨tx, δ, m, _, rs, sm, h, fun d m1 v H1 ⟨xs, ex, q⟩ t1 r1 s1 => by
    subst ex
    obtain ⟨a, vs, ev, e1, rv⟩ := rel_tup.mp r1
    refine ⟨a, ev, ⟨vs, SqT.of e1⟩, le xs _ m1 H1 _ q t1 s1 ⟨fun H2 m2 i d t2 s2 ok hd => ?_, fun H2 m2 t2 s2 ok => ?_⟩⟩
    · obtain ⟨v, hv, rd⟩ := (rv.tx t2).get hd
      refine ⟨⟨vs, v, SqT.of (t2.tup a vs e1), hv⟩, fun x H' ⟨eH, hx⟩ => ?_⟩
      subst eH
      have := hx vs (SqT.of (t2.tup a vs e1))
      rw [hv] at this
      cases this
      exact ⟨Tx.refl _, fun _ z => z, rd⟩
    · exact ⟨vs, SqT.of (t2.tup a vs e1), by rw [rv.length]; exact Nat.le_refl _⟩⟩
theorem itd_r (lo : Int) (n : Nat) (H : Hp) : ItD (Itr lo n) ((List.range n).map fun (k : Nat) => .int (lo + k)) (fun _ => True) H := ⟨fun H2 m2 i d t2 s2 ok hd => by
  have hi : i < n := by
    have := (List.getElem?_eq_some_iff.mp hd).1
    simpa using this
  rw [List.getElem?_map, List.getElem?_range hi] at hd
  cases hd
  refine ⟨hi, fun x H' ⟨eH, hx⟩ => ?_⟩
  subst eH
  exact ⟨Tx.refl _, fun _ z => z, rel_int.mpr hx⟩, fun H2 m2 t2 s2 ok => by
  show n ≤ _
  simp⟩
theorem itd_c (lo c : Int) (n : Nat) (H : Hp) : ItD (Itc lo c n) ((List.range n).map fun (k : Nat) => .int (lo + k * c)) (fun _ => True) H := ⟨fun H2 m2 i d t2 s2 ok hd => by
  have hi : i < n := by
    have := (List.getElem?_eq_some_iff.mp hd).1
    simpa using this
  rw [List.getElem?_map, List.getElem?_range hi] at hd
  cases hd
  refine ⟨hi, fun x H' ⟨eH, hx⟩ => ?_⟩
  subst eH
  exact ⟨Tx.refl _, fun _ z => z, rel_int.mpr hx⟩, fun H2 m2 t2 s2 ok => by
  show n ≤ _
  simp⟩
theorem ints1 {H : Hp} {i : Int} {vs : List V} (r : RelDs H [.int i] vs) : vs = [.int i] := by
  obtain ⟨v, r', rfl, h1, h2⟩ := r.inv
  cases rel_int.mp h1
  cases h2.inv0
  rfl
theorem ints2 {H : Hp} {i j : Int} {vs : List V} (r : RelDs H [.int i, .int j] vs) : vs = [.int i, .int j] := by
  obtain ⟨v, r', rfl, h1, h2⟩ := r.inv
  cases rel_int.mp h1
  cases ints1 h2
  rfl
theorem ints3 {H : Hp} {i j k : Int} {vs : List V} (r : RelDs H [.int i, .int j, .int k] vs) : vs = [.int i, .int j, .int k] := by
  obtain ⟨v, r', rfl, h1, h2⟩ := r.inv
  cases rel_int.mp h1
  cases ints2 h2
  rfl
theorem refs1 {H : Hp} {a : Addr} {vs : List V} (r : RelDs H [.ref a] vs) : vs = [.ref a] := by
  obtain ⟨v, r', rfl, h1, h2⟩ := r.inv
  cases rel_ref.mp h1
  cases h2.inv0
  rfl
theorem di_range1 {a : Expr} {p : Pos} (hg : Gl X "range") (hm : X.mg "range" = none) (ha : DA T0 X [a] ta) (hs : starEach [a] X.env = [(false, eval a X.env)] := by rfl) : DI T0 X tg (.Call (.Name "range" p) [a] [] pos) (iRg1 ta) :=
  pi_imp (pi_range1 hg hm ha hs) fun σ H R ⟨tx, δ, m, Q', rs, sm, h, le⟩ => ⟨tx, δ, m, _, rs, sm, h, fun d m1 v H1 ⟨j, ex, h1, h2, q⟩ t1 r1 s1 => by
    subst ex
    refine ⟨j, ints1 r1, h1, h2, le _ _ m1 H1 _ q t1 s1 ?_⟩
    have := itd_r 0 j.toNat H1
    simpa using this⟩
theorem di_range2 {a b : Expr} {p : Pos} (hg : Gl X "range") (hm : X.mg "range" = none) (ha : DA T0 X [a, b] ta) (hs : starEach [a, b] X.env = [(false, eval a X.env), (false, eval b X.env)] := by rfl) (hs2 : starEach [b] X.env = [(false, eval b X.env)] := by rfl) : DI T0 X tg (.Call (.Name "range" p) [a, b] [] pos) (iRg2 ta) :=
  pi_imp (pi_range2 hg hm ha hs hs2) fun σ H R ⟨tx, δ, m, Q', rs, sm, h, le⟩ => ⟨tx, δ, m, _, rs, sm, h, fun d m1 v H1 ⟨i, j, ex, h1, q⟩ t1 r1 s1 => by
    subst ex
    exact ⟨i, j, ints2 r1, h1, le _ _ m1 H1 _ q t1 s1 (itd_r i (j - i).toNat H1)⟩⟩
theorem di_range3 {a b c : Expr} {p : Pos} (hg : Gl X "range") (hm : X.mg "range" = none) (ha : DA T0 X [a, b, c] ta) (hs : starEach [a, b, c] X.env = (false, eval a X.env) :: starEach [b, c] X.env := by rfl) (hpl : (backTo pos (starEach [b, c] X.env)).any (·.1) = false := by rfl) : DI T0 X tg (.Call (.Name "range" p) [a, b, c] [] pos) (iRg3 ta) :=
  pi_imp (pi_range3 hg hm ha hs hpl) fun σ H R ⟨tx, δ, m, Q', rs, sm, h, le⟩ => ⟨tx, δ, m, _, rs, sm, h, fun d m1 v H1 ⟨i, j, c, n, ex, h1, q⟩ t1 r1 s1 => by
    subst ex
    exact ⟨i, j, c, n, ints3 r1, h1, le _ _ m1 H1 _ q t1 s1 (itd_c i c n H1)⟩⟩
theorem di_reversed {p : Pos} (hg : Gl X "reversed") (hm : X.mg "reversed" = none) (ha : DA T0 X [e] ta) (hs : starEach [e] X.env = [(false, eval e X.env)] := by rfl) : DI T0 X tg (.Call (.Name "reversed" p) [e] [] pos) (iRv ta) :=
  pi_imp (pi_reversed hg hm ha hs) fun σ H R ⟨tx, δ, m, Q', rs, sm, h, le⟩ => ⟨tx, δ, m, _, rs, sm, h, fun d m1 v H1 ⟨a, xs, ex, ea, q⟩ t1 r1 s1 => by
    subst ex
    obtain ⟨vs, e1, rv⟩ := s1 a _ ea
    have hl := rv.length
    refine ⟨a, vs, refs1 r1, SqL.of e1, le _ _ m1 H1 _ q t1 s1 ⟨fun H2 m2 i d t2 s2 ok hd => ?_, fun H2 m2 t2 s2 ok => ?_⟩⟩
    · obtain ⟨vs2, e2, rv2⟩ := s2 a _ ok
      have hl2 := rv2.length
      have hi : i < xs.length := by
        have := (List.getElem?_eq_some_iff.mp hd).1
        simpa using this
      rw [List.getElem?_reverse hi] at hd
      obtain ⟨v, hv, rd⟩ := rv2.get hd
      refine ⟨⟨by omega, vs2, v, SqL.of e2, by rw [← hl]; exact hv⟩, fun x H' ⟨eH, hx⟩ => ?_⟩
      subst eH
      have := hx vs2 (SqL.of e2)
      rw [← hl, hv] at this
      cases this
      exact ⟨Tx.refl _, fun _ z => z, rd⟩
    · show vs.length ≤ _
      simp [hl]⟩
theorem di_enum {p tpos : Pos} {elts : List Expr} {kk : Nat} (hg : Gl X "enumerate") (hm : X.mg "enumerate" = none) (ha : DA T0 X [e] ta) (hs : starEach [e] X.env = [(false, eval e X.env)] := by rfl) : DI T0 X (.Tuple elts kk tpos) (.Call (.Name "enumerate" p) [e] [] pos) (iEn ta) :=
  pi_imp (pi_enum hg hm ha hs) fun σ H R ⟨tx, δ, m, Q', rs, sm, h, le⟩ => ⟨tx, δ, m, _, rs, sm, h, fun d m1 v H1 ⟨a, xs, ex, ea, q⟩ t1 r1 s1 => by
    subst ex
    obtain ⟨vs, e1, rv⟩ := s1 a _ ea
    refine ⟨a, vs, refs1 r1, SqL.of e1, le _ _ m1 H1 _ q t1 s1 ⟨fun H2 m2 i d t2 s2 ok hd => ?_, fun H2 m2 t2 s2 ok => ?_⟩⟩
    · obtain ⟨vs2, e2, rv2⟩ := s2 a _ ok
      rw [List.getElem?_map, List.getElem?_zipIdx] at hd
      cases hx : xs[i]? with
      | none => rw [hx] at hd; cases hd
      | some d0 =>
        rw [hx] at hd
        cases hd
        obtain ⟨v, hv, rd⟩ := rv2.get hx
        refine ⟨⟨vs2, v, SqL.of e2, hv⟩, fun x H' hy => ?_⟩
        obtain ⟨t, y, e3, e4, e5, e6⟩ := hy
        subst e5
        have := e6 vs2 (SqL.of e2)
        rw [hv] at this
        cases this
        refine ⟨Tx.new e4, fun _ z => z.skip e4, ?_⟩
        rw [e3]
        refine rel_new e4 (.cons (rel_int.mpr ?_) (.cons rd .nil))
        simp
    · obtain ⟨vs2, e2, rv2⟩ := s2 a _ ok
      exact ⟨vs2, SqL.of e2, by simp [rv2.length]⟩⟩
end
end G
namespace G
open PySem PySem.Spec PyProof.Rows L2 NdefX LamX
/-! ### comprehensions -/
abbrev E0 : Hp := fun _ => none
theorem tx0 (H : Hp) : Tx E0 H := fun _ _ _ e => nomatch e
def dwipe (δ : DSt) : List Nat → DSt
  | [] => δ
  | v :: vs => (dwipe δ vs).set v none
theorem wipe_get (σ : L2.St) (j : Nat) : ∀ vs : List Nat, (wipe σ vs)[j]? = if j ∈ vs then (σ[j]?).map (fun _ => none) else σ[j]?
  | [] => by simp [wipe]
  | v :: vs => by
    unfold wipe
    rw [List.getElem?_set]
    have ih := wipe_get σ j vs
    by_cases h : v = j
    · subst h
      simp only [if_true, List.mem_cons, true_or]
      rw [wipe_length]
      by_cases hl : v < σ.length
      · rw [if_pos hl, List.getElem?_eq_getElem hl]; rfl
      · rw [if_neg hl, List.getElem?_eq_none (by omega)]; rfl
    · rw [if_neg h, ih]
      have : (j ∈ v :: vs) ↔ j ∈ vs := by
        rw [List.mem_cons]
        exact ⟨fun z => z.elim (fun e => absurd e.symm h) id, .inr⟩
      simp only [this]
theorem wipe_set {σ : L2.St} {i : Nat} {o : Option V} {vs : List Nat} (h : i ∈ vs) : wipe (σ.set i o) vs = wipe σ vs := by
  apply List.ext_getElem?
  intro j
  rw [wipe_get, wipe_get]
  by_cases hj : j ∈ vs
  · rw [if_pos hj, if_pos hj, List.getElem?_set]
    by_cases e : i = j
    · subst e
      by_cases hl : i < σ.length
      · simp [hl]
      · simp [hl]
    · simp [e]
  · rw [if_neg hj, if_neg hj, List.getElem?_set, if_neg (fun e => hj (by rw [← e]; exact h))]
theorem wipe_wipe (σ : L2.St) (vs : List Nat) : wipe (wipe σ vs) vs = wipe σ vs := by
  apply List.ext_getElem?
  intro j
  rw [wipe_get, wipe_get]
  split
  · cases σ[j]? <;> rfl
  · rfl
theorem rel_wipe {H : Hp} {δ : DSt} {σ : L2.St} (r : RelSt H δ σ) : ∀ vs : List Nat, RelSt H (dwipe δ vs) (wipe σ vs)
  | [] => r
  | v :: vs => paired_set (F := RelOD H) (x := none) (y := none) trivial v (rel_wipe r vs)
/-- a comprehension's targets -/
inductive Tg where
  | one (i : Nat) | tup (is : List Nat)
def gNs : List Nat → TGs
  | [] => gNil
  | i :: is => gCons (gName i) (gNs is)
def vTg (K : PySem.W.Frag) : Tg → TG
  | .one i => gName i
  | .tup is => gTup K is.length (gNs is)
def setV (σ : L2.St) : List Nat → List V → L2.St
  | i :: is, v :: vs => setV (σ.set i (some v)) is vs
  | _, _ => σ
def setD (δ : DSt) : List Nat → List D → DSt
  | i :: is, d :: ds => setD (δ.set i (some d)) is ds
  | _, _ => δ
def eTg : Tg → D → DSt → (DSt → Prop) → Prop
  | .one i, d, δ, Q => Q (δ.set i (some d))
  | .tup is, d, δ, Q => ∃ xs, d = .tup xs ∧ xs.length = is.length ∧ Q (setD δ is xs)
def Tg.is : Tg → List Nat
  | .one i => [i]
  | .tup is => is
theorem gNs_ok {H : Hp} {Q : L2.St → Hp → Prop} : ∀ {is : List Nat} {vs : List V} {σ : L2.St}, vs.length = is.length → Q (setV σ is vs) H → gNs is vs σ H Q
  | [], [], σ, _, q => ⟨rfl, q⟩
  | i :: is, v :: vs, σ, hl, q => ⟨v, vs, rfl, gNs_ok (by simpa using hl) q⟩
theorem setV_wipe {vs : List Nat} : ∀ {is : List Nat} {xs : List V} {σ : L2.St}, (∀ i ∈ is, i ∈ vs) → wipe (setV σ is xs) vs = wipe σ vs
  | [], xs, σ, _ => by cases xs <;> rfl
  | i :: is, [], σ, _ => rfl
  | i :: is, x :: xs, σ, h => by
    show wipe (setV (σ.set i (some x)) is xs) vs = _
    rw [setV_wipe fun j hj => h j (List.mem_cons_of_mem _ hj), wipe_set (h i (List.mem_cons_self))]
theorem rel_setD {H : Hp} : ∀ {is : List Nat} {ds : List D} {xs : List V} {δ : DSt} {σ : L2.St}, RelSt H δ σ → RelDs H ds xs → RelSt H (setD δ is ds) (setV σ is xs)
  | [], ds, xs, δ, σ, r, q => by cases ds <;> cases xs <;> exact r
  | i :: is, [], xs, δ, σ, r, q => by cases q.inv0; exact r
  | i :: is, d :: ds, xs, δ, σ, r, q => by
    obtain ⟨v, vr, e, r1, r2⟩ := q.inv
    subst e
    exact rel_setD (δ := δ.set i (some d)) (σ := σ.set i (some v)) (r.set i r1) r2
theorem vTg_ok {K : PySem.W.Frag} {H : Hp} {tg : Tg} {d : D} {x : V} {δ : DSt} {σ : L2.St} {vs : List Nat} {Q : DSt → Prop} {R : L2.St → Hp → Prop} (hv : ∀ i ∈ tg.is, i ∈ vs) (rd : RelD H d x) (rs : RelSt H δ σ) (h : eTg tg d δ Q) (k : ∀ δ2 σ2, Q δ2 → RelSt H δ2 σ2 → wipe σ2 vs = wipe σ vs → R σ2 H) : vTg K tg x σ H R := by
  cases tg with
  | one i => exact k _ _ h (rs.set i rd) (wipe_set (hv i (by simp [Tg.is])))
  | tup is =>
    obtain ⟨xs, e, hl, q⟩ := h
    subst e
    obtain ⟨a, ws, ev, h1, h2⟩ := rel_tup.mp rd
    exact ⟨a, ws, ev, SqT.of h1, by rw [← h2.length]; exact hl, gNs_ok (by rw [← h2.length]; exact hl) (k _ _ q (rel_setD rs h2) (setV_wipe hv))⟩
def dYes : DTT := fun _ m Q => Q true m
def lcR (ok : M → Prop) (tg : Tg) (tt : DTT) (te : DTE) (vs : List Nat) (δ : DSt) (b : Addr) (Q : DK) : List D → List D → M → Prop
  | [], acc, m => ok m ∧ m b = some (.lst acc) ∧ Q (.ref b) m
  | x :: r, acc, m => ok m ∧ eTg tg x (dwipe δ vs) fun δ2 => tt δ2 m fun c m3 => if c = true then te δ2 m3 fun y m4 => m4 b = some (.lst acc) ∧ acc.length < sizeLine ∧ lcR ok tg tt te vs δ b Q r (acc ++ [y]) (put m4 b (.lst (acc ++ [y]))) else lcR ok tg tt te vs δ b Q r acc m3
def dLc (wi : DTI) (tg : Tg) (tt : DTT) (te : DTE) (vs : List Nat) : DTE := fun δ m Q => wi δ m fun items ok m1 => ∀ b, m1 b = none → lcR ok tg tt te vs δ b Q items [] (put m1 b (.lst []))
theorem lst_nk {H : Hp} {a : Addr} {xs : List V} (h : H a = some (.lst xs)) : NK H a := NK.of h (fun _ z => by cases z) (fun _ z => by cases z)
theorem Sm.setL {m : M} {H : Hp} {a : Addr} {xs ys : List D} {vs us : List V} (s : Sm m H) (h : H a = some (.lst vs)) (r : RelDs H ys us) : Sm (put m a (.lst ys)) (L2.upd H a (.lst us)) ∧ Tx H (L2.upd H a (.lst us)) := by
  have n1 := lst_nk h
  exact ⟨s.upd n1 ⟨us, upd_same, r.tx (Tx.upd n1)⟩, Tx.upd n1⟩
theorem lcR_up {J : It} {items : List D} {ok : M → Prop} {K : PySem.W.Frag} {tg : Tg} {tt : DTT} {te : DTE} {vs : List Nat} {δ : DSt} {σ : L2.St} {m1 : M} {H H1 : Hp} {Q' : DK} {Q : VK} (hv : ∀ i ∈ tg.is, i ∈ vs) (I : ItD J items ok H1) (rs : RelSt H1 δ σ) (s1 : Sm m1 H1) (t1 : Tx H H1) (le : Le Q' H Q)
    (h : ∀ b, m1 b = none → lcR ok tg tt te vs δ b Q' items [] (put m1 b (.lst []))) : ∀ b, H1 b = none → ∃ W : Nat → Nat → Hp → Prop, (∃ m, W 0 m (upd H1 b (.lst []))) ∧ ∀ i m H, W i m H →
    (J.stop i H ∧ Q (.ref b) H) ∨ (J.go i H ∧ ∃ Nx : Hp → Prop, (∀ H', Nx H' → ∃ m', m' < m ∧ W (i + 1) m' H') ∧ ∀ x H', J.yld i H x H' → vTg K tg x (wipe σ vs) H' fun σ2 H2 => wipe σ2 vs = wipe σ vs ∧ upT E0 tt σ2 H2 fun c H3 =>
      if c = true then up E0 te σ2 H3 fun y H4 => ∃ acc, H4 b = some (.lst acc) ∧ acc.length < sizeLine ∧ Nx (upd H4 b (.lst (acc ++ [y]))) else Nx H3) := by
  intro b hb
  have q := h b (s1.nil hb)
  refine ⟨fun i k H' => k = items.length - i ∧ i ≤ items.length ∧ Tx H1 H' ∧ ∃ m' acc, Sm m' H' ∧ lcR ok tg tt te vs δ b Q' (items.drop i) acc m', ⟨items.length, by simp, Nat.zero_le _, Tx.new hb, _, [], Sm.new (o := .lst []) s1 hb ⟨[], upd_same, .nil⟩, q⟩, ?_⟩
  rintro i k H2 ⟨rfl, hi, t2, m2, acc, s2, w⟩
  by_cases hlt : i < items.length
  · rw [List.drop_eq_getElem_cons hlt] at w
    obtain ⟨ho, w⟩ := w
    obtain ⟨hgo, hy⟩ := I.go H2 m2 i items[i] t2 s2 ho (List.getElem?_eq_getElem hlt)
    refine .inr ⟨hgo, fun H' => Tx H1 H' ∧ ∃ m' acc, Sm m' H' ∧ lcR ok tg tt te vs δ b Q' (items.drop (i + 1)) acc m', fun H' z => ⟨items.length - (i + 1), by omega, rfl, hlt, z⟩, fun x H3 y => ?_⟩
    obtain ⟨t3, s3, r3⟩ := hy x H3 y
    refine vTg_ok hv r3 (rel_wipe (rs.tx (t2.trans t3)) vs) w fun δ2 σ2 q2 r4 ew => ⟨ew.trans (wipe_wipe σ vs), tx0 _, δ2, m2, _, r4, s3 m2 s2, q2, fun c m3 H4 q3 t4 s4 => ?_⟩
    cases c with
    | false => exact ⟨(t2.trans t3).trans t4, m3, acc, s4, q3⟩
    | true =>
      refine ⟨tx0 _, δ2, m3, _, r4.tx t4, s4, q3, fun d m4 v H5 ⟨e1, hl, w⟩ t5 r5 s5 => ?_⟩
      obtain ⟨us, e2, ru⟩ := s5 b _ e1
      obtain ⟨s6, t6⟩ := s5.setL (xs := acc) e2 (ru.snoc r5)
      exact ⟨us, e2, by rw [← ru.length]; exact hl, (((t2.trans t3).trans t4).trans t5).trans t6, _, _, s6, w⟩
  · have e : i = items.length := by omega
    subst e
    rw [List.drop_length] at w
    obtain ⟨ho, e1, w⟩ := w
    exact .inl ⟨I.stop H2 m2 t2 s2 ho, le _ m2 _ H2 w (t1.trans t2) (rel_ref.mpr rfl) s2⟩
section
variable {T0 : Hp} {X : Cx} {pos : Pos}
theorem dts_nil : PTs X [] (upT E0 dYes) := ⟨fun pins s σ H Q I ⟨tx, δ, m, Q', rs, sm, q, le⟩ => pts_nil.run pins s σ H Q I (le true m H q (Tx.refl H) sm)⟩
theorem dts_one {c : Expr} {t : DTT} (h : DT E0 X c t) : PTs X [c] (upT E0 t) := pts_one h
theorem de_lc {elt tg iter : Expr} {ifs : List Expr} {scope : Scope} {own : List (Str × Nat)} {wi : DTI} (g : Tg) {tt : DTT} {te : DTE} (hc : X.calm = true) (hN : X.N.Nodup) (hi : DI T0 X tg iter wi) (ok : BlkOk X.N X.env.scope scope own)
    (hv : ∀ i ∈ g.is, i ∈ own.map (·.2))
    (hg : ∀ (s : Shared) (H : Hp) (C : Addr) (cl : List (Str × Addr)) (fp : List Addr), PG (X.blk s H scope (compEnvC scope cl C X.env) fp) tg (vTg X.K g)) (ht : ∀ (s : Shared) (H : Hp) (C : Addr) (cl : List (Str × Addr)) (fp : List Addr), PTs (X.blk s H scope (compEnvC scope cl C X.env) fp) ifs (upT E0 tt))
    (he : ∀ (s : Shared) (H : Hp) (C : Addr) (cl : List (Str × Addr)) (fp : List Addr), DE E0 (X.blk s H scope (compEnvC scope cl C X.env) fp) elt te) (hs : ∀ x, foldedSetIterable iter X.env x = pure x := by intro _; rfl) :
    DE T0 X (.ListComp elt [⟨tg, iter, ifs, 0⟩] scope pos) (dLc wi g tt te (own.map (·.2))) :=
  pe_imp (pe_lc hc hN hi ok hg ht he hs) fun σ H Q ⟨tx, δ, m, Q', rs, sm, h, le⟩ => ⟨tx, δ, m, _, rs, sm, h, fun items okp m1 H1 J q t1 s1 I => lcR_up hv I (rs.tx t1) s1 t1 le q⟩
theorem ds_setLc {i : Nat} {y : Str} {py : Pos} {elt tg iter : Expr} {ifs : List Expr} {scope : Scope} {own : List (Str × Nat)} {spos : Pos} {wi : DTI} (g : Tg) {tt : DTT} {te : DTE} (hc : X.calm = true) (hN : X.N.Nodup) (hy : X.N[i]? = some y) (hyl : X.env.scope.names.lookup y = some .local)
    (hsw : swapsWith (.ListComp elt [⟨tg, iter, ifs, 0⟩] scope pos) (some (.Name y py)) spos.line X.env = pure true) (hi : DI T0 X tg iter wi) (ok : BlkOk X.N X.env.scope scope own)
    (hv : ∀ i ∈ g.is, i ∈ own.map (·.2))
    (hg : ∀ (s : Shared) (H : Hp) (C : Addr) (cl : List (Str × Addr)) (fp : List Addr), PG (X.blk s H scope (compEnvC scope cl C X.env) fp) tg (vTg X.K g)) (ht : ∀ (s : Shared) (H : Hp) (C : Addr) (cl : List (Str × Addr)) (fp : List Addr), PTs (X.blk s H scope (compEnvC scope cl C X.env) fp) ifs (upT E0 tt))
    (he : ∀ (s : Shared) (H : Hp) (C : Addr) (cl : List (Str × Addr)) (fp : List Addr), DE E0 (X.blk s H scope (compEnvC scope cl C X.env) fp) elt te) (hs : ∀ x, foldedSetIterable iter X.env x = pure x := by intro _; rfl) :
    DS T0 X (.Assign [.Name y py] (.ListComp elt [⟨tg, iter, ifs, 0⟩] scope pos) spos) (sAsg (dLc wi g tt te (own.map (·.2))) (eName i)) :=
  ps_imp (ps_setLc hc hN hy hyl hsw hi ok hg ht he hs) fun N σ H ⟨tx, δ, m, N', rs, sm, h, le⟩ => ⟨tx, δ, m, _, rs, sm, h, fun items okp m1 H1 J q t1 s1 I => lcR_up hv I (rs.tx t1) s1 t1 (fun d m' v H' z t r s => le.nx _ m' _ H' z t ((rs.tx t).set i r) s) q⟩
end
end G
namespace G
open PySem PySem.Spec PyProof.Rows L2 NdefX LamX
/-! ### what leaves by an exception -/
abbrev DWX := Value → Option Addr → DSt → M → Prop
def TK (T0 : Hp) (X : Cx) (W : DWX) : Prop := ∃ WV : WX, Takes X WV ∧ ∀ cls d δ m σ H, W cls d δ m → Tx T0 H → RelSt H δ σ → Sm m H → WV cls d σ H
abbrev W0 : DWX := fun _ _ _ _ => False
theorem tk0 {T0 : Hp} {X : Cx} : TK T0 X W0 := ⟨fun _ _ _ _ => False, L2.takes0, fun _ _ _ _ _ _ z => z.elim⟩
/-! ### contracts -/
/-- a def by its name -/
def Dd (P : Program) (w : World) (K : PySem.W.Frag) (mg : Str → Option Value) (base : Heap) (gd : Bool) (k : Nat) (x : Str) (ps : List Str) (dvs : List D) (sp : DSp) : Prop := ∃ vs, (∀ H, RelDs H dvs vs) ∧ Df P w K mg base gd k x ps vs (upSp sp)
def DdK (P : Program) (w : World) (K : PySem.W.Frag) (mg : Str → Option Value) (base : Heap) (gd : Bool) (k : Nat) (x : Str) (ps : List Str) (n : Nat) (ks : List Str) (gD : List D → List D → List D) (sp : DSp) : Prop :=
  ∃ gV, (∀ H ds es vs us, RelDs H ds vs → RelDs H es us → RelDs H (gD ds es) (gV vs us)) ∧ DfK P w K mg base gd k x ps n ks gV (upSp sp)
/-- a method, by its name, of the classes isC -/
def Dx (P : Program) (w : World) (K : PySem.W.Frag) (mg : Str → Option Value) (base : Heap) (gd : Bool) (k : Nat) (m : Str) (ps : List Str) (dvs : List D) (isC : Addr → Prop) (sp : Addr → DSp) : Prop := ∃ vs, (∀ H, RelDs H dvs vs) ∧ ∀ C, isC C → Dm P w K mg base gd k C m ps vs (upSp (sp C))
/-- a class that is made by its name -/
def Dn' (P : Program) (w : World) (K : PySem.W.Frag) (mg : Str → Option Value) (base : Heap) (gd : Bool) (k : Nat) (C : Addr) (x : Str) (ps : List Str) (dvs : List D) (sp : DSp) : Prop := ∃ vs, (∀ H, RelDs H dvs vs) ∧ Dn P w K mg base gd k C x ps vs (upSp sp)
def dCall (sp : DSp) (dvs : List D) (W : DWX) (t : DTA) : DTE := fun δ m Q => t δ m fun ds m1 => sp (ds ++ dvs) m1 Q fun cls d m' => W cls d δ m'
def dMeth (x : Str) (isC : Addr → Prop) (sp : Addr → DSp) (dvs : List D) (W : DWX) (ta : DTE) (t : DTA) : DTE := fun δ m Q => ta δ m fun o m1 => ∃ a C dx fs, o = .ref a ∧ m1 a = some (.ins C dx fs) ∧ isC C ∧ fs.lookup x = none ∧
  t δ m1 fun ds m2 => sp C (o :: (ds ++ dvs)) m2 Q fun cls d m' => W cls d δ m'
def dMake (C : Addr) (sp : DSp) (dvs : List D) (W : DWX) (t : DTA) : DTE := fun δ m Q => t δ m fun ds m1 => ∀ x dx, m1 x = none → x ≠ dx → sp (.ref x :: (ds ++ dvs)) (put m1 x (.ins C dx [])) (fun d m2 => d = .non ∧ Q (.ref x) m2) fun cls d m' => W cls d δ m'
def tMethV (x : Str) (isC : Addr → Prop) (sp : Addr → Sp) (dvs : List V) (W : WX) (ta : TE) (t : TA) : TE := fun σ H Q => ta σ H fun o H1 => ∃ a C dx fs, o = .ref a ∧ H1 a = some (.ins C dx fs) ∧ isC C ∧ fs.lookup x = none ∧
  t σ H1 fun vs H2 => sp C (o :: (vs ++ dvs)) H2 Q fun cls d H' => W cls d σ H'
def tMakeT (C : Addr) (sp : Sp) (dvs : List V) (W : WX) (t : TA) : TE := fun σ H Q => t σ H fun vs H1 => ∀ x dx, H1 x = none → H1 dx = none → dx ≠ x → sp (.ref x :: (vs ++ dvs)) (upd (upd H1 dx (.own x)) x (.ins C dx [])) (fun v H2 => v = .non ∧ Q (.ref x) H2) fun cls d H' => W cls d σ H'
section
variable {T0 : Hp} {X : Cx} {gd : Bool} {j k n : Nat} {C : Addr} {ps ks : List Str} {x m : Str} {p pos apos : Pos} {e o : Expr} {es : List Expr} {kws : List Keyword}
theorem pe_methV {isC : Addr → Prop} {sp : Addr → Sp} {dvs : List V} {W : WX} {ta : TE} {t : TA} {pl : Sem Bool} (he : PE X o ta) (D : ∀ C, isC C → Dm X.prog X.w X.K X.mg X.base gd k C m ps dvs (sp C)) (hr : RoomG gd j X.A) (tk : Takes X W) (ha : PA X (e :: es) t) (hk : k ≤ j := by decide)
    (hst : starEach (e :: es) X.env = (false, eval e X.env) :: starEach es X.env := by rfl) (hpl : (backTo pos (starEach es X.env)).any (·.1) = false := by rfl)
    (ht : eval (.Call (.Attribute o m apos) (e :: es) [] pos) X.env = (do
      let ov ← eval o X.env
      standAt apos.atName
      let (f, first) ← holding [ov] (getMethod ov m pl)
      callWith pos f first (backTo pos (starEach (e :: es) X.env)) (backToKw pos (keywordEach [] X.env))) := by rfl) :
    PE X (.Call (.Attribute o m apos) (e :: es) [] pos) (tMethV m isC sp dvs W ta t) := by
  refine ⟨fun pins s σ H Q I h => ?_⟩
  refine PySem.W.methodCall_KW (pl := pl) (thn (he.run pins s σ H _ I h) fun u s1 ⟨x, H1, I1, rx, a, C, dx, fs, ex, ea, hC, l, q⟩ => ?_) ht
  subst ex
  obtain rfl : u = Value.ref a := rx
  obtain ⟨f, fd, ds, h1, h2, h3, h4, h5⟩ := D C hC
  refine getmeth_ok I1 ea h1 h2 l ?_
  refine PySem.W.callWith_K (first := [.ref a]) (h₀ := X.base) I.ok.mod.kin h2.kp (thn (ha.run pos pins s1 σ H1 _ I1 q) fun us s2 ⟨vs, H2, I2, r, q2⟩ => ⟨I2.kIn, ?_⟩) hst hpl
  exact run_fnT (us := .ref a :: us) (vs := .ref a :: vs) h5 (hr.mono hk) h4 h3 tk I2 (.cons rfl r) q2 (E := fun _ _ _ => False)
theorem pe_meth0V {isC : Addr → Prop} {sp : Addr → Sp} {dvs : List V} {W : WX} {ta : TE} {pl : Sem Bool} (he : PE X o ta) (D : ∀ C, isC C → Dm X.prog X.w X.K X.mg X.base gd k C m ps dvs (sp C)) (hr : RoomG gd j X.A) (tk : Takes X W) (hk : k ≤ j := by decide)
    (ht : eval (.Call (.Attribute o m apos) [] [] pos) X.env = (do
      let ov ← eval o X.env
      standAt apos.atName
      let (f, first) ← holding [ov] (getMethod ov m pl)
      callWith pos f first (backTo pos (starEach [] X.env)) (backToKw pos (keywordEach [] X.env))) := by rfl) :
    PE X (.Call (.Attribute o m apos) [] [] pos) (tMethV m isC sp dvs W ta tNil) := by
  refine ⟨fun pins s σ H Q I h => ?_⟩
  refine PySem.W.methodCall_KW (pl := pl) (thn (he.run pins s σ H _ I h) fun u s1 ⟨x, H1, I1, rx, a, C, dx, fs, ex, ea, hC, l, q⟩ => ?_) ht
  subst ex
  obtain rfl : u = Value.ref a := rx
  obtain ⟨f, fd, ds, h1, h2, h3, h4, h5⟩ := D C hC
  refine getmeth_ok I1 ea h1 h2 l ?_
  exact PySem.W.callWith_K0 (first := [.ref a]) I1.kIn h2.kp (run_fnT (us := [.ref a]) (vs := [.ref a]) h5 (hr.mono hk) h4 h3 tk I1 (.cons rfl .nil) q (E := fun _ _ _ => False))
theorem run_makeT {f : Addr} {fd : FuncData} {sp : Sp} {ds : List Value} {dvs : List V} {W : WX} {pins : List (Addr × Obj)} {σ : L2.St} {H : Hp} {s : Shared} {Q : VK} {us : List Value} {vs : List V} (M : Mk X.K C f) (F : FnG X.prog X.w X.K X.mg X.base gd k f fd ps sp) (hr : RoomG gd (k + 1) X.A) (hb : Binds X.K fd ps ds) (hd : Vals dvs ds)
    (tk : Takes X W) (I : Inv X pins σ H s) (r : Vals vs us)
    (h : ∀ x dx, H x = none → H dx = none → dx ≠ x → sp (.ref x :: (vs ++ dvs)) (upd (upd H dx (.own x)) x (.ins C dx [])) (fun v H2 => v = .non ∧ Q (.ref x) H2) fun cls d H' => W cls d σ H') :
    wpAny (model X.prog X.w) X.A (call (.ref C) us) (EP X pins σ Q) X.xe s := by
  have hq := h (s.heap.objs.size + 1) s.heap.objs.size (I.hok.fresh (Nat.le_succ _)) (I.hok.fresh (Nat.le_refl _)) (Nat.ne_of_lt (Nat.lt_succ_self _))
  have I2 := Inv.made (C := C) I
  have r2 : Vals (V.ref (s.heap.objs.size + 1) :: (vs ++ dvs)) (Value.ref (s.heap.objs.size + 1) :: (us ++ ds)) := .cons rfl (r.append hd)
  have hl : (Value.ref (s.heap.objs.size + 1) :: us ++ ds).length = ps.length := (r2.length.symm.trans (F.len _ _ _ _ hq))
  refine wpAny_call (make_map (f := f) I.kIn M.makes M.init (beq_iff_eq.mp M.fn) (codeAny_mono (F.run _ X.stack _ _ ⟨Value.ref (s.heap.objs.size + 1) :: us, []⟩ (Value.ref (s.heap.objs.size + 1) :: (us ++ ds)) _ _ _ (hr.make C us [])
    (I2.env0.make C us []) (hb _ (Value.ref (s.heap.objs.size + 1) :: us) I2.kIn hl) r2 hq) fun r s' hq' => ?_))
  match r, hq' with
  | .error e, hq' => exact passAt tk σ pins _ _ e s' I2 hq'
  | .ok (.ret u), hq' =>
    obtain ⟨v, H', I3, rv, ev, q3⟩ := I2.after hq'
    subst ev
    exact ⟨rv, ⟨V.ref (s.heap.objs.size + 1), H', I3, rfl, q3⟩⟩
theorem pe_makeTD {sp : Sp} {dvs : List V} {W : WX} {t : TA} (D : Dn X.prog X.w X.K X.mg X.base gd k C x ps dvs sp) (hr : RoomG gd j X.A) (hg : Gl X x) (tk : Takes X W) (ha : PA X (e :: es) t) (hk : k + 1 ≤ j := by decide)
    (hdb : (x == ("__debug__" : Str)) = false := by decide) (he : starEach (e :: es) X.env = (false, eval e X.env) :: starEach es X.env := by rfl) (hpl : (backTo pos (starEach es X.env)).any (·.1) = false := by rfl) :
    PE X (.Call (.Name x p) (e :: es) [] pos) (tMakeT C sp dvs W t) := by
  obtain ⟨f, fd, ds, h1, h2, h3, h4, h5⟩ := D
  exact ⟨fun pins s σ H Q I h => wpAny_Call_Name_kw (ld_glob I hg h1 (PySem.W.callWith_K (h₀ := X.base) I.ok.mod.kin h2.kp (thn (ha.run pos pins s σ H _ I h) fun us s1 ⟨vs, H1, I1, r, q⟩ => ⟨I1.kIn, run_makeT h2 h5 (hr.mono hk) h4 h3 tk I1 r q⟩) he hpl) hdb)⟩
theorem pe_make0TD {sp : Sp} {dvs : List V} {W : WX} (D : Dn X.prog X.w X.K X.mg X.base gd k C x ps dvs sp) (hr : RoomG gd j X.A) (hg : Gl X x) (tk : Takes X W) (hk : k + 1 ≤ j := by decide)
    (hdb : (x == ("__debug__" : Str)) = false := by decide) : PE X (.Call (.Name x p) [] [] pos) (tMakeT C sp dvs W tNil) := by
  obtain ⟨f, fd, ds, h1, h2, h3, h4, h5⟩ := D
  exact ⟨fun pins s σ H Q I h => wpAny_Call_Name_kw (ld_glob I hg h1 (PySem.W.callWith_K0 I.kIn h2.kp (run_makeT (us := []) h2 h5 (hr.mono hk) h4 h3 tk I .nil h)) hdb)⟩
/-! lifted -/
variable {sp : DSp} {dvs : List D} {W : DWX} {ta : DTE} {t : DTA}
theorem call_up {WV : WX} {vs : List V} {σ : L2.St} {H : Hp} {Q : VK} (hd : ∀ H, RelDs H dvs vs) (hW : ∀ cls d δ m σ H, W cls d δ m → Tx T0 H → RelSt H δ σ → Sm m H → WV cls d σ H) (h : up T0 (dCall sp dvs W t) σ H Q) : tCallT (upSp sp) vs WV (upA T0 t) σ H Q := by
  obtain ⟨tx, δ, m, Q', rs, sm, h, le⟩ := h
  exact ⟨tx, δ, m, _, rs, sm, h, fun ds m1 us H1 h1 t1 r1 s1 => ⟨ds ++ dvs, m1, Q', _, r1.app (hd H1), s1, h1, le.tx t1, fun cls d m' H' w t' s' => hW cls d δ m' σ H' w ((tx.trans t1).trans t') (rs.tx (t1.trans t')) s'⟩⟩
theorem upA_nil {σ : L2.St} {H : Hp} {Q : List V → Hp → Prop} (h : upA T0 dNil σ H Q) : tNil σ H Q := by
  obtain ⟨tx, δ, m, Q', rs, sm, h, le⟩ := h
  exact le [] m [] H h (Tx.refl H) .nil sm
theorem de_call (D : Dd X.prog X.w X.K X.mg X.base gd k x ps dvs sp) (hr : RoomG gd j X.A) (hg : Gl X x) (tk : TK T0 X W) (ha : DA T0 X (e :: es) t) (hk : k ≤ j := by decide)
    (hdb : (x == ("__debug__" : Str)) = false := by decide) (he : starEach (e :: es) X.env = (false, eval e X.env) :: starEach es X.env := by rfl) (hpl : (backTo pos (starEach es X.env)).any (·.1) = false := by rfl) :
    DE T0 X (.Call (.Name x p) (e :: es) [] pos) (dCall sp dvs W t) := by
  obtain ⟨vs, hd, D⟩ := D
  obtain ⟨WV, tk, hW⟩ := tk
  exact pe_imp (pe_callTD D hr hg tk ha hk hdb he hpl) fun σ H Q h => call_up hd hW h
theorem de_call0 (D : Dd X.prog X.w X.K X.mg X.base gd k x ps dvs sp) (hr : RoomG gd j X.A) (hg : Gl X x) (tk : TK T0 X W) (hk : k ≤ j := by decide)
    (hdb : (x == ("__debug__" : Str)) = false := by decide) : DE T0 X (.Call (.Name x p) [] [] pos) (dCall sp dvs W dNil) := by
  obtain ⟨vs, hd, D⟩ := D
  obtain ⟨WV, tk, hW⟩ := tk
  exact pe_imp (pe_call0TD D hr hg tk hk hdb) fun σ H Q h => upA_nil (call_up hd hW h)
theorem meth_up {isC : Addr → Prop} {sp : Addr → DSp} {WV : WX} {vs : List V} {σ : L2.St} {H : Hp} {Q : VK} (hd : ∀ H, RelDs H dvs vs) (hW : ∀ cls d δ m σ H, W cls d δ m → Tx T0 H → RelSt H δ σ → Sm m H → WV cls d σ H) (h : up T0 (dMeth m isC sp dvs W ta t) σ H Q) : tMethV m isC (fun C => upSp (sp C)) vs WV (up T0 ta) (upA T0 t) σ H Q := by
  obtain ⟨tx, δ, m, Q', rs, sm, h, le⟩ := h
  refine ⟨tx, δ, m, _, rs, sm, h, fun o m1 v H1 h1 t1 r1 s1 => ?_⟩
  obtain ⟨a, C, dx, fs, ex, ea, hC, hl, h1⟩ := h1
  subst ex
  cases rel_ref.mp r1
  obtain ⟨ws, e1, pk⟩ := s1 a _ ea
  exact ⟨a, C, dx, ws, rfl, e1, hC, (pk.lookup _).2 hl, tx.trans t1, δ, m1, _, rs.tx t1, s1, h1, fun ds m2 us H2 h2 t2 r2 s2 => ⟨.ref a :: (ds ++ dvs), m2, Q', _, .cons (rel_ref.mpr rfl) (r2.app (hd H2)), s2, h2, le.tx (t1.trans t2), fun cls d m' H' w t' s' => hW cls d δ m' σ H' w (((tx.trans t1).trans t2).trans t') (rs.tx ((t1.trans t2).trans t')) s'⟩⟩
theorem de_meth {isC : Addr → Prop} {sp : Addr → DSp} {pl : Sem Bool} (he : DE T0 X o ta) (D : Dx X.prog X.w X.K X.mg X.base gd k m ps dvs isC sp) (hr : RoomG gd j X.A) (tk : TK T0 X W) (ha : DA T0 X (e :: es) t) (hk : k ≤ j := by decide)
    (hst : starEach (e :: es) X.env = (false, eval e X.env) :: starEach es X.env := by rfl) (hpl : (backTo pos (starEach es X.env)).any (·.1) = false := by rfl)
    (ht : eval (.Call (.Attribute o m apos) (e :: es) [] pos) X.env = (do
      let ov ← eval o X.env
      standAt apos.atName
      let (f, first) ← holding [ov] (getMethod ov m pl)
      callWith pos f first (backTo pos (starEach (e :: es) X.env)) (backToKw pos (keywordEach [] X.env))) := by rfl) :
    DE T0 X (.Call (.Attribute o m apos) (e :: es) [] pos) (dMeth m isC sp dvs W ta t) := by
  obtain ⟨vs, hd, D⟩ := D
  obtain ⟨WV, tk, hW⟩ := tk
  exact pe_imp (pe_methV he D hr tk ha hk hst hpl ht) fun σ H Q h => meth_up hd hW h
theorem de_meth0 {isC : Addr → Prop} {sp : Addr → DSp} {pl : Sem Bool} (he : DE T0 X o ta) (D : Dx X.prog X.w X.K X.mg X.base gd k m ps dvs isC sp) (hr : RoomG gd j X.A) (tk : TK T0 X W) (hk : k ≤ j := by decide)
    (ht : eval (.Call (.Attribute o m apos) [] [] pos) X.env = (do
      let ov ← eval o X.env
      standAt apos.atName
      let (f, first) ← holding [ov] (getMethod ov m pl)
      callWith pos f first (backTo pos (starEach [] X.env)) (backToKw pos (keywordEach [] X.env))) := by rfl) :
    DE T0 X (.Call (.Attribute o m apos) [] [] pos) (dMeth m isC sp dvs W ta dNil) := by
  obtain ⟨vs, hd, D⟩ := D
  obtain ⟨WV, tk, hW⟩ := tk
  refine pe_imp (pe_meth0V he D hr tk hk ht) fun σ H Q h => ?_
  obtain ⟨tx, δ, m', Q', rs, sm, h, le⟩ := meth_up hd hW h
  refine ⟨tx, δ, m', _, rs, sm, h, fun o m1 v H1 h1 t1 r1 s1 => ?_⟩
  obtain ⟨a, C, dx, fs, ex, ea, hC, hl, h2⟩ := le o m1 v H1 h1 t1 r1 s1
  exact ⟨a, C, dx, fs, ex, ea, hC, hl, upA_nil h2⟩
theorem make_up {WV : WX} {vs : List V} {σ : L2.St} {H : Hp} {Q : VK} (hd : ∀ H, RelDs H dvs vs) (hW : ∀ cls d δ m σ H, W cls d δ m → Tx T0 H → RelSt H δ σ → Sm m H → WV cls d σ H) (h : up T0 (dMake C sp dvs W t) σ H Q) : tMakeT C (upSp sp) vs WV (upA T0 t) σ H Q := by
  obtain ⟨tx, δ, m, Q', rs, sm, h, le⟩ := h
  refine ⟨tx, δ, m, _, rs, sm, h, fun ds m1 us H1 h1 t1 r1 s1 x dx nx ndx ne => ?_⟩
  have q := h1 x dx (s1.nil nx) (Ne.symm ne)
  have n2 : (L2.upd H1 dx (.own x)) x = none := by rw [upd_ne (Ne.symm ne)]; exact nx
  have t2 : Tx H1 (L2.upd (L2.upd H1 dx (.own x)) x (.ins C dx [])) := (Tx.new ndx).trans (Tx.new n2)
  have s2 : Sm (put m1 x (.ins C dx [])) (L2.upd (L2.upd H1 dx (.own x)) x (.ins C dx [])) := Sm.new (o := .ins C dx []) (s1.skip ndx) n2 ⟨[], upd_same, .nil⟩
  refine ⟨.ref x :: (ds ++ dvs), _, _, _, .cons (rel_ref.mpr rfl) ((r1.app (hd H1)).tx t2), s2, q, fun d m3 v H3 ⟨ed, q3⟩ t3 r3 s3 => ?_, fun cls d m' H' w t' s' => hW cls d δ m' σ H' w (((tx.trans t1).trans t2).trans t') (rs.tx ((t1.trans t2).trans t')) s'⟩
  subst ed
  exact ⟨rel_non.mp r3, le _ m3 _ H3 q3 ((t1.trans t2).trans t3) (rel_ref.mpr rfl) s3⟩
theorem de_make (D : Dn' X.prog X.w X.K X.mg X.base gd k C x ps dvs sp) (hr : RoomG gd j X.A) (hg : Gl X x) (tk : TK T0 X W) (ha : DA T0 X (e :: es) t) (hk : k + 1 ≤ j := by decide)
    (hdb : (x == ("__debug__" : Str)) = false := by decide) (he : starEach (e :: es) X.env = (false, eval e X.env) :: starEach es X.env := by rfl) (hpl : (backTo pos (starEach es X.env)).any (·.1) = false := by rfl) :
    DE T0 X (.Call (.Name x p) (e :: es) [] pos) (dMake C sp dvs W t) := by
  obtain ⟨vs, hd, D⟩ := D
  obtain ⟨WV, tk, hW⟩ := tk
  exact pe_imp (pe_makeTD D hr hg tk ha hk hdb he hpl) fun σ H Q h => make_up hd hW h
theorem de_make0 (D : Dn' X.prog X.w X.K X.mg X.base gd k C x ps dvs sp) (hr : RoomG gd j X.A) (hg : Gl X x) (tk : TK T0 X W) (hk : k + 1 ≤ j := by decide)
    (hdb : (x == ("__debug__" : Str)) = false := by decide) : DE T0 X (.Call (.Name x p) [] [] pos) (dMake C sp dvs W dNil) := by
  obtain ⟨vs, hd, D⟩ := D
  obtain ⟨WV, tk, hW⟩ := tk
  exact pe_imp (pe_make0TD D hr hg tk hk hdb) fun σ H Q h => upA_nil (make_up hd hW h)
end
/-! ### THE RULE for a def -/
def dstart (N : List Str) (ds : List D) : DSt := ds.map some ++ List.replicate (N.length - ds.length) none
theorem rel_start {H : Hp} {N : List Str} {ds : List D} {vs : List V} (r : RelDs H ds vs) : RelSt H (dstart N ds) (start N vs) := by
  have e : start N vs = vs.map some ++ List.replicate (N.length - vs.length) none := rfl
  rw [e, ← r.length]
  refine paired_app ?_ ?_
  · have : ∀ {ds : List D} {vs : List V}, Paired (RelD H) ds vs → Paired (RelOD H) (ds.map some) (vs.map some) := by
      intro ds vs h
      induction h with
      | nil => exact .nil
      | cons a b ih => exact .cons ⟨_, rfl, a⟩ ih
    exact this (relDs_iff.mp r)
  · generalize N.length - ds.length = n
    induction n with
    | zero => exact .nil
    | succ n ih => exact .cons trivial ih
/-- a part of m will do -/
def Wk (R : M → Prop) (m : M) : Prop := ∃ m', Sub m' m ∧ R m'
theorem Wk.of {R : M → Prop} {m m' : M} (h : R m') (s : Sub m' m) : Wk R m := ⟨m', s, h⟩
theorem Wk.here {R : M → Prop} {m : M} (h : R m) : Wk R m := ⟨m, Sub.refl m, h⟩
def endsOf (Q : DK) : DEnds := { nx := fun _ m => Wk (Q .non) m, rt := fun d m => Wk (Q d) m }
def wOf (E : DXK) : DWX := fun cls d _ m => Wk (E cls d) m
section
variable {P : Program} {w : World} {K : PySem.W.Frag} {mg : Str → Option Value} {base : Heap} {gd : Bool} {k j : Nat} {f : Addr} {fd : FuncData} {ps : List Str} {sp : DSp}
theorem okD {x qual : Str} {params : Arguments} {body : List Stmt} {scope : Scope} {dvs : List V} {kws : List (Str × V)} {N : List Str} (F : FunD K x qual params body scope dvs kws f fd) (S : FnScope N ps scope) (len : ∀ ds m Q E, sp ds m Q E → ds.length = ps.length)
    (hbody : ∀ (cdv : Value) (A : Around) (outer : List Env) (s : Shared) (H : Hp) (EV : XK) (ds : List D) (m : M) (Q : DK) (E : DXK), RoomG gd k (A.deeper (envOfC qual scope s.heap.objs.size f cdv)) → TK H (cxOf (L2.CX P w) P w K mg base N qual scope f cdv A outer s H EV) (wOf E) → sp ds m Q E →
      ∃ t, DSs H (cxOf (L2.CX P w) P w K mg base N qual scope f cdv A outer s H EV) body t ∧ t (endsOf Q) (dstart N ds) m) : FnG P w K mg base gd (k + 1) f fd ps (upSp sp) := by
  refine okG F S (fun vs H Q E ⟨ds, m, Q', E', r, _, h, _⟩ => by rw [← r.length]; exact len _ _ _ _ h) fun cdv A outer s H vs Q E hr ⟨ds, m, Q', E', r, sm, h, le, lx⟩ => ?_
  obtain ⟨t, ht, q⟩ := hbody cdv A outer s H E ds m Q' E' hr ⟨_, takeE, fun cls d δ m' σ H' ⟨m2, sb, hw⟩ tx _ s' => lx cls d m2 H' hw tx (s'.sub sb)⟩ h
  refine ⟨_, ht, Tx.refl H, dstart N ds, m, endsOf Q', rel_start r, sm, q, ⟨fun δ m' σ H' ⟨m2, sb, q2⟩ t' _ s' => le _ m2 _ H' q2 t' (rel_non.mpr rfl) (s'.sub sb), fun d m' v H' ⟨m2, sb, q2⟩ t' r' s' => le _ m2 _ H' q2 t' r' (s'.sub sb), fun _ _ _ _ z => z.elim, fun _ _ _ _ z => z.elim⟩⟩
end
end G
namespace G
open PySem PySem.Spec PyProof.Rows L2 NdefX LamX
/-! ### operators -/
theorem opR_up {T0 : Hp} {X : Cx} {f : Value → Value → Sem Value} {r : R2} {dr : DR2} (h : OpR X f r) (i : ∀ x y H Q d e m Q', RelD H d x → RelD H e y → Sm m H → dr d e m Q' → Le Q' H Q → r x y H Q) : OpR X f (upR T0 dr) :=
  fun pins s σ H x y v u Q I rx ry ⟨_, d, e, m, Q', r1, r2, sm, h', le⟩ => h pins s σ H x y v u Q I rx ry (i x y H Q d e m Q' r1 r2 sm h' le)
theorem ixR_up {T0 : Hp} {X : Cx} {r : R2} {dr : DR2} (h : IxR X r) (i : ∀ x y H Q d e m Q', RelD H d x → RelD H e y → Sm m H → dr d e m Q' → Le Q' H Q → r x y H Q) : IxR X (upR T0 dr) :=
  fun value slice pins s σ H x y v u Q I rx ry ⟨_, d, e, m, Q', r1, r2, sm, h', le⟩ hs => h value slice pins s σ H x y v u Q I rx ry (i x y H Q d e m Q' r1 r2 sm h' le) hs
theorem callR_up {T0 : Hp} {X : Cx} {f : Value} {r : List V → Hp → VK → Prop} {dr : List D → M → DK → Prop} (h : CallR X f r) (i : ∀ xs H Q ds m Q', RelDs H ds xs → Sm m H → dr ds m Q' → Le Q' H Q → r xs H Q) : CallR X f (upC T0 dr) :=
  fun pins s σ H xs us Q I rx ⟨_, ds, m, Q', r1, sm, h', le⟩ => h pins s σ H xs us Q I rx (i xs H Q ds m Q' r1 sm h' le)
def dI0 (g : Int → Int → D) : DR2 := fun d e m Q => ∃ i j, d = .int i ∧ e = .int j ∧ Q (g i j) m
def dI (C : Int → Int → Prop) (g : Int → Int → D) : DR2 := fun d e m Q => ∃ i j, d = .int i ∧ e = .int j ∧ C i j ∧ Q (g i j) m
section
variable {T0 : Hp} {X : Cx}
theorem up_I0 {f : Value → Value → Sem Value} {gv : Int → Int → V} {g : Int → Int → D} (h : OpR X f (rI0 gv)) (hg : ∀ H i j, RelD H (g i j) (gv i j)) : OpR X f (upR T0 (dI0 g)) := opR_up h fun x y H Q d e m Q' r1 r2 sm ⟨i, j, e1, e2, q⟩ le => by
  subst e1 e2
  exact ⟨i, j, rel_int.mp r1, rel_int.mp r2, le _ m _ H q (Tx.refl H) (hg H i j) sm⟩
theorem up_I {f : Value → Value → Sem Value} {C : Int → Int → Prop} {gv : Int → Int → V} {g : Int → Int → D} (h : OpR X f (rI C gv)) (hg : ∀ H i j, RelD H (g i j) (gv i j)) : OpR X f (upR T0 (dI C g)) := opR_up h fun x y H Q d e m Q' r1 r2 sm ⟨i, j, e1, e2, hc, q⟩ le => by
  subst e1 e2
  exact ⟨i, j, rel_int.mp r1, rel_int.mp r2, hc, le _ m _ H q (Tx.refl H) (hg H i j) sm⟩
theorem gi {H : Hp} {i : Int} : RelD H (.int i) (.int i) := rel_int.mpr rfl
theorem gb {H : Hp} {i : Bool} : RelD H (.bl i) (.bl i) := rel_bl.mpr rfl
theorem gs {H : Hp} {i : Str} : RelD H (.str i) (.str i) := rel_str.mpr rfl
theorem gr {H : Hp} {i : Addr} : RelD H (.ref i) (.ref i) := rel_ref.mpr rfl
theorem gn {H : Hp} : RelD H .non .non := rel_non.mpr rfl
theorem o_sub : OpR X (binaryOp .Sub) (upR T0 (dI0 fun i j => .int (i - j))) := up_I0 op_sub fun _ _ _ => gi
theorem o_mul : OpR X (binaryOp .Mult) (upR T0 (dI CMul fun i j => .int (i * j))) := up_I op_mul fun _ _ _ => gi
theorem o_fdiv : OpR X (binaryOp .FloorDiv) (upR T0 (dI CDiv fun i j => .int (i / j))) := up_I op_fdiv fun _ _ _ => gi
theorem o_mod : OpR X (binaryOp .Mod) (upR T0 (dI (fun _ j => 0 < j) fun i j => .int (i % j))) := up_I op_mod fun _ _ _ => gi
theorem o_pow : OpR X (binaryOp .Pow) (upR T0 (dI CPow fun i j => .int (i ^ j.toNat))) := up_I op_pow fun _ _ _ => gi
theorem o_shl : OpR X (binaryOp .LShift) (upR T0 (dI CPow fun i j => .int (i * 2 ^ j.toNat))) := up_I op_shl fun _ _ _ => gi
theorem o_shr : OpR X (binaryOp .RShift) (upR T0 (dI (fun _ j => 0 ≤ j) fun i j => .int (i / 2 ^ j.toNat))) := up_I op_shr fun _ _ _ => gi
theorem o_and : OpR X (binaryOp .BitAnd) (upR T0 (dI0 fun i j => .int (Builtin.bitAnd i j))) := up_I0 op_and fun _ _ _ => gi
theorem o_or : OpR X (binaryOp .BitOr) (upR T0 (dI0 fun i j => .int (Builtin.bitOr i j))) := up_I0 op_or fun _ _ _ => gi
theorem o_xor : OpR X (binaryOp .BitXor) (upR T0 (dI0 fun i j => .int (Builtin.bitXor i j))) := up_I0 op_xor fun _ _ _ => gi
theorem o_lt : OpR X (compareOp .Lt) (upR T0 (dI0 fun i j => .bl (decide (i < j)))) := up_I0 op_lt fun _ _ _ => gb
theorem o_le : OpR X (compareOp .LtE) (upR T0 (dI0 fun i j => .bl (decide (i ≤ j)))) := up_I0 op_le fun _ _ _ => gb
theorem o_gt : OpR X (compareOp .Gt) (upR T0 (dI0 fun i j => .bl (decide (j < i)))) := up_I0 op_gt fun _ _ _ => gb
theorem o_ge : OpR X (compareOp .GtE) (upR T0 (dI0 fun i j => .bl (decide (j ≤ i)))) := up_I0 op_ge fun _ _ _ => gb
theorem i_add : PIp X .Add (upR T0 (dI0 fun i j => .int (i + j))) := fun pins s σ H x y v u Q I rx ry ⟨_, d, e, m, Q', r1, r2, sm, ⟨i, j, e1, e2, q⟩, le⟩ => by
  subst e1 e2
  exact ip_add pins s σ H x y v u Q I rx ry ⟨i, j, rel_int.mp r1, rel_int.mp r2, le _ m _ H q (Tx.refl H) gi sm⟩
theorem i_sub : PIp X .Sub (upR T0 (dI0 fun i j => .int (i - j))) := fun pins s σ H x y v u Q I rx ry ⟨_, d, e, m, Q', r1, r2, sm, ⟨i, j, e1, e2, q⟩, le⟩ => by
  subst e1 e2
  exact ip_sub pins s σ H x y v u Q I rx ry ⟨i, j, rel_int.mp r1, rel_int.mp r2, le _ m _ H q (Tx.refl H) gi sm⟩
/-- + -/
def dAdd : DR2
  | .int i, .int j, m, Q => Q (.int (i + j)) m
  | .str i, .str j, m, Q => i.length + j.length ≤ sizeLine ∧ Q (.str (i ++ j)) m
  | .tup xs, .tup ys, m, Q => xs ≠ [] ∧ xs.length + ys.length ≤ sizeLine ∧ Q (.tup (xs ++ ys)) m
  | .ref a, .ref b, m, Q => ∃ xs ys, m a = some (.lst xs) ∧ m b = some (.lst ys) ∧ xs.length + ys.length ≤ sizeLine ∧ ∀ p, m p = none → Q (.ref p) (put m p (.lst (xs ++ ys)))
  | _, _, _, _ => False
theorem o_add : OpR X (binaryOp .Add) (upR T0 dAdd) := fun pins s σ H x y v u Q I rx ry ⟨_, d, e, m, Q', r1, r2, sm, h, le⟩ => by
  cases d with
  | int i =>
    cases e with
    | int j => exact op_add pins s σ H x y v u Q I rx ry ⟨i, j, rel_int.mp r1, rel_int.mp r2, le _ m _ H h (Tx.refl H) gi sm⟩
    | _ => exact (show False from h).elim
  | str i =>
    cases e with
    | str j => exact op_add_str pins s σ H x y v u Q I rx ry ⟨i, j, rel_str.mp r1, rel_str.mp r2, h.1, le _ m _ H h.2 (Tx.refl H) gs sm⟩
    | _ => exact (show False from h).elim
  | tup xs =>
    cases e with
    | tup ys =>
      obtain ⟨a, vs, ev, h1, h2⟩ := rel_tup.mp r1
      obtain ⟨b, ws, ew, h3, h4⟩ := rel_tup.mp r2
      obtain ⟨n, hl, q⟩ := h
      refine op_catT pins s σ H x y v u Q I rx ry ⟨a, b, vs, ws, ev, ew, SqT.of h1, SqT.of h3, fun z => n ?_, by rw [← h2.length, ← h4.length]; exact hl, fun z => ?_, fun _ p np => le _ m _ _ q (Tx.new np) (rel_new np (h2.app h4)) (sm.skip np)⟩
      · have := h2.length
        rw [z] at this
        exact List.eq_nil_of_length_eq_zero this
      · have := h4.length
        rw [z] at this
        have e0 : ys = [] := List.eq_nil_of_length_eq_zero this
        subst e0
        rw [List.append_nil] at q
        exact le _ m _ H q (Tx.refl H) (rel_tup.mpr ⟨a, vs, rfl, h1, h2⟩) sm
    | _ => exact (show False from h).elim
  | ref a =>
    cases e with
    | ref b =>
      obtain ⟨xs, ys, h1, h2, hl, q⟩ := h
      obtain ⟨vs, e1, r3⟩ := sm a _ h1
      obtain ⟨ws, e2, r4⟩ := sm b _ h2
      exact op_cat pins s σ H x y v u Q I rx ry ⟨a, b, vs, ws, rel_ref.mp r1, rel_ref.mp r2, e1, e2, by rw [← r3.length, ← r4.length]; exact hl, fun p np => le _ _ _ _ (q p (sm.nil np)) (Tx.new np) gr (Sm.new (o := .lst (xs ++ ys)) sm np ⟨_, upd_same, (r3.app r4).tx (Tx.new np)⟩)⟩
    | _ => exact (show False from h).elim
  | _ => exact (show False from h).elim
/-- scalars: == and != -/
def toV : D → V
  | .non => .non | .bl b => .bl b | .int i => .int i | .str x => .str x | .ty n => .ty n | .ref a => .ref a | .tup _ => .non
def flat : D → Bool
  | .tup _ => false | .ref _ => false | _ => true
theorem rel_flat {H : Hp} {d : D} {v : V} (h : flat d = true) (r : RelD H d v) : v = toV d := by
  cases d with
  | non => exact rel_non.mp r
  | bl b => exact rel_bl.mp r
  | int i => exact rel_int.mp r
  | str x => exact rel_str.mp r
  | ty n => exact rel_ty.mp r
  | ref a => cases h
  | tup xs => cases h
def dEqS : DR2 := fun d e m Q => flat d = true ∧ flat e = true ∧ scal (toV d) (toV e) = true ∧ Q (.bl (decide (toV d = toV e))) m
def dNeS : DR2 := fun d e m Q => flat d = true ∧ flat e = true ∧ scal (toV d) (toV e) = true ∧ Q (.bl (!decide (toV d = toV e))) m
theorem o_eqS : OpR X (compareOp .Eq) (upR T0 dEqS) := opR_up op_eq fun x y H Q d e m Q' r1 r2 sm ⟨h1, h2, h3, q⟩ le => by
  cases rel_flat h1 r1
  cases rel_flat h2 r2
  exact ⟨h3, le _ m _ H q (Tx.refl H) gb sm⟩
theorem o_neS : OpR X (compareOp .NotEq) (upR T0 dNeS) := opR_up op_ne fun x y H Q d e m Q' r1 r2 sm ⟨h1, h2, h3, q⟩ le => by
  cases rel_flat h1 r1
  cases rel_flat h2 r2
  exact ⟨h3, le _ m _ H q (Tx.refl H) gb sm⟩
def isNon : D → Bool
  | .non => true | _ => false
theorem isNon_rel {H : Hp} {d : D} {v : V} (r : RelD H d v) : decide (v = .non) = isNon d := by
  cases d with
  | non => cases rel_non.mp r; rfl
  | bl b => cases rel_bl.mp r; rfl
  | int i => cases rel_int.mp r; rfl
  | str x => cases rel_str.mp r; rfl
  | ty n => cases rel_ty.mp r; rfl
  | ref a => cases rel_ref.mp r; rfl
  | tup xs => obtain ⟨a, vs, e, _⟩ := rel_tup.mp r; subst e; rfl
def dIsN : DR2 := fun d e m Q => e = .non ∧ Q (.bl (isNon d)) m
def dNotN : DR2 := fun d e m Q => e = .non ∧ Q (.bl (!isNon d)) m
theorem o_isN : OpR X (compareOp .Is) (upR T0 dIsN) := opR_up op_isN fun x y H Q d e m Q' r1 r2 sm ⟨h1, q⟩ le => by
  subst h1
  refine ⟨rel_non.mp r2, ?_⟩
  rw [isNon_rel r1]
  exact le _ m _ H q (Tx.refl H) gb sm
theorem o_notN : OpR X (compareOp .IsNot) (upR T0 dNotN) := opR_up op_notN fun x y H Q d e m Q' r1 r2 sm ⟨h1, q⟩ le => by
  subst h1
  refine ⟨rel_non.mp r2, ?_⟩
  rw [isNon_rel r1]
  exact le _ m _ H q (Tx.refl H) gb sm
/-! deep == -/
mutual
inductive Dq (m : M) : D → PyData → Prop
  | non : Dq m .non .none
  | bl (b : Bool) : Dq m (.bl b) (.bool b)
  | int (i : Int) : Dq m (.int i) (.int i)
  | str (x : Str) : Dq m (.str x) (.str x)
  | lst {a : Addr} {xs : List D} {ds : List PyData} : m a = some (.lst xs) → DqAll m xs ds → Dq m (.ref a) (.list ds)
  | tup {xs : List D} {ds : List PyData} : DqAll m xs ds → Dq m (.tup xs) (.tuple ds)
inductive DqAll (m : M) : List D → List PyData → Prop
  | nil : DqAll m [] []
  | cons {v : D} {vs : List D} {d : PyData} {ds : List PyData} : Dq m v d → DqAll m vs ds → DqAll m (v :: vs) (d :: ds)
end
mutual
theorem Dq.dp {K : PySem.W.Frag} {m : M} {H : Hp} (s : Sm m H) : ∀ (p : PyData) (d : D) (v : V), Dq m d p → RelD H d v → Dp K H v p
  | .none, _, v, h, r => by
    cases h
    cases rel_non.mp r
    exact .non
  | .bool b, _, v, h, r => by
    cases h
    cases rel_bl.mp r
    exact .bl b
  | .int b, _, v, h, r => by
    cases h
    cases rel_int.mp r
    exact .int b
  | .str b, _, v, h, r => by
    cases h
    cases rel_str.mp r
    exact .str b
  | .list ps, _, v, h, r => by
    cases h with
    | lst ha hs =>
      cases rel_ref.mp r
      obtain ⟨vs, e, rv⟩ := s _ _ ha
      exact .lst (SqL.of e) (Dq.dps s ps _ _ hs rv)
  | .tuple ps, _, v, h, r => by
    cases h with
    | tup hs =>
      obtain ⟨a, vs, e, h1, h2⟩ := rel_tup.mp r
      subst e
      exact .tup (SqT.of h1) (Dq.dps s ps _ _ hs h2)
  | .dict _, _, _, h, _ => by cases h
theorem Dq.dps {K : PySem.W.Frag} {m : M} {H : Hp} (s : Sm m H) : ∀ (ps : List PyData) (ds : List D) (vs : List V), DqAll m ds ps → RelDs H ds vs → DpAll K H vs ps
  | [], _, _, h, r => by
    cases h
    cases r.inv0
    exact .nil
  | p :: ps, _, _, h, r => by
    cases h with
    | cons h1 h2 =>
      obtain ⟨v, vr, e, r1, r2⟩ := r.inv
      subst e
      exact .cons (Dq.dp s p _ _ h1 r1) (Dq.dps s ps _ _ h2 r2)
end
def dEqP : DR2 := fun d e m Q => ∃ p q, Dq m d p ∧ Dq m e q ∧ SeqAt.shaped p = true ∧ SeqAt.shaped q = true ∧ Q (.bl (PyData.eqv p q)) m
def dNeP : DR2 := fun d e m Q => ∃ p q, Dq m d p ∧ Dq m e q ∧ SeqAt.shaped p = true ∧ SeqAt.shaped q = true ∧ Q (.bl (!PyData.eqv p q)) m
theorem o_eqP (hu : X.A.units + 64 < cLine) : OpR X (compareOp .Eq) (upR T0 dEqP) := opR_up (op_eqD hu) fun x y H Q d e m Q' r1 r2 sm ⟨p, q, h1, h2, h3, h4, h5⟩ le => ⟨p, q, Dq.dp sm p d x h1 r1, Dq.dp sm q e y h2 r2, h3, h4, le _ m _ H h5 (Tx.refl H) gb sm⟩
theorem o_neP (hu : X.A.units + 64 < cLine) : OpR X (compareOp .NotEq) (upR T0 dNeP) := opR_up (op_neD hu) fun x y H Q d e m Q' r1 r2 sm ⟨p, q, h1, h2, h3, h4, h5⟩ le => ⟨p, q, Dq.dp sm p d x h1 r1, Dq.dp sm q e y h2 r2, h3, h4, le _ m _ H h5 (Tx.refl H) gb sm⟩
/-! subscripts -/
def dIx : DR2
  | .tup xs, .int i, m, Q => ∃ v, atI xs i = some v ∧ Q v m
  | .ref a, .int i, m, Q => ∃ xs v, (m a = some (.lst xs) ∨ m a = some (.kl xs)) ∧ atI xs i = some v ∧ Q v m
  | .str z, .int i, m, Q => z.length ≤ sizeLine ∧ ∃ c, atI z.cps.toList i = some c ∧ Q (.str ⟨#[c]⟩) m
  | _, _, _, _ => False
theorem atI_rel {H : Hp} {xs : List D} {vs : List V} {i : Int} {d : D} (r : RelDs H xs vs) (h : atI xs i = some d) : ∃ v, atI vs i = some v ∧ RelD H d v := by
  unfold atI at h ⊢
  rw [← r.length]
  cases e : ixN xs.length i with
  | none => rw [e] at h; cases h
  | some j =>
    rw [e] at h
    exact r.get h
theorem x_ix : IxR X (upR T0 dIx) := ixR_up ix_seq fun x y H Q d e m Q' r1 r2 sm h le => by
  cases e with
  | int i =>
    cases rel_int.mp r2
    cases d with
    | tup xs =>
      obtain ⟨v, h1, q⟩ := h
      obtain ⟨a, vs, ev, h2, h3⟩ := rel_tup.mp r1
      subst ev
      obtain ⟨w, h4, r4⟩ := atI_rel h3 h1
      exact .inr (.inl ⟨a, vs, i, w, rfl, rfl, SqT.of h2, h4, le _ m _ H q (Tx.refl H) r4 sm⟩)
    | ref a =>
      obtain ⟨xs, v, h0, h1, q⟩ := h
      cases rel_ref.mp r1
      rcases h0 with h0 | h0
      · obtain ⟨vs, h2, h3⟩ := sm a _ h0
        obtain ⟨w, h4, r4⟩ := atI_rel h3 h1
        exact .inl ⟨a, vs, i, w, rfl, rfl, SqL.of h2, h4, le _ m _ H q (Tx.refl H) r4 sm⟩
      · obtain ⟨o, vs, h2, h3⟩ := sm a _ h0
        obtain ⟨w, h4, r4⟩ := atI_rel h3 h1
        exact .inl ⟨a, vs, i, w, rfl, rfl, .inl (.inr ⟨o, h2⟩), h4, le _ m _ H q (Tx.refl H) r4 sm⟩
    | str z =>
      obtain ⟨hz, c, h1, q⟩ := h
      cases rel_str.mp r1
      exact .inr (.inr ⟨z, i, c, rfl, rfl, hz, h1, le _ m _ H q (Tx.refl H) gs sm⟩)
    | _ => exact (show False from h).elim
  | _ => cases d <;> exact (show False from h).elim
/-- the items of xs[lo:hi] -/
def cutD {α : Type} (xs : List α) (lo hi : Option Int) : List α := (xs.drop (HT.sIx xs.length 0 lo)).take (HT.sIx xs.length xs.length hi - HT.sIx xs.length 0 lo)
theorem cut_rel {H : Hp} {xs : List D} {vs : List V} (lo hi : Option Int) (r : RelDs H xs vs) : RelDs H (cutD xs lo hi) (cutV vs lo hi) := by
  unfold cutD cutV
  rw [← r.length]
  exact (r.drop _).take _
def dSlT : DSlR := fun d lo hi m Q => ∃ xs, d = .tup xs ∧ ¬ (HT.sIx xs.length 0 lo = 0 ∧ HT.sIx xs.length xs.length hi = xs.length) ∧ Q (.tup (cutD xs lo hi)) m
def dSlL : DSlR := fun d lo hi m Q => ∃ a xs, d = .ref a ∧ m a = some (.lst xs) ∧ ∀ p, m p = none → Q (.ref p) (put m p (.lst (cutD xs lo hi)))
theorem s_tup : SlR X (upSl T0 dSlT) := fun pins s σ H x v vl vu lo hi sl Q I rx hs pl pu ⟨_, d, m, Q', r1, sm, ⟨xs, e, n, q⟩, le⟩ => by
  subst e
  obtain ⟨a, vs, ev, h2, h3⟩ := rel_tup.mp r1
  exact sl_tup pins s σ H x v vl vu lo hi sl Q I rx hs pl pu ⟨a, vs, ev, SqT.of h2, by rw [← h3.length]; exact n, fun p np => le _ m _ _ q (Tx.new np) (rel_new np (cut_rel lo hi h3)) (sm.skip np)⟩
theorem s_list : SlR X (upSl T0 dSlL) := fun pins s σ H x v vl vu lo hi sl Q I rx hs pl pu ⟨_, d, m, Q', r1, sm, ⟨a, xs, e, ea, q⟩, le⟩ => by
  subst e
  obtain ⟨vs, h2, h3⟩ := sm a _ ea
  exact sl_list pins s σ H x v vl vu lo hi sl Q I rx hs pl pu ⟨a, vs, rel_ref.mp r1, SqL.of h2, fun p np => le _ _ _ _ (q p (sm.nil np)) (Tx.new np) gr (Sm.new (o := .lst (cutD xs lo hi)) sm np ⟨_, upd_same, (cut_rel lo hi h3).tx (Tx.new np)⟩)⟩
/-! built-in calls -/
def dLen : List D → M → DK → Prop
  | [.tup xs], m, Q => Q (.int xs.length) m
  | [.str y], m, Q => y.length ≤ sizeLine ∧ Q (.int y.length) m
  | [.ref a], m, Q => ∃ xs, (m a = some (.lst xs) ∨ m a = some (.kl xs)) ∧ Q (.int (xs.length : Nat)) m
  | _, _, _ => False
theorem rel1 {H : Hp} {d : D} {vs : List V} (r : RelDs H [d] vs) : ∃ v, vs = [v] ∧ RelD H d v := by
  obtain ⟨v, r', rfl, h1, h2⟩ := r.inv
  cases h2.inv0
  exact ⟨v, rfl, h1⟩
theorem c_len : CallR X (.builtin "len") (upC T0 dLen) := callR_up call_len fun xs H Q ds m Q' r sm h le => by
  match ds, h with
  | [.tup ys], h =>
    obtain ⟨v, e, r1⟩ := rel1 r
    subst e
    obtain ⟨a, vs, ev, h2, h3⟩ := rel_tup.mp r1
    subst ev
    exact ⟨_, _, rfl, .inr ⟨vs, SqT.of h2, rfl⟩, by rw [← h3.length]; exact le _ m _ H h (Tx.refl H) gi sm⟩
  | [.str y], h =>
    obtain ⟨v, e, r1⟩ := rel1 r
    subst e
    cases rel_str.mp r1
    exact ⟨_, _, rfl, ⟨h.1, rfl⟩, le _ m _ H h.2 (Tx.refl H) gi sm⟩
  | [.ref a], h =>
    obtain ⟨v, e, r1⟩ := rel1 r
    subst e
    cases rel_ref.mp r1
    obtain ⟨ys, h0, q⟩ := h
    rcases h0 with h0 | h0
    · obtain ⟨vs, h2, h3⟩ := sm a _ h0
      exact ⟨_, _, rfl, .inl ⟨vs, SqL.of h2, rfl⟩, by rw [← h3.length]; exact le _ m _ H q (Tx.refl H) gi sm⟩
    · obtain ⟨o, vs, h2, h3⟩ := sm a _ h0
      exact ⟨_, _, rfl, .inl ⟨vs, .inl (.inr ⟨o, h2⟩), rfl⟩, by rw [← h3.length]; exact le _ m _ H q (Tx.refl H) gi sm⟩
end
end G
namespace G
open PySem PySem.Spec PyProof.Rows L2 NdefX LamX
/-! ### cells are shown to a callee -/
section
variable {P : Program} {w : World} {H : Hp} {s s' : Shared} {cs : List Addr} {outer : List Env} {Q' : VK} {E' : XK}
theorem ce_cut {u : Value} (hok : HOk P w H s.heap) (x : Cld H cs) (c : CE outer P w H s Q' u s') : CE outer P w (cut H cs) s (fun v H' => ∃ H'', H' = cut H'' cs ∧ (∀ c ∈ cs, H'' c = H c) ∧ Q' v H'') u s' := by
  obtain ⟨v, H', os, bare, un, hok', r, q⟩ := c
  have at0 : ∀ c ∈ cs, ∃ o, s.heap.get? c = some o ∧ s'.heap.get? c = some o ∧ H' c = some (cellX o) := fun c hc => by
    obtain ⟨o, e⟩ := x c hc
    have e' := un.frzs c o _ e
    exact ⟨o, cellX_get (hok c _ e), cellX_get (hok' c _ e'), e'⟩
  have x' : Cld H' cs := fun c hc => let ⟨o, _, _, e⟩ := at0 c hc; ⟨o, e⟩
  refine ⟨v, cut H' cs, os, bare, ⟨fun b o e n h1 h2 => ?_, fun b o e n h1 h2 => ?_, fun b o e n h2 => ?_, un.there, fun b xs e => ?_, fun b o u e => ?_, fun b ps e => ?_⟩, hok_cut hok' x', r, H', rfl, (fun c hc => by obtain ⟨o, e⟩ := x c hc; rw [e]; exact un.frzs c o _ e), q⟩
  · by_cases hb : b ∈ cs
    · obtain ⟨o', e1, e2, _⟩ := at0 b hb
      rw [e] at e1; cases e1
      exact e2
    · rw [cut_out hb] at n
      exact un.keep b o e n h1 h2
  · by_cases hb : b ∈ cs
    · obtain ⟨o', e1, e2, _⟩ := at0 b hb
      rw [e] at e1; cases e1
      exact ⟨o.slots, e2⟩
    · rw [cut_out hb] at n
      exact un.slot b o e n h1 h2
  · by_cases hb : b ∈ cs
    · exact cut_in hb
    · rw [cut_out hb] at n ⊢
      exact un.free b o e n h2
  · by_cases hb : b ∈ cs
    · rw [cut_in hb] at e; cases e
    · rw [cut_out hb] at e ⊢
      exact un.tups b xs e
  · by_cases hb : b ∈ cs
    · rw [cut_in hb] at e; cases e
    · rw [cut_out hb] at e ⊢
      exact un.frzs b o u e
  · by_cases hb : b ∈ cs
    · rw [cut_in hb] at e; cases e
    · rw [cut_out hb] at e ⊢
      exact un.tbls b ps e
theorem cx_cut {u : Value} (hok : HOk P w H s.heap) (x : Cld H cs) (c : L2.CX P w outer H s E' u s') : L2.CX P w outer (cut H cs) s (fun cls d H' => ∃ H'', H' = cut H'' cs ∧ (∀ c ∈ cs, H'' c = H c) ∧ E' cls d H'') u s' := by
  obtain ⟨a, B, H', cls, d, e1, fl, hok', ub, na, os, bare, q⟩ := c
  have at0 : ∀ c ∈ cs, ∃ o, s.heap.get? c = some o ∧ B.get? c = some o ∧ H' c = some (cellX o) := fun c hc => by
    obtain ⟨o, e⟩ := x c hc
    have e' := ub.frzs c o _ e
    exact ⟨o, cellX_get (hok c _ e), cellX_get (hok' c _ e'), e'⟩
  have x' : Cld H' cs := fun c hc => let ⟨o, _, _, e⟩ := at0 c hc; ⟨o, e⟩
  refine ⟨a, B, cut H' cs, cls, d, e1, fl, hok_cut hok' x', ⟨fun b o e n h1 => ?_, ub.slot, fun b o e n => ?_, ub.there, fun b xs e => ?_, fun b o u e => ?_, fun b ps e => ?_⟩, cut_none na, os, bare, H', rfl, (fun c hc => by obtain ⟨o, e⟩ := x c hc; rw [e]; exact ub.frzs c o _ e), q⟩
  · by_cases hb : b ∈ cs
    · obtain ⟨o', e1, e2, _⟩ := at0 b hb
      rw [e] at e1; cases e1
      exact e2
    · rw [cut_out hb] at n
      exact ub.keep b o e n h1
  · by_cases hb : b ∈ cs
    · exact cut_in hb
    · rw [cut_out hb] at n ⊢
      exact ub.free b o e n
  · by_cases hb : b ∈ cs
    · rw [cut_in hb] at e; cases e
    · rw [cut_out hb] at e ⊢
      exact ub.tups b xs e
  · by_cases hb : b ∈ cs
    · rw [cut_in hb] at e; cases e
    · rw [cut_out hb] at e ⊢
      exact ub.frzs b o u e
  · by_cases hb : b ∈ cs
    · rw [cut_in hb] at e; cases e
    · rw [cut_out hb] at e ⊢
      exact ub.tbls b ps e
end
/-- the cell of the name y in the running frame -/
def ca (X : Cx) (y : Str) : Addr := (X.env.cells.lookup y).getD 0
/-- cs: slots and the addresses of their cells, of the frame X -/
structure XC (X : Cx) (cs : List (Nat × Addr)) : Prop where
  at_ : ∀ pins σ H s, Inv X pins σ H s → ∀ p ∈ cs, ∃ y, X.N[p.1]? = some y ∧ (X.env.scope.names.lookup y = some .cell ∨ X.env.scope.names.lookup y = some .free) ∧ X.env.cells.lookup y = some p.2
  nb : ∀ pins σ H s, Inv X pins σ H s → ∀ p ∈ cs, X.base.get? p.2 = none
  nf : ∀ pins σ H s, Inv X pins σ H s → ∀ p ∈ cs, p.2 ∉ frs X.stack
  nd : (cs.map (·.1)).Nodup
  hN : X.N.Nodup
theorem xc_nil {X : Cx} (hN : X.N.Nodup) : XC X [] := ⟨fun _ _ _ _ _ p h => (by cases h), fun _ _ _ _ _ p h => (by cases h), fun _ _ _ _ _ p h => (by cases h), List.Pairwise.nil, hN⟩
theorem xc_def {X : Cx} (ys : List (Nat × Str)) (hst : X.stack = X.env :: X.outer) (hfr : X.env.frame = some X.env.locals) (h : ∀ p ∈ ys, X.N[p.1]? = some p.2 ∧ X.env.scope.names.lookup p.2 = some .cell ∧ X.fn p.2 = true) (nd : (ys.map (·.1)).Nodup) (hN : X.N.Nodup) : XC X (ys.map fun p => (p.1, ca X p.2)) := by
  have look : ∀ {pins σ H s}, Inv X pins σ H s → ∀ p ∈ ys, X.env.cells.lookup p.2 = some (ca X p.2) := fun I p hp => by
    obtain ⟨c, e⟩ := I.ok.has p.2 (.inl (h p hp).2.1)
    unfold ca
    rw [e]; rfl
  have big : ∀ {pins σ H s}, Inv X pins σ H s → ∀ p ∈ ys, X.s_0.heap.objs.size ≤ ca X p.2 := fun I p hp => I.ok.cab p.2 _ (h p hp).2.2 (look I p hp)
  refine ⟨fun pins σ H s I q hq => ?_, fun pins σ H s I q hq => ?_, fun pins σ H s I q hq => ?_, by rw [List.map_map]; exact nd, hN⟩
  · obtain ⟨p, hp, rfl⟩ := List.mem_map.mp hq
    exact ⟨p.2, (h p hp).1, .inl (h p hp).2.1, look I p hp⟩
  · obtain ⟨p, hp, rfl⟩ := List.mem_map.mp hq
    cases e : X.base.get? (ca X p.2) with
    | none => rfl
    | some o =>
      have h1 := Heap.lt_size e
      have h2 := I.ok.bsz
      have h3 := big I p hp
      exact absurd (Nat.lt_of_lt_of_le h1 (Nat.le_trans h2 h3)) (Nat.lt_irrefl _)
  · obtain ⟨p, hp, rfl⟩ := List.mem_map.mp hq
    intro hz
    rw [hst] at hz
    unfold frs at hz
    rw [List.filterMap_cons, hfr] at hz
    rcases List.mem_cons.mp hz with e | hz
    · exact I.cne p.2 _ (look I p hp) e
    · obtain ⟨_, o, ho, _⟩ := I.ok.funs.mem hz
      have h1 := Heap.lt_size ho
      have h3 := big I p hp
      exact absurd (Nat.lt_of_lt_of_le h1 h3) (Nat.lt_irrefl _)
structure XOk (σ : L2.St) (cs : List (Nat × Addr)) (H H2 : Hp) : Prop where
  out : ∀ b, b ∉ cs.map (·.2) → H2 b = H b
  non : ∀ p ∈ cs, H p.2 = none
  val : ∀ p ∈ cs, ∃ v, σ[p.1]? = some (some v) ∧ CellAt H2 p.2 v
  nd : (cs.map (·.2)).Nodup
theorem XOk.cut {σ : L2.St} {cs : List (Nat × Addr)} {H H2 : Hp} (x : XOk σ cs H H2) : G.cut H2 (cs.map (·.2)) = H := by
  funext b
  by_cases hb : b ∈ cs.map (·.2)
  · rw [cut_in hb]
    obtain ⟨p, hp, rfl⟩ := List.mem_map.mp hb
    exact (x.non p hp).symm
  · rw [cut_out hb]
    exact x.out b hb
theorem XOk.cld {σ : L2.St} {cs : List (Nat × Addr)} {H H2 : Hp} (x : XOk σ cs H H2) : Cld H2 (cs.map (·.2)) := fun c hc => by
  obtain ⟨p, hp, rfl⟩ := List.mem_map.mp hc
  obtain ⟨v, _, o, u, e, _⟩ := x.val p hp
  exact ⟨o, e⟩
def tX (cs : List (Nat × Addr)) (R : Hp → VK → XK → Prop) (W : WX) : L2.St → Hp → VK → Prop := fun σ H Q => (∀ p ∈ cs, ∃ v, σ[p.1]? = some (some v)) ∧ ∀ H2, XOk σ cs H H2 → R H2 (fun v H3 => (∀ c ∈ cs.map (·.2), H3 c = H2 c) → Q v (cut H3 (cs.map (·.2)))) (fun cls d H3 => (∀ c ∈ cs.map (·.2), H3 c = H2 c) → W cls d σ (cut H3 (cs.map (·.2))))
section
variable {X : Cx} {pins : List (Addr × Obj)} {σ : L2.St} {H : Hp} {s : Shared} {cs : List (Nat × Addr)}
theorem expo (I : Inv X pins σ H s) (xc : XC X cs) (hv : ∀ p ∈ cs, ∃ v, σ[p.1]? = some (some v)) : ∃ H2, XOk σ cs H H2 ∧ Env0 X.prog X.w X.K X.mg X.base X.A X.stack s H2 := by
  have at_ := xc.at_ pins σ H s I
  have cell : ∀ p ∈ cs, ∃ v u o, σ[p.1]? = some (some v) ∧ L2.RelV v u ∧ s.heap.get? p.2 = some o ∧ o.data = .cell (some u) := fun p hp => by
    obtain ⟨v, ev⟩ := hv p hp
    obtain ⟨y, hN, hk, hc⟩ := at_ p hp
    obtain ⟨m, hn, hl⟩ := I.loc
    obtain ⟨u, r, l⟩ := hl p.1 y v hN ev (hk.elim (fun z => .inr (.inl z)) fun z => .inr (.inr z))
    rcases l with ⟨z, _⟩ | ⟨_, a', ha', o, ho, hd⟩
    · have z' : X.env.scope.names.lookup y = some .local := z
      rcases hk with k | k <;> rw [k] at z' <;> cases z'
    · rw [hc] at ha'
      cases ha'
      exact ⟨v, u, o, ev, r, ho, hd⟩
  have non : ∀ p ∈ cs, H p.2 = none := fun p hp => by
    obtain ⟨y, _, _, hc⟩ := at_ p hp
    exact I.freeC y _ hc
  have e0 := I.env0
  have nd : (cs.map (·.2)).Nodup := by
    have h1 := xc.nd
    rw [List.nodup_iff_pairwise_ne, List.pairwise_map] at h1 ⊢
    refine h1.imp_of_mem fun {p q} hp hq hne e => hne ?_
    obtain ⟨y, hN, _, hc⟩ := at_ p hp
    obtain ⟨z, hM, _, hd⟩ := at_ q hq
    rw [e] at hc
    cases I.ok.inj y z _ hc hd
    have hlt : p.1 < X.N.length := (List.getElem?_eq_some_iff.mp hN).1
    exact (List.getElem?_inj hlt xc.hN).mp (hN.trans hM.symm)
  let H2 : Hp := fun b => if b ∈ cs.map (·.2) then (s.heap.get? b).map cellX else H b
  have h2in : ∀ p ∈ cs, ∀ o, s.heap.get? p.2 = some o → H2 p.2 = some (cellX o) := fun p hp o e => by
    show (if _ then _ else _) = _
    rw [if_pos (List.mem_map.mpr ⟨p, hp, rfl⟩), e]; rfl
  have h2out : ∀ b, b ∉ cs.map (·.2) → H2 b = H b := fun b hb => if_neg hb
  refine ⟨H2, ⟨h2out, non, fun p hp => ?_, nd⟩, ⟨e0.frames, e0.mod, fun b o e => ⟨(e0.bs b o e).1, ?_⟩, e0.bsz, e0.funs, fun b hb => ?_, fun b o e => ?_, e0.bare⟩⟩
  · obtain ⟨v, u, o, ev, r, ho, hd⟩ := cell p hp
    exact ⟨v, ev, o, u, h2in p hp o ho, hd, r⟩
  · rw [h2out b fun z => by
      obtain ⟨p, hp, rfl⟩ := List.mem_map.mp z
      rw [xc.nb pins σ H s I p hp] at e
      cases e]
    exact (e0.bs b o e).2
  · rw [h2out b fun z => by
      obtain ⟨p, hp, rfl⟩ := List.mem_map.mp z
      exact xc.nf pins σ H s I p hp hb]
    exact e0.frf b hb
  · by_cases hb : b ∈ cs.map (·.2)
    · obtain ⟨p, hp, rfl⟩ := List.mem_map.mp hb
      obtain ⟨v, u, o', ev, r, ho, hd⟩ := cell p hp
      rw [h2in p hp o' ho] at e
      cases e
      exact cellX_ok ho
    · rw [h2out b hb] at e
      refine (e0.hok b o e).stay (fun _ _ _ q => q) (fun c q => ?_) fun c xs q => ?_
      · rw [h2out c fun z => by
          obtain ⟨p, hp, rfl⟩ := List.mem_map.mp z
          rw [non p hp] at q
          cases q]
        exact q
      · rw [h2out c fun z => by
          obtain ⟨p, hp, rfl⟩ := List.mem_map.mp z
          rw [non p hp] at q
          cases q]
        exact q
theorem run_x {R : Hp → VK → XK → Prop} {W : WX} {Q : VK} {u : Value} {args : Args} (xc : XC X cs) (tk : Takes X W) (I : Inv X pins σ H s) (h : tX cs R W σ H Q)
    (hR : ∀ H2 Q2 E2, Env0 X.prog X.w X.K X.mg X.base X.A X.stack s H2 → R H2 Q2 E2 → codeAny (model X.prog X.w) X.A (.call u args) (CR (L2.CX X.prog X.w) X.stack X.prog X.w H2 s Q2 E2) s) :
    wpAny (model X.prog X.w) X.A (call u args.pos args.kw) (EP X pins σ Q) X.xe s := by
  obtain ⟨hv, h⟩ := h
  obtain ⟨H2, xo, e0⟩ := expo I xc hv
  refine wpAny_call (codeAny_mono (hR H2 _ _ e0 (h H2 xo)) fun r s' hq => ?_)
  match r, hq with
  | .error e, hq =>
    have c := cx_cut e0.hok xo.cld hq
    rw [xo.cut] at c
    refine passAt tk σ pins H s e s' I ?_
    obtain ⟨a, B, H', cls, d, q1, q2, q3, q4, q5, q6, q7, H'', eH, eC, q8⟩ := c
    exact ⟨a, B, H', cls, d, q1, q2, q3, q4, q5, q6, q7, by rw [eH]; exact q8 eC⟩
  | .ok (.ret u), hq =>
    have c := ce_cut e0.hok xo.cld hq
    rw [xo.cut] at c
    obtain ⟨v, H', I', r', H'', eH, eC, q⟩ := I.after c
    exact ⟨v, H', I', r', by rw [eH]; exact q eC⟩
end
end G
namespace G
open PySem PySem.Spec PyProof.Rows L2 NdefX LamX
theorem lamO_at {P : Program} {w : World} {H : Hp} {h : Heap} {f : Addr} {F : LF} (hok : HOk P w H h) (e : H f = some (LamO f F)) : ∃ (pm ctv : Value), h.get? f = some (PySem.W.kla_obj "<lambda>" F.qual F.params F.body F.scope F.cl pm F.c ctv) := by
  obtain ⟨z, _, _⟩ := hok f _ e
  exact z
/-! ### a lambda is made -/
def tLamX (P : Addr) (nm : Nat → Nat → Str) (mk : Addr → LF) : TE := fun σ H Q => TabN H P nm ∧ ∀ (f c' : Addr) (H1 : Hp), ExtN H H1 → (∀ P' nm', P' ≠ P → TabN H P' nm' → TabN H1 P' nm') → TabN H1 P nm → H f = none → H1 f = some (LamO f (mk c')) → H1 c' = some (CodeO c' (mk c').qual) → (∀ b, H1 b = none → H b = none) → Q (.ref f) H1
section
variable {X : Cx} {pins : List (Addr × Obj)} {σ : L2.St} {H : Hp} {s : Shared}
theorem inv_lam {F : LF} {t' : Nat} {pm ctv : Value} (I : Inv X pins σ H s) :
    Inv X pins σ (upd H s.heap.objs.size (LamO s.heap.objs.size F)) { s with heap := s.heap.push (PySem.W.kla_obj "<lambda>" F.qual F.params F.body F.scope F.cl pm F.c ctv), toks := t' } := by
  refine I.laid (a := s.heap.objs.size) (fun b u e => Heap.get?_push_of_some _ e) (Nat.le_refl _) ?_
  have e : (s.heap.push (PySem.W.kla_obj "<lambda>" F.qual F.params F.body F.scope F.cl pm F.c ctv)).get? s.heap.objs.size = some (PySem.W.kla_obj "<lambda>" F.qual F.params F.body F.scope F.cl pm F.c ctv) := Heap.get?_push_size _ rfl
  exact ⟨⟨pm, ctv, e⟩, ⟨_, e⟩, fun h1 h2 ⟨p, t, z⟩ st => ⟨p, t, st _ z⟩⟩
theorem pe_lamX {nm : Nat → Nat → Str} {c P : Addr} {params : Arguments} {body : Expr} {scope : Scope} {pos : Pos} (TB : TabB X.base X.mg c P) (hcode : X.env.code = .ref c) (hn : nm pos.line pos.col = X.env.qual ++ "<lambda>") (hdef : defaultsOf params X.env = ([], []))
    (hfree : ∀ y ∈ scope.names, y.2 = .free → X.env.scope.names.lookup y.1 = some .cell ∨ X.env.scope.names.lookup y.1 = some .free) :
    PE X (.Lambda params body scope pos) (tLamX P nm fun c' => ⟨X.env.qual ++ "<lambda>", params, body, scope, cloFrom X.env.cells scope.names [], c'⟩) := by
  refine ⟨fun pins s σ H Q I ⟨hT, h⟩ => ?_⟩
  have hfr : ∀ y ∈ scope.names, y.2 = .free → ∃ c, X.env.cells.lookup y.1 = some c := fun y hy e => (hfree y hy e).elim (fun z => I.ok.has _ (.inl z)) fun z => I.ok.has _ (.inr z)
  obtain ⟨ps, hP, ht, ha⟩ := hT
  refine PySem.W.kla_eval hdef ?_
  have bP : s.heap.BuiltinsAt X.mg P := TB.bm.keeps I.bk
  have hP' : s.heap.get? P = some { cls := .none, data := .fields ps } := I.hok P _ hP
  cases hc : codeAmong pos ps.toList with
  | none =>
    refine PySem.W.kla_makeFunction (mg := X.mg) (c := c) (P := P) (ps := ps) (closure_ok hfr) I.ok.glob (I.mod.glob.keeps I.bk) hcode (TB.code.keeps I.bk) hP' ht hc TB.gP bP fun c' ctv h' tk hx hge hlt hrec htb => ?_
    obtain ⟨c2, oc, vs, t, e2, hoc, hd, hv⟩ := hrec
    cases e2
    have nC : H c' = none := I.hok.fresh hge
    have I1 := inv_table (t' := tk) (more := #[rawInt pos.line, rawInt pos.col, .ref c']) (h' := h') I hP (fun b o hb e => hx b o hb e) htb hge ⟨oc, vs, t, hoc, hd, hv⟩
    have hE : ExtN H (upd (upd H P (.tbl (ps ++ #[rawInt pos.line, rawInt pos.col, .ref c']))) c' (CodeO c' (X.env.qual ++ "<lambda>"))) := fun b o e n => by
      rw [upd_ne (ne_of_none e nC), upd_ne (fun z => n ps (Option.some.inj (e.symm.trans (by rw [z]; exact hP))))]
      exact e
    have eL : (ps ++ #[rawInt pos.line, rawInt pos.col, .ref c']).toList = ps.toList ++ [rawInt pos.line, rawInt pos.col, .ref c'] := by simp
    have T1 : TabN (upd (upd H P (.tbl (ps ++ #[rawInt pos.line, rawInt pos.col, .ref c']))) c' (CodeO c' (X.env.qual ++ "<lambda>"))) P nm := by
      refine ⟨_, by rw [upd_ne (ne_of_none hP nC), upd_same], by rw [eL]; exact PySem.TriplesOk_snoc _ _ _ _ ht, fun p' cv hcv => ?_⟩
      rw [eL] at hcv
      rcases among_app2 _ ht hcv with z | ⟨z, z1, z2⟩
      · obtain ⟨c0, e1, e2⟩ := ha p' cv z
        exact ⟨c0, e1, hE _ _ e2 codeO_ne⟩
      · refine ⟨c', z, ?_⟩
        rw [← z1, ← z2, hn]
        exact upd_same
    have T2 : ∀ P' nm', P' ≠ P → TabN H P' nm' → TabN (upd (upd H P (.tbl (ps ++ #[rawInt pos.line, rawInt pos.col, .ref c']))) c' (CodeO c' (X.env.qual ++ "<lambda>"))) P' nm' := fun P' nm' hb ⟨ps', a1, a2, a3⟩ => by
      refine ⟨ps', by rw [upd_ne (ne_of_none a1 nC), upd_ne hb]; exact a1, a2, fun p' cv hcv => ?_⟩
      obtain ⟨c0, e1, e2⟩ := a3 p' cv hcv
      exact ⟨c0, e1, hE _ _ e2 codeO_ne⟩
    have nF := I1.hok.fresh (Nat.le_refl _)
    have I2 := inv_lam (F := ⟨X.env.qual ++ "<lambda>", params, body, scope, cloFrom X.env.cells scope.names [], c'⟩) (t' := tk) (pm := (X.mg "__name__").getD .none) (ctv := ctv) I1
    refine ⟨.ref h'.objs.size, _, I2, rfl, h h'.objs.size c' _ (fun b o e n => ?_) (fun P' nm' hb t => (T2 P' nm' hb t).ext fun b o e => ?_) (T1.ext fun b o e => ?_) (I.hok.fresh (Nat.le_trans hge (Nat.le_of_lt hlt))) upd_same ?_ fun b e => upd_none (upd_none (upd_none e))⟩
    · have e1 := hE b o e n
      exact (upd_ne (ne_of_none e1 nF)).trans e1
    · exact (upd_ne (ne_of_none e nF)).trans e
    · exact (upd_ne (ne_of_none e nF)).trans e
    · exact (upd_ne (Nat.ne_of_lt hlt)).trans upd_same
  | some cv =>
    obtain ⟨c', e, hco⟩ := ha pos cv hc
    subst e
    rw [hn] at hco
    refine PySem.W.kla_makeFunctionHit (mg := X.mg) (c := c) (P := P) (ps := ps) (closure_ok hfr) I.ok.glob (I.mod.glob.keeps I.bk) hcode (TB.code.keeps I.bk) hP' ht hc bP fun ctv h' tk hx hsz => ?_
    have I1 : Inv X pins σ H { s with heap := h', toks := tk } := I.kept hx
    have nF : H h'.objs.size = none := I1.hok.fresh (Nat.le_refl _)
    have I2 := inv_lam (F := ⟨X.env.qual ++ "<lambda>", params, body, scope, cloFrom X.env.cells scope.names [], c'⟩) (t' := tk) (pm := (X.mg "__name__").getD .none) (ctv := ctv) I1
    refine ⟨.ref h'.objs.size, _, I2, rfl, h h'.objs.size c' _ (fun b o e n => ?_) (fun P' nm' hb t => t.ext fun b o e => ?_) (TabN.ext ⟨ps, hP, ht, ha⟩ fun b o e => ?_) nF upd_same ?_ fun b e => upd_none e⟩
    · exact (upd_ne (ne_of_none e nF)).trans e
    · exact (upd_ne (ne_of_none e nF)).trans e
    · exact (upd_ne (ne_of_none e nF)).trans e
    · exact (upd_ne (ne_of_none hco nF)).trans hco
end
/-- lifted: the function object and the names it has captured -/
structure LamIs (X : Cx) (params : Arguments) (body : Expr) (scope : Scope) (F : LF) : Prop where
  q : F.qual = X.env.qual ++ "<lambda>"
  p : F.params = params
  b : F.body = body
  s : F.scope = scope
  cl : F.cl = cloFrom X.env.cells scope.names []
def dLam (X : Cx) (P : Addr) (nm : Nat → Nat → Str) (params : Arguments) (body : Expr) (scope : Scope) : DTE := fun δ m Q => m P = some (.tab nm) ∧ ∀ (f : Addr) (F : LF), m f = none → LamIs X params body scope F → Q (.ref f) (put m f (.lm F))
theorem Sm.ext {m : M} {H H1 : Hp} {P : Addr} {nm : Nat → Nat → Str} (s : Sm m H) (hP : m P = some (.tab nm)) (e : ExtN H H1) (t2 : ∀ P' nm', P' ≠ P → TabN H P' nm' → TabN H1 P' nm') (t1 : TabN H1 P nm) : Sm m H1 ∧ Tx H H1 := by
  have tx : Tx H H1 := fun a u k h => e a u h fun ps z => by
    rcases k with ⟨vs, k⟩ | ⟨c, q, k⟩
    · rw [k] at z; cases z
    · exact codeO_ne ps (k.symm.trans z)
  refine ⟨fun a o ea => ?_, tx⟩
  have h := s a o ea
  have g : ∀ u, H a = some u → (∀ ps, u ≠ .tbl ps) → H1 a = H a := fun u hu n => (e a u hu n).trans hu.symm
  cases o with
  | tab nm' =>
    by_cases hb : a = P
    · subst hb
      rw [hP] at ea
      cases ea
      exact t1
    · exact t2 a nm' hb h
  | lst xs => obtain ⟨vs, h1, h2⟩ := h; exact OOk.tx (o := .lst xs) tx (g _ h1 fun _ z => by cases z) ⟨vs, h1, h2⟩
  | kl xs => obtain ⟨o, vs, h1, h2⟩ := h; exact OOk.tx (o := .kl xs) tx (g _ h1 fun _ z => by cases z) ⟨o, vs, h1, h2⟩
  | dk xs => obtain ⟨vs, h1, h2⟩ := h; exact OOk.tx (o := .dk xs) tx (g _ h1 fun _ z => by cases z) ⟨vs, h1, h2⟩
  | dt xs => obtain ⟨vs, h1, h2⟩ := h; exact OOk.tx (o := .dt xs) tx (g _ h1 fun _ z => by cases z) ⟨vs, h1, h2⟩
  | ins C dx xs => obtain ⟨vs, h1, h2⟩ := h; exact OOk.tx (o := .ins C dx xs) tx (g _ h1 fun _ z => by cases z) ⟨vs, h1, h2⟩
  | xd xs => obtain ⟨vs, h1, h2⟩ := h; exact OOk.tx (o := .xd xs) tx (g _ h1 fun _ z => by cases z) ⟨vs, h1, h2⟩
  | fn F => obtain ⟨h1, h2⟩ := h; exact OOk.tx (o := .fn F) tx (g _ h1 fun _ z => by unfold FnO at z; cases z) ⟨h1, h2⟩
  | lm F => obtain ⟨h1, h2⟩ := h; exact OOk.tx (o := .lm F) tx (g _ h1 fun _ z => by unfold LamO at z; cases z) ⟨h1, h2⟩
  | cel d => obtain ⟨v, ⟨o, u, h1, h3⟩, h2⟩ := h; exact OOk.tx (o := .cel d) tx (g _ h1 fun _ z => by cases z) ⟨v, ⟨o, u, h1, h3⟩, h2⟩
theorem de_lam {T0 : Hp} {X : Cx} {nm : Nat → Nat → Str} {c P : Addr} {params : Arguments} {body : Expr} {scope : Scope} {pos : Pos} (TB : TabB X.base X.mg c P) (hcode : X.env.code = .ref c) (hn : nm pos.line pos.col = X.env.qual ++ "<lambda>") (hdef : defaultsOf params X.env = ([], []))
    (hfree : ∀ y ∈ scope.names, y.2 = .free → X.env.scope.names.lookup y.1 = some .cell ∨ X.env.scope.names.lookup y.1 = some .free) : DE T0 X (.Lambda params body scope pos) (dLam X P nm params body scope) :=
  pe_imp (pe_lamX TB hcode hn hdef hfree) fun σ H Q ⟨tx, δ, m, Q', rs, sm, ⟨hP, h⟩, le⟩ => by
    refine ⟨sm P _ hP, fun f c' H1 e t2 t1 nf hf hc nn => ?_⟩
    obtain ⟨s1, t1'⟩ := sm.ext hP e t2 t1
    refine le _ _ _ H1 (h f ⟨X.env.qual ++ "<lambda>", params, body, scope, cloFrom X.env.cells scope.names [], c'⟩ (sm.nil nf) ⟨rfl, rfl, rfl, rfl, rfl⟩) t1' gr fun a o ea => ?_
    by_cases ha : a = f
    · subst ha
      rw [put_same] at ea
      cases ea
      exact ⟨hf, hc⟩
    · rw [put_ne ha] at ea
      exact s1 a o ea
/-! ### calling a value -/
section
variable {W : Wo} {N ps fr : List Str} {F : LF} {f : Addr} {k : Nat} {H : Hp} {vs ws : List V} {Q : VK} {E : XK}
def LF.nf (F : LF) : NF := ⟨"<lambda>", F.qual, F.params, [], F.scope, F.cl, F.c⟩
/-- a lambda, its captured cells tracked -/
theorem act_lm (hF : H f = some (LamO f F)) (hc : H F.c = some (CodeO F.c F.qual)) (C : Cap H F.cl fr ws) (S : NScope N ps fr F.scope) (hb : ∀ (pm ctv : Value) (us : List Value), us.length = ps.length → bindArgs (PySem.W.kla_fn "<lambda>" F.qual F.params F.body F.scope F.cl pm (.ref F.c) ctv) ⟨us, []⟩ = pure (ps.zip us)) (hl : vs.length = ps.length)
    (hbody : ∀ (A : Around) (outer : List Env) (s : Shared), RoomG W.gd k (A.deeper (envF F.nf f s.heap.objs.size)) → Env0 W.P W.w W.K W.mg W.base A outer s H →
      ∃ t, PE (ncx (L2.CX W.P W.w) W.P W.w W.K W.mg W.base N F.nf f A outer s (cut H (capt F.cl)) fun cls d H' => (∀ c ∈ capt F.cl, H' c = none) → E cls d (mend H' H (capt F.cl))) F.body t ∧
        t (startF N vs (ws.map some)) (cut H (capt F.cl)) (fun v H' => (∀ c ∈ capt F.cl, H' c = none) → Q v (mend H' H (capt F.cl)))) :
    Act W (k + 1) (.ref f) vs H Q E := by
  intro A outer s u us hr e0 ru rv
  obtain rfl : u = Value.ref f := ru
  have CL := C.cld
  have e1 := Env0.cut e0 CL
  have lim : s.heap.NoLimit := e0.mod.nolimit.keeps fun b o e => (e0.bs b o e).1
  obtain ⟨pm, ctv, ho⟩ := lamO_at e0.hok hF
  refine PySem.W.kla_callFunE hr.r.depth ho rfl S.co S.gen rfl (codeO_at e0.hok hc) ?_
  rw [hb pm ctv us (by rw [← rv.length]; exact hl)]
  refine wpAny_pure (wpAny_newFunctionEnv S.nocell (fun ⟨n, _⟩ hy => S.par n (List.of_mem_zip hy).1) (fun h₁ hns hsb => ⟨lim.fresh _ hsb, ?_⟩) S.kind)
  show codeAny _ _ (.expr F.body (envF F.nf f s.heap.objs.size)) _ _
  refine PySem.W.kla_codeExpr ?_
  have kp : ∀ b o, s.heap.get? b = some o → h₁.get? b = some o := fun b o e => hsb.extBut b o (Nat.ne_of_lt (Heap.lt_size e)) (Heap.get?_push_of_some _ e)
  obtain ⟨t, ht, hq⟩ := hbody A outer s (hr.deeper _) e0
  have I := inv_startN (CX := L2.CX W.P W.w) (E := fun cls d H' => (∀ c ∈ capt F.cl, H' c = none) → E cls d (mend H' H (capt F.cl))) (tk := s.toks + (ps.zip us).length) (F := F.nf) (f := f) S hr.r.hd e1 hl rv (C.cells e0.hok) hns kp
  refine wpAny_mono (ht.run [] _ (startF N vs (ws.map some)) _ _ I hq) (fun u' s' ⟨v, H', J, rv', q⟩ => ?_) fun e s' hs => wpAny_mono hs (fun _ s'' h => cx_mend e0.hok e0.frf CL (fun _ _ _ hn z => z hn) h) (fun _ s'' h => cx_mend e0.hok e0.frf CL (fun _ _ _ hn z => z hn) h)
  exact ce_mend (Q' := fun v H' => (∀ c ∈ capt F.cl, H' c = none) → Q v (mend H' H (capt F.cl))) e0.hok e0.frf CL (fun _ _ hn z => z hn) ⟨v, H', J.os, J.bare, J.base, J.hok, rv', q⟩
end
end G
namespace G
open PySem PySem.Spec PyProof.Rows L2 NdefX LamX
/-! ### methods of lists -/
theorem mtR_up {T0 : Hp} {X : Cx} {id : String} {r : V → List V → Hp → VK → Prop} {dr : D → List D → M → DK → Prop} (h : MtR X id r) (i : ∀ x xs H Q d ds m Q', RelD H d x → RelDs H ds xs → Sm m H → dr d ds m Q' → Le Q' H Q → r x xs H Q) : MtR X id (upM T0 dr) :=
  fun pins s σ H x xs v us Q I rx ry ⟨_, d, ds, m, Q', r1, r2, sm, q, le⟩ => h pins s σ H x xs v us Q I rx ry (i x xs H Q d ds m Q' r1 r2 sm q le)
def dBM0 (r : D → List D → M → DK → Prop) (to : DTE) : DTE := fun δ m Q => to δ m fun x m1 => (∃ a xs, x = .ref a ∧ m1 a = some (.lst xs)) ∧ r x [] m1 Q
def dBM (r : D → List D → M → DK → Prop) (to : DTE) (t : DTA) : DTE := fun δ m Q => to δ m fun x m1 => (∃ a xs, x = .ref a ∧ m1 a = some (.lst xs)) ∧ t δ m1 fun xs m2 => r x xs m2 Q
section
variable {T0 : Hp} {X : Cx} {o e : Expr} {es : List Expr} {to : DTE} {t : DTA} {r : D → List D → M → DK → Prop} {name : Str} {id : String} {apos cpos : Pos}
theorem lst_ty {m : M} {H : Hp} {d : D} {x : V} {K : PySem.W.Frag} (sm : Sm m H) (r : RelD H d x) (h : ∃ a xs, d = .ref a ∧ m a = some (.lst xs)) : tyV K "list" x H := by
  obtain ⟨a, xs, e, ea⟩ := h
  subst e
  cases rel_ref.mp r
  obtain ⟨vs, e1, _⟩ := sm a _ ea
  exact tyL e1
theorem de_bm0 (slot : Slot "list" name id) (hty : typeOf (.builtin id) = pure (.type "method_descriptor")) (hm : MtR X id (upM T0 r)) (ho : DE T0 X o to)
    (hbase : attributeBase o name X.env (eval o X.env) = eval o X.env := by rfl) (hline : (apos.endLine == cpos.line) = true := by rfl) : DE T0 X (.Call (.Attribute o name apos) [] [] cpos) (dBM0 r to) :=
  pe_imp (pe_bm0 PySem.F.plainAttrs_list slot hty hm ho hbase hline) fun σ H Q ⟨tx, δ, m, Q', rs, sm, h, le⟩ => ⟨tx, δ, m, _, rs, sm, h, fun d m1 v H1 ⟨ty, q⟩ t1 r1 s1 => ⟨lst_ty s1 r1 ty, tx.trans t1, d, [], m1, Q', r1, .nil, s1, q, le.tx t1⟩⟩
theorem de_bm (slot : Slot "list" name id) (hty : typeOf (.builtin id) = pure (.type "method_descriptor")) (hm : MtR X id (upM T0 r)) (ho : DE T0 X o to) (ha : DA T0 X (e :: es) t)
    (hbase : attributeBase o name X.env (eval o X.env) = eval o X.env := by rfl)
    (hfew : ((backTo cpos (starEach (e :: es) X.env)).all (fun x => !x.1) && (backToKw cpos (keywordEach [] X.env)).all (fun x => x.1.isSome)
      && decide ((e :: es).length + ([] : List Keyword).length + (if ([] : List Keyword).isEmpty then 0 else 1) < 30)) = true := by rfl)
    (hline : (apos.endLine == cpos.line) = true := by rfl) (hs : starEach (e :: es) X.env = (false, eval e X.env) :: starEach es X.env := by rfl) (hplain : (backTo cpos (starEach es X.env)).any (·.1) = false := by rfl) :
    DE T0 X (.Call (.Attribute o name apos) (e :: es) [] cpos) (dBM r to t) :=
  pe_imp (pe_bm PySem.F.plainAttrs_list slot hty hm ho ha hbase hfew hline hs hplain) fun σ H Q ⟨tx, δ, m, Q', rs, sm, h, le⟩ => ⟨tx, δ, m, _, rs, sm, h, fun d m1 v H1 ⟨ty, q⟩ t1 r1 s1 => ⟨lst_ty s1 r1 ty, tx.trans t1, δ, m1, _, rs.tx t1, s1, q, fun d2 m2 v2 H2 q2 t2 r2 s2 => ⟨(tx.trans t1).trans t2, d, d2, m2, Q', r1.tx t2, r2, s2, q2, le.tx (t1.trans t2)⟩⟩⟩
end
def dAppend : D → List D → M → DK → Prop := fun x vs m Q => ∃ l xs y, x = .ref l ∧ vs = [y] ∧ m l = some (.lst xs) ∧ xs.length < sizeLine ∧ Q .non (put m l (.lst (xs ++ [y])))
def dPop : D → List D → M → DK → Prop := fun x vs m Q => ∃ l xs y, x = .ref l ∧ vs = [] ∧ m l = some (.lst xs) ∧ xs[xs.length - 1]? = some y ∧ Q y (put m l (.lst xs.dropLast))
def dPopAt : D → List D → M → DK → Prop := fun x vs m Q => ∃ l xs i k y, x = .ref l ∧ vs = [.int i] ∧ m l = some (.lst xs) ∧ -(2 ^ 63) ≤ i ∧ i < 2 ^ 63 ∧ seqIndex? i xs.length = some k ∧ xs[k]? = some y ∧ Q y (put m l (.lst (xs.eraseIdx k)))
def dReverse : D → List D → M → DK → Prop := fun x vs m Q => ∃ l xs, x = .ref l ∧ vs = [] ∧ m l = some (.lst xs) ∧ Q .non (put m l (.lst xs.reverse))
theorem RelDs.dropLast {H : Hp} {ds : List D} {vs : List V} (h : RelDs H ds vs) : RelDs H ds.dropLast vs.dropLast := by
  rw [List.dropLast_eq_take, List.dropLast_eq_take, h.length]
  exact h.take _
theorem RelDs.erase {H : Hp} {ds : List D} {vs : List V} (n : Nat) (h : RelDs H ds vs) : RelDs H (ds.eraseIdx n) (vs.eraseIdx n) := by
  rw [List.eraseIdx_eq_take_drop_succ, List.eraseIdx_eq_take_drop_succ]
  exact (h.take n).app (h.drop _)
section
variable {T0 : Hp} {X : Cx}
theorem le_setL {m : M} {H : Hp} {Q' : DK} {Q : VK} {a : Addr} {xs ys : List D} {vs us : List V} {d : D} {v : V} (le : Le Q' H Q) (sm : Sm m H) (h : H a = some (.lst vs)) (r : RelDs H ys us) (rd : RelD H d v) (q : Q' d (put m a (.lst ys))) : Q v (upd H a (.lst us)) := by
  have tu : Tx H (L2.upd H a (.lst us)) := Tx.upd (lst_nk h)
  exact le d _ v _ q tu (rd.tx tu) (sm.upd (lst_nk h) ⟨us, upd_same, r.tx tu⟩)
theorem m_append : MtR X "list.append" (upM T0 dAppend) := mtR_up mt_append fun x xs H Q d ds m Q' r1 r2 sm ⟨l, ys, y, e1, e2, e3, hl, q⟩ le => by
  subst e1 e2
  cases rel_ref.mp r1
  obtain ⟨v, ev, rv⟩ := rel1 r2
  obtain ⟨vs, h1, h2⟩ := sm l _ e3
  exact ⟨l, vs, v, rfl, ev, h1, by rw [← h2.length]; exact hl, le_setL (xs := ys) le sm h1 (h2.snoc rv) gn q⟩
theorem m_pop : MtR X "list.pop" (upM T0 dPop) := mtR_up mt_pop fun x xs H Q d ds m Q' r1 r2 sm ⟨l, ys, y, e1, e2, e3, hl, q⟩ le => by
  subst e1 e2
  cases rel_ref.mp r1
  cases r2.inv0
  obtain ⟨vs, h1, h2⟩ := sm l _ e3
  obtain ⟨v, ev, rv⟩ := h2.get hl
  exact ⟨l, vs, v, rfl, rfl, h1, by rw [← h2.length]; exact ev, le_setL (xs := ys) le sm h1 h2.dropLast rv q⟩
theorem m_popAt : MtR X "list.pop" (upM T0 dPopAt) := mtR_up mt_popAt fun x xs H Q d ds m Q' r1 r2 sm ⟨l, ys, i, k, y, e1, e2, e3, hi1, hi2, hk, hl, q⟩ le => by
  subst e1 e2
  cases rel_ref.mp r1
  cases ints1 r2
  obtain ⟨vs, h1, h2⟩ := sm l _ e3
  obtain ⟨v, ev, rv⟩ := h2.get hl
  exact ⟨l, vs, i, k, v, rfl, rfl, h1, hi1, hi2, by rw [← h2.length]; exact hk, ev, le_setL (xs := ys) le sm h1 (h2.erase k) rv q⟩
theorem m_reverse : MtR X "list.reverse" (upM T0 dReverse) := mtR_up mt_reverse fun x xs H Q d ds m Q' r1 r2 sm ⟨l, ys, e1, e2, e3, q⟩ le => by
  subst e1 e2
  cases rel_ref.mp r1
  cases r2.inv0
  obtain ⟨vs, h1, h2⟩ := sm l _ e3
  exact ⟨l, vs, rfl, rfl, h1, le_setL (xs := ys) le sm h1 h2.rev gn q⟩
/-! xs[i] = v -/
def dSetL : DSet := fun o i v m Q => ∃ p xs k j, o = .ref p ∧ i = .int k ∧ m p = some (.lst xs) ∧ ixN xs.length k = some j ∧ Q (put m p (.lst (xs.set j v)))
theorem x_set : PSet X (upSet T0 dSetL) := fun pins s σ H o i v ov iv u Q I ro ri rv ⟨_, d1, d2, d3, m, Q', r1, r2, r3, sm, ⟨p, xs, k, j, e1, e2, e3, hj, q⟩, le⟩ => by
  subst e1 e2
  cases rel_ref.mp r1
  cases rel_int.mp r2
  obtain ⟨vs, h1, h2⟩ := sm p _ e3
  have tu : Tx H (L2.upd H p (.lst (vs.set j v))) := Tx.upd (lst_nk h1)
  exact set_list pins s σ H _ _ _ ov iv u Q I ro ri rv ⟨p, vs, k, j, rfl, rfl, h1, by rw [← h2.length]; exact hj, le _ _ q tu (sm.upd (lst_nk h1) ⟨_, upd_same, (h2.set j r3).tx tu⟩)⟩
/-! [..] * n, list(range(n)), list(xs) -/
def dRep : DR2 := fun x y m Q => ∃ l k xs, x = .ref l ∧ y = .int k ∧ m l = some (.lst xs) ∧ -(2 ^ 63) ≤ k ∧ k < 2 ^ 63 ∧ xs.length * k.toNat ≤ sizeLine ∧ ∀ p, m p = none → Q (.ref p) (put m p (.lst (List.replicate k.toNat xs).flatten))
end
end G
namespace G
open PySem PySem.Spec PyProof.Rows L2 NdefX LamX
/-! ### calls of values, with keywords -/
abbrev XW (X : Cx) (gd : Bool) : Wo := ⟨X.prog, X.w, X.K, X.mg, X.base, gd⟩
def ActK (W : Wo) (k : Nat) (v : V) (vs : List V) (ks : List Str) (zs : List V) (H : Hp) (Q : VK) (E : XK) : Prop :=
  ∀ (A : Around) (outer : List Env) (s : Shared) (u : Value) (us ws : List Value), RoomG W.gd k A → Env0 W.P W.w W.K W.mg W.base A outer s H → L2.RelV v u → Vals vs us → Vals zs ws →
    codeAny (model W.P W.w) A (.call u ⟨us, ks.zip ws⟩) (CR (L2.CX W.P W.w) outer W.P W.w H s Q E) s
theorem Act.toK {W : Wo} {k : Nat} {v : V} {vs : List V} {H : Hp} {Q : VK} {E : XK} (a : Act W k v vs H Q E) : ActK W k v vs [] [] H Q E := fun A outer s u us ws hr e0 ru rv rw => a A outer s u us hr e0 ru rv
/-- the value d may be called with ds and the keywords ks = es wherever m is held -/
def DAct (W : Wo) (k : Nat) (d : D) (ds : List D) (ks : List Str) (es : List D) (m : M) (Q : DK) (E : DXK) : Prop :=
  ∀ (H : Hp) (v : V) (vs zs : List V) (Qv : VK) (Ev : XK), RelD H d v → RelDs H ds vs → RelDs H es zs → Sm m H → Le Q H Qv → LeX E H Ev → ActK W k v vs ks zs H Qv Ev
theorem DAct.lvl {W : Wo} {j k : Nat} {d : D} {ds es : List D} {ks : List Str} {m : M} {Q : DK} {E : DXK} (a : DAct W j d ds ks es m Q E) (h : j ≤ k) : DAct W k d ds ks es m Q E :=
  fun H v vs zs Qv Ev r1 r2 r3 s l1 l2 A outer sh u us ws hr => a H v vs zs Qv Ev r1 r2 r3 s l1 l2 A outer sh u us ws (hr.mono h)
theorem DAct.imp {W : Wo} {k : Nat} {d : D} {ds es : List D} {ks : List Str} {m m' : M} {Q Q' : DK} {E E' : DXK} (a : DAct W k d ds ks es m Q E) (hm : Sub m m') (h : ∀ r n, Q r n → ∃ n', Sub n' n ∧ Q' r n') (he : ∀ c x n, E c x n → ∃ n', Sub n' n ∧ E' c x n') : DAct W k d ds ks es m' Q' E' :=
  fun H v vs zs Qv Ev r1 r2 r3 s l1 l2 => a H v vs zs Qv Ev r1 r2 r3 (s.sub hm) (fun d m2 v H' q t r s' => by
    obtain ⟨n, sb, q'⟩ := h _ _ q
    exact l1 d n v H' q' t r (s'.sub sb)) (fun c x m2 H' q t s' => by
    obtain ⟨n, sb, q'⟩ := he _ _ _ q
    exact l2 c x n H' q' t (s'.sub sb))
/-- how the arguments of a call are bound -/
def BindD (K : PySem.W.Frag) (fd : FuncData) (ps : List Str) (n : Nat) (ks : List Str) (gD : List D → List D → List D) : Prop :=
  ∀ (H : Hp) (s : Shared) (us ws : List Value) (vs zs : List V) (ds es : List D), K.In s.heap → RelDs H ds vs → Vals vs us → RelDs H es zs → Vals zs ws → ds.length = n → es.length = ks.length →
    ∃ us' vs', BindsTo s fd ⟨us, ks.zip ws⟩ (ps.zip us') ∧ Vals vs' us' ∧ RelDs H (gD ds es) vs'
section
variable {P : Program} {w : World} {K : PySem.W.Frag} {mg : Str → Option Value} {base : Heap} {gd : Bool} {k n : Nat} {f : Addr} {fd : FuncData} {ps ks : List Str} {sp : DSp} {gD : List D → List D → List D}
theorem FnG.dact {ds es : List D} {m : M} {Q : DK} {E : DXK} (F : FnG P w K mg base gd k f fd ps (upSp sp)) (B : BindD K fd ps n ks gD) (h1 : ds.length = n) (h2 : es.length = ks.length) (h : sp (gD ds es) m Q E) : DAct ⟨P, w, K, mg, base, gd⟩ k (.ref f) ds ks es m Q E := by
  intro H v vs zs Qv Ev r1 r2 r3 sm l1 l2 A outer s u us ws hr e0 ru rv rw
  cases rel_ref.mp r1
  obtain rfl : u = Value.ref f := ru
  obtain ⟨us', vs', b1, b2, b3⟩ := B H s us ws vs zs ds es (e0.mod.kin.keeps fun b o e => (e0.bs b o e).1) r2 rv r3 rw h1 h2
  exact F.run A outer s H ⟨us, ks.zip ws⟩ us' vs' Qv Ev hr e0 b1 b2 ⟨_, m, Q, E, b3, sm, h, l1, l2⟩
theorem BindD.pos {ds : List Value} {dvs : List V} {dd : List D} (hb : Binds K fd ps ds) (hd : Vals dvs ds) (hr : ∀ H, RelDs H dd dvs) (hn : n + dd.length = ps.length) : BindD K fd ps n [] (fun xs _ => xs ++ dd) := by
  intro H s us ws vs zs xs es hk r1 r2 r3 r4 l1 l2
  refine ⟨us ++ ds, vs ++ dvs, ?_, r2.append hd, r1.app (hr H)⟩
  refine hb s us hk ?_
  have e1 := (hr H).length
  have e2 : dvs.length = ds.length := Paired.length hd
  have e3 := r1.length
  have e4 : vs.length = us.length := Paired.length r2
  rw [List.length_append]
  omega
theorem BindD.kw {g : List Value → List Value → List Value} {gV : List V → List V → List V} (hb : KBn K fd ps n ks g gV) (hg : ∀ H ds es vs us, RelDs H ds vs → RelDs H es us → RelDs H (gD ds es) (gV vs us)) : BindD K fd ps n ks gD := by
  intro H s us ws vs zs xs es hk r1 r2 r3 r4 l1 l2
  refine ⟨g us ws, gV vs zs, hb.to s us ws hk ?_ ?_, hb.rel r2 r4, hg H _ _ _ _ r1 r3⟩
  · rw [← Paired.length r2, ← r1.length]; exact l1
  · rw [← Paired.length r4, ← r3.length]; exact l2
end
/-! ### a class is made -/
section
variable {P : Program} {w : World} {K : PySem.W.Frag} {mg : Str → Option Value} {base : Heap} {A : Around} {outer : List Env} {s : Shared} {H : Hp} {C : Addr}
theorem Env0.laid {a : Addr} {o : HO} {h' : Heap} {t' : Nat} (e : Env0 P w K mg base A outer s H) (k : ∀ b u, s.heap.get? b = some u → h'.get? b = some u) (ha : s.heap.objs.size ≤ a) (ok : ObjOk P w (upd H a o) h' a o) (hsz : s.heap.objs.size ≤ h'.objs.size) : Env0 P w K mg base A outer { s with heap := h', toks := t' } (upd H a o) := by
  refine ⟨e.frames, e.mod, fun b ob q => ⟨k b ob (e.bs b ob q).1, ?_⟩, Nat.le_trans e.bsz hsz, ?_, fun b hb => ?_, e.hok.laid k ha ok, e.bare⟩
  · have h1 := Heap.lt_size q
    rw [upd_ne (Nat.ne_of_lt (Nat.lt_of_lt_of_le (Nat.lt_of_lt_of_le h1 e.bsz) ha))]
    exact (e.bs b ob q).2
  · exact Heap.FunFrames.of_keeps (fun b o q _ => ⟨o, k b o q, rfl⟩) e.funs
  · obtain ⟨_, ob, ho, _⟩ := e.funs.mem hb
    rw [upd_ne (Nat.ne_of_lt (Nat.lt_of_lt_of_le (Heap.lt_size ho) ha))]
    exact e.frf b hb
theorem UB.pre {fs : List Addr} {H H1 H' : Hp} {h h1 B h' : Heap} (k : ∀ b u, h.get? b = some u → h1.get? b = some u) (un : Un fs [] H H1 h h1) (ub : UB fs H1 H' h1 B h') : UB fs H H' h B h' where
  keep := fun b o e n hb => ub.keep b o (k b o e) (un.free b o e n (by simp)) hb
  slot := fun b o e hb => ub.slot b o (k b o e) hb
  free := fun b o e n => ub.free b o (k b o e) (un.free b o e n (by simp))
  there := fun b o e hb => ub.there b o (k b o e) hb
  tups := fun b xs e => ub.tups b xs (un.tups b xs e)
  frzs := fun b o xs e => ub.frzs b o xs (un.frzs b o xs e)
  tbls := fun b ps e => by
    obtain ⟨m1, e1⟩ := un.tbls b ps e
    obtain ⟨m2, e2⟩ := ub.tbls b _ e1
    exact ⟨m1 ++ m2, by rw [e2, Array.append_assoc]⟩
theorem dact_make {gd : Bool} {k n : Nat} {f : Addr} {fd : FuncData} {ps ks : List Str} {sp : DSp} {gD : List D → List D → List D} {ds es : List D} {m : M} {Q : DK} {E : DXK} (Mk : L2.Mk K C f) (F : FnG P w K mg base gd k f fd ps (upSp sp)) (B : BindD K fd ps (n + 1) ks gD) (h1 : ds.length = n) (h2 : es.length = ks.length)
    (h : ∀ x dx, m x = none → x ≠ dx → sp (gD (.ref x :: ds) es) (put m x (.ins C dx [])) (fun d m2 => d = .non ∧ Q (.ref x) m2) E) : DAct ⟨P, w, K, mg, base, gd⟩ (k + 1) (.ref C) ds ks es m Q E := by
  intro H v vs zs Qv Ev r1 r2 r3 sm l1 l2 A outer s u us ws hr e0 ru rv rw
  cases rel_ref.mp r1
  obtain rfl : u = Value.ref C := ru
  have kin : K.In s.heap := e0.mod.kin.keeps fun b o e => (e0.bs b o e).1
  have g1 : (s.heap.push PySem.W.emptyDict).get? s.heap.objs.size = some PySem.W.emptyDict := Heap.get?_push_size s.heap rfl
  have g2 : ((s.heap.push PySem.W.emptyDict).push (PySem.W.instObj C s.heap.objs.size)).get? (s.heap.objs.size + 1) = some (PySem.W.instObj C s.heap.objs.size) := by
    have := Heap.get?_push_size (s.heap.push PySem.W.emptyDict) (o := PySem.W.instObj C s.heap.objs.size) rfl
    rwa [Heap.size_push] at this
  have g3 : (s.heap.push PySem.W.emptyDict).Ns s.heap.objs.size (fun _ => none) := ⟨PySem.W.emptyDict, #[], _, g1, rfl, (fun e he => absurd he (by simp)), fun _ => rfl⟩
  have k1 : ∀ b u, s.heap.get? b = some u → (s.heap.push PySem.W.emptyDict).get? b = some u := fun b u q => Heap.get?_push_of_some _ q
  have k2 : ∀ b u, (s.heap.push PySem.W.emptyDict).get? b = some u → ((s.heap.push PySem.W.emptyDict).push (PySem.W.instObj C s.heap.objs.size)).get? b = some u := fun b u q => Heap.get?_push_of_some _ q
  have ne : s.heap.objs.size ≠ s.heap.objs.size + 1 := Nat.ne_of_lt (Nat.lt_succ_self _)
  have n1 : H s.heap.objs.size = none := e0.hok.fresh (Nat.le_refl _)
  have n2 : H (s.heap.objs.size + 1) = none := e0.hok.fresh (Nat.le_succ _)
  have E1 := Env0.laid (a := s.heap.objs.size) (o := .own (s.heap.objs.size + 1)) (t' := s.toks) e0 k1 (Nat.le_refl _) ⟨_, g1⟩ (by rw [Heap.size_push]; exact Nat.le_succ _)
  have E2 := Env0.laid (a := s.heap.objs.size + 1) (o := .ins C s.heap.objs.size []) (h' := (s.heap.push PySem.W.emptyDict).push (PySem.W.instObj C s.heap.objs.size)) (t' := s.toks) E1 k2 (Nat.le_of_eq (Heap.size_push _ _)) ⟨by rw [upd_ne ne, upd_same], Nat.zero_le _, ne, g2, fun _ => none, (Heap.Ns1.of_empty g3).at fun o q => Heap.get?_push_of_some _ q, fun _ => True.intro, fun y hy => absurd rfl hy⟩ (by rw [Heap.size_push (h := s.heap.push PySem.W.emptyDict)]; exact Nat.le_succ _)
  have hn2 : (L2.upd H s.heap.objs.size (.own (s.heap.objs.size + 1))) (s.heap.objs.size + 1) = none := by rw [upd_ne (Ne.symm ne)]; exact n2
  have t2 : Tx H (L2.upd (L2.upd H s.heap.objs.size (.own (s.heap.objs.size + 1))) (s.heap.objs.size + 1) (.ins C s.heap.objs.size [])) := (Tx.new n1).trans (Tx.new hn2)
  have s2 : Sm (put m (s.heap.objs.size + 1) (.ins C s.heap.objs.size [])) (L2.upd (L2.upd H s.heap.objs.size (.own (s.heap.objs.size + 1))) (s.heap.objs.size + 1) (.ins C s.heap.objs.size [])) := Sm.new (o := .ins C s.heap.objs.size []) (sm.skip n1) hn2 ⟨[], upd_same, .nil⟩
  have U1 : Un (frs outer) [] H (L2.upd H s.heap.objs.size (.own (s.heap.objs.size + 1))) s.heap (s.heap.push PySem.W.emptyDict) := Un.laid k1 (Nat.le_refl _) n1
  have U2 : Un (frs outer) [] (L2.upd H s.heap.objs.size (.own (s.heap.objs.size + 1))) (L2.upd (L2.upd H s.heap.objs.size (.own (s.heap.objs.size + 1))) (s.heap.objs.size + 1) (.ins C s.heap.objs.size [])) (s.heap.push PySem.W.emptyDict) ((s.heap.push PySem.W.emptyDict).push (PySem.W.instObj C s.heap.objs.size)) := Un.laid k2 (Nat.le_of_eq (Heap.size_push _ _)) hn2
  have U := U1.trans U2
  have hq := h (s.heap.objs.size + 1) s.heap.objs.size (sm.nil n2) (Ne.symm ne)
  obtain ⟨us', vs', b1, b2, b3⟩ := B _ { s with heap := (s.heap.push PySem.W.emptyDict).push (PySem.W.instObj C s.heap.objs.size) } (.ref (s.heap.objs.size + 1) :: us) ws (.ref (s.heap.objs.size + 1) :: vs) zs (.ref (s.heap.objs.size + 1) :: ds) es (kin.keeps fun b o e => k2 b o (k1 b o e)) (.cons (rel_ref.mpr rfl) (r2.tx t2)) (.cons rfl rv) (r3.tx t2) rw (congrArg Nat.succ h1) h2
  refine make_map (f := f) kin Mk.makes Mk.init (beq_iff_eq.mp Mk.fn) (codeAny_mono (F.run _ outer _ _ ⟨.ref (s.heap.objs.size + 1) :: us, ks.zip ws⟩ us' vs' (fun v H3 => v = .non ∧ Qv (.ref (s.heap.objs.size + 1)) H3) Ev (hr.make C us (ks.zip ws)) (E2.make C us (ks.zip ws)) b1 b2 ⟨_, _, _, _, b3, s2, hq, fun d m3 v H3 ⟨ed, q3⟩ t3 r3 s3 => ?_, fun c x m3 H3 q3 t3 s3 => l2 c x m3 H3 q3 (t2.trans t3) s3⟩) fun r s' hq' => ?_)
  · subst ed
    exact ⟨rel_non.mp r3, l1 _ m3 _ H3 q3 (t2.trans t3) (rel_ref.mpr rfl) s3⟩
  · match r, hq' with
    | .error e, hq' =>
      obtain ⟨a, B', H', cls, d, q1, q2, q3, q4, q5, q6, q7, q8⟩ := hq'
      exact ⟨a, B', H', cls, d, q1, q2, q3, UB.pre (fun b u q => k2 b u (k1 b u q)) U q4, q5, q6, q7, q8⟩
    | .ok (.ret y), hq' =>
      obtain ⟨v, H', q1, q2, q3, q4, q5, ev, q6⟩ := hq'
      subst ev
      exact ⟨q5, .ref (s.heap.objs.size + 1), H', q1, q2, U.trans q3, q4, rfl, q6⟩
end
end G
namespace G
open PySem PySem.Spec PyProof.Rows L2 NdefX LamX
/-! ### the frame's cells, shown to a callee -/
def del (m : M) (a : Addr) : M := fun b => if b = a then none else m b
theorem del_same {m : M} {a : Addr} : del m a a = none := if_pos rfl
theorem del_ne {m : M} {a b : Addr} (h : b ≠ a) : del m a b = m b := if_neg h
def show_ : List (Nat × Addr) → DSt → M → M
  | [], _, m => m
  | (i, c) :: cs, δ, m => match δ[i]? with
    | some (some d) => put (show_ cs δ m) c (.cel d)
    | _ => show_ cs δ m
def hide : List (Nat × Addr) → M → M
  | [], m => m
  | (_, c) :: cs, m => del (hide cs m) c
theorem hide_get {m : M} {b : Addr} : ∀ {cs : List (Nat × Addr)}, hide cs m b = if b ∈ cs.map (·.2) then none else m b
  | [] => by simp [hide]
  | (i, c) :: cs => by
    unfold hide del
    rw [hide_get (cs := cs)]
    by_cases h : b = c
    · simp [h]
    · simp only [if_neg h, List.map_cons, List.mem_cons, h, false_or, if_false]
theorem show_cases {δ : DSt} {m : M} {b : Addr} {o : O} : ∀ {cs : List (Nat × Addr)}, (∀ p ∈ cs, ∃ x, δ[p.1]? = some (some x)) → show_ cs δ m b = some o → (∃ p ∈ cs, p.2 = b ∧ ∃ d, δ[p.1]? = some (some d) ∧ o = .cel d) ∨ (b ∉ cs.map (·.2) ∧ m b = some o)
  | [], _, e => .inr ⟨by simp, e⟩
  | (i, c) :: cs, h, e => by
    obtain ⟨d, hd⟩ := h (i, c) List.mem_cons_self
    have e' : put (show_ cs δ m) c (.cel d) b = some o := by
      have : show_ ((i, c) :: cs) δ m = put (show_ cs δ m) c (.cel d) := by
        show (match δ[i]? with | some (some d) => put (show_ cs δ m) c (.cel d) | _ => show_ cs δ m) = _
        rw [show δ[i]? = some (some d) from hd]
      rw [← this]; exact e
    by_cases hb : b = c
    · subst hb
      rw [put_same] at e'
      cases e'
      exact .inl ⟨(i, b), List.mem_cons_self, rfl, d, hd, rfl⟩
    · rw [put_ne hb] at e'
      rcases show_cases (fun p hp => h p (List.mem_cons_of_mem _ hp)) e' with ⟨p, hp, q⟩ | ⟨h1, h2⟩
      · exact .inl ⟨p, List.mem_cons_of_mem _ hp, q⟩
      · refine .inr ⟨?_, h2⟩
        rw [List.map_cons, List.mem_cons]
        exact fun z => z.elim hb h1
def expX (cs : List (Nat × Addr)) (δ : DSt) (m : M) (Q : DK) (Wx : DWX) (R : M → DK → DXK → Prop) : Prop :=
  (∀ p ∈ cs, ∃ x, δ[p.1]? = some (some x)) ∧ ((∀ p ∈ cs, m p.2 = none) → (cs.map (·.2)).Nodup → R (show_ cs δ m) (fun r m4 => Q r (hide cs m4)) (fun c x m4 => Wx c x δ (hide cs m4)))
theorem expX_nil {δ : DSt} {m : M} {Q : DK} {Wx : DWX} {R : M → DK → DXK → Prop} : expX [] δ m Q Wx R = R m Q (fun c x m4 => Wx c x δ m4) := by
  apply propext
  exact ⟨fun h => h.2 (fun p hp => by cases hp) List.Pairwise.nil, fun h => ⟨fun p hp => (by cases hp), fun _ _ => h⟩⟩
section
variable {T0 : Hp} {X : Cx} {σ : L2.St} {δ : DSt} {m : M} {H : Hp} {cs : List (Nat × Addr)} {Q' : DK} {Q : VK} {Wx : DWX} {WV : WX}
theorem xok_tx {H2 : Hp} (xo : XOk σ cs H H2) : Tx H H2 := fun a u k e => by
  rw [xo.out a fun z => by
    obtain ⟨p, hp, rfl⟩ := List.mem_map.mp z
    rw [xo.non p hp] at e
    cases e]
  exact e
theorem xok_cut {H2 H3 : Hp} (xo : XOk σ cs H H2) (hc : ∀ c ∈ cs.map (·.2), H3 c = H2 c) : Tx H3 (cut H3 (cs.map (·.2))) := fun a u k e => by
  rw [cut_out fun z => by
    have e2 := hc a z
    obtain ⟨p, hp, rfl⟩ := List.mem_map.mp z
    obtain ⟨v, _, o, w, e3, _⟩ := xo.val p hp
    rw [e, e3] at e2
    cases e2
    rcases k with ⟨vs, z⟩ | ⟨c, q, z⟩
    · cases z
    · unfold CodeO at z; cases z]
  exact e
theorem xok_sm {H2 : Hp} (xo : XOk σ cs H H2) (rs : RelSt H δ σ) (sm : Sm m H) (hv : ∀ p ∈ cs, ∃ x, δ[p.1]? = some (some x)) : Sm (show_ cs δ m) H2 := fun b o e => by
  have tx := xok_tx xo
  rcases show_cases hv e with ⟨p, hp, rfl, d, hd, rfl⟩ | ⟨h1, h2⟩
  · obtain ⟨v, ev, c⟩ := xo.val p hp
    obtain ⟨v', ev', rv⟩ := rs.get hd
    rw [ev] at ev'
    cases ev'
    exact ⟨v, c, rv.tx tx⟩
  · exact (sm b o h2).tx tx (xo.out b h1)
theorem xok_hide {H2 H3 : Hp} {m3 : M} (xo : XOk σ cs H H2) (hc : ∀ c ∈ cs.map (·.2), H3 c = H2 c) (s3 : Sm m3 H3) : Sm (hide cs m3) (cut H3 (cs.map (·.2))) := fun b o e => by
  rw [hide_get] at e
  by_cases hb : b ∈ cs.map (·.2)
  · rw [if_pos hb] at e; cases e
  · rw [if_neg hb] at e
    exact (s3 b o e).tx (xok_cut xo hc) (cut_out hb)
theorem expX_run {R : M → DK → DXK → Prop} {RV : Hp → VK → XK → Prop} (tx : Tx T0 H) (rs : RelSt H δ σ) (sm : Sm m H) (hW : ∀ cls d δ m σ H, Wx cls d δ m → Tx T0 H → RelSt H δ σ → Sm m H → WV cls d σ H) (le : Le Q' H Q) (h : expX cs δ m Q' Wx R)
    (hR : ∀ m4 Q4 E4 H2 Qv Ev, R m4 Q4 E4 → Sm m4 H2 → Tx H H2 → Le Q4 H2 Qv → LeX E4 H2 Ev → RV H2 Qv Ev) : tX cs RV WV σ H Q := by
  obtain ⟨hv, h⟩ := h
  refine ⟨fun p hp => ?_, fun H2 xo => ?_⟩
  · obtain ⟨d, hd⟩ := hv p hp
    obtain ⟨v, ev, _⟩ := rs.get hd
    exact ⟨v, ev⟩
  · have t2 := xok_tx xo
    refine hR _ _ _ _ _ _ (h (fun p hp => sm.nil (xo.non p hp)) xo.nd) (xok_sm xo rs sm hv) t2 (fun d m3 v H3 q t3 r3 s3 hc => ?_) (fun cls d m3 H3 q t3 s3 hc => ?_)
    · have t4 := xok_cut xo hc
      exact le d _ v _ q ((t2.trans t3).trans t4) (r3.tx t4) (xok_hide xo hc s3)
    · have t4 := xok_cut xo hc
      exact hW cls d δ _ σ _ q (tx.trans ((t2.trans t3).trans t4)) (rs.tx ((t2.trans t3).trans t4)) (xok_hide xo hc s3)
end
/-! ### what can be called -/
def KeepD (K : PySem.W.Frag) (m : M) (d : D) : Prop := ∃ f, d = .ref f ∧ (PySem.W.keepIn K (.ref f) = true ∨ (∃ F, m f = some (.fn F)) ∨ ∃ F, m f = some (.lm F))
theorem keepD_looks {K : PySem.W.Frag} {P : Program} {w : World} {m : M} {H : Hp} {h : Heap} {d : D} {v : V} {u : Value} (k : KeepD K m d) (sm : Sm m H) (hok : HOk P w H h) (hk : K.In h) (r : RelD H d v) (ru : L2.RelV v u) : ∃ k, (k = Keeper.frame ∨ k = Keeper.machine ∨ k = Keeper.boundFrame) ∧ PySem.W.Looks (model P w) h (keeperOf u) k := by
  obtain ⟨f, e, k⟩ := k
  subst e
  cases rel_ref.mp r
  obtain rfl : u = Value.ref f := ru
  rcases k with k | ⟨F, k⟩ | ⟨F, k⟩
  · exact PySem.W.keeps_K k h hk
  · obtain ⟨od, sl, doc, pm, ctv, ho⟩ := fnO_at hok (sm f _ k).1
    exact ⟨.frame, .inl rfl, (PySem.W.Looks.ld (part := none) ho).andThen .now⟩
  · obtain ⟨pm, ctv, ho⟩ := lamO_at hok (sm f _ k).1
    exact ⟨.frame, .inl rfl, (PySem.W.Looks.ld (part := none) ho).andThen .now⟩
/-! ### keywords -/
abbrev DKw (T0 : Hp) (X : Cx) (kws : List Keyword) (t : DTA) : Prop := L2.PK X kws (upA T0 t)
section
variable {T0 : Hp} {X : Cx} {e : Expr} {kws : List Keyword} {te : DTE} {t : DTA} {nm : Option Str} {kpos : Pos}
theorem dk_nil : DKw T0 X [] dNil := ⟨fun pos pins s σ H Q I ⟨tx, δ, m, Q', rs, sm, q, le⟩ => pk_nil.run pos pins s σ H Q I (le [] m [] H q (Tx.refl H) .nil sm)⟩
theorem dk_cons (ha : DE T0 X e te) (hr : DKw T0 X kws t) : DKw T0 X (⟨nm, e, kpos⟩ :: kws) (dCons te t) :=
  ⟨fun pos pins s σ H Q I ⟨tx, δ, m, Q', rs, sm, h, le⟩ => (pk_cons ha hr).run pos pins s σ H Q I ⟨tx, δ, m, _, rs, sm, h, fun d m1 v H1 h1 t1 r1 s1 => ⟨tx.trans t1, δ, m1, _, rs.tx t1, s1, h1, fun d2 m2 v2 H2 h2 t2 r2 s2 => le _ m2 _ H2 h2 (t1.trans t2) (.cons (r1.tx t2) r2) s2⟩⟩⟩
end
/-! ### the tail of a call -/
section
variable {T0 : Hp} {X : Cx} {gd : Bool} {W : Wo} {k j : Nat} {cs : List (Nat × Addr)} {Wx : DWX} {ks : List Str} {t tk : DTA} {δ : DSt} {m1 : M} {Q' : DK} {f : D} {fds : List D} {Cl : List D → List D → M → Prop} {pins : List (Addr × Obj)} {σ : L2.St} {H1 : Hp} {s1 : Shared} {Q : VK} {u : Value} {v : V} {first : List Value} {fvs : List V} {e : Expr} {es : List Expr} {kws : List Keyword} {pos : Pos}
theorem tail_run {us ws : List Value} {vs zs : List V} {ds es' : List D} {m3 : M} {H3 : Hp} {s3 : Shared} (hW : XW X gd = W) (hr : RoomG gd j X.A) (hkj : k ≤ j) (xc : XC X cs) (tk0 : TK T0 X Wx) (I3 : Inv X pins σ H3 s3) (tx : Tx T0 H3) (rs : RelSt H3 δ σ) (sm : Sm m3 H3)
    (rf : RelD H3 f v) (ru : L2.RelV v u) (rd : RelDs H3 (fds ++ ds) (fvs ++ vs)) (rv : Vals (fvs ++ vs) (first ++ us)) (re : RelDs H3 es' zs) (rz : Vals zs ws) (hc : expX cs δ m3 Q' Wx (fun m4 Q4 E4 => DAct W k f (fds ++ ds) ks es' m4 Q4 E4)) (le : Le Q' H3 Q) :
    wpAny (model X.prog X.w) X.A (call u (first ++ us) (ks.zip ws)) (EP X pins σ Q) X.xe s3 := by
  obtain ⟨WV, tkV, hWx⟩ := tk0
  subst hW
  refine run_x (args := ⟨first ++ us, ks.zip ws⟩) (R := fun H2 Qv Ev => ActK (XW X gd) k v (fvs ++ vs) ks zs H2 Qv Ev) xc tkV I3 (expX_run tx rs sm hWx le hc fun m4 Q4 E4 H2 Qv Ev a s4 t2 l1 l2 => a H2 v _ _ Qv Ev (rf.tx t2) (rd.tx t2) (re.tx t2) s4 l1 l2) fun H2 Q2 E2 e0 a => a X.A X.stack s3 u _ _ (hr.mono hkj) e0 ru rv rz
theorem tail1 (hW : XW X gd = W) (hr : RoomG gd j X.A) (hkj : k ≤ j) (xc : XC X cs) (tk0 : TK T0 X Wx) (ha : DA T0 X (e :: es) t) (hkw : DKw T0 X kws tk)
    (hall : (backToKw pos (keywordEach kws X.env)).all (·.1.isSome) = true) (hks : (backToKw pos (keywordEach kws X.env)).filterMap (·.1) = ks)
    (hst : starEach (e :: es) X.env = (false, eval e X.env) :: starEach es X.env)
    (hpl : ((backTo pos (starEach (e :: es) X.env)).any (·.1) || (backToKw pos (keywordEach kws X.env)).any (·.1.isNone)) = false)
    (I1 : Inv X pins σ H1 s1) (tx : Tx T0 H1) (rs : RelSt H1 δ σ) (sm : Sm m1 H1) (rf : RelD H1 f v) (ru : L2.RelV v u) (rd : RelDs H1 fds fvs) (rv : Vals fvs first)
    (h : t δ m1 fun ds m2 => tk δ m2 fun es' m3 => Cl ds es' m3) (hk : ∀ ds es' m3, Cl ds es' m3 → KeepD X.K m3 f) (hc : ∀ ds es' m3, Cl ds es' m3 → expX cs δ m3 Q' Wx (fun m4 Q4 E4 => DAct W k f (fds ++ ds) ks es' m4 Q4 E4)) (le : Le Q' H1 Q) :
    wpAny (model X.prog X.w) X.A (callWith pos u first (backTo pos (starEach (e :: es) X.env)) (backToKw pos (keywordEach kws X.env))) (EP X pins σ Q) X.xe s1 := by
  refine PySem.W.callWith_of (P := fun h => ∃ k, (k = Keeper.frame ∨ k = Keeper.machine ∨ k = Keeper.boundFrame) ∧ PySem.W.Looks (model X.prog X.w) h (keeperOf u) k) hpl (fun _ x => x) (evalArgs_kw2 hall ?_ hst)
  refine thn (ha.run pos pins s1 σ H1 (fun vs H2 => Tx H1 H2 ∧ ∃ ds m2, RelDs H2 ds vs ∧ Sm m2 H2 ∧ tk δ m2 fun es' m3 => Cl ds es' m3) I1 ⟨tx, δ, m1, _, rs, sm, h, fun ds m2 vs H2 q t2 r2 s2 => ⟨t2, ds, m2, r2, s2, q⟩⟩) fun us s2 ⟨vs, H2, I2, r2, t2, ds, m2, rd2, sm2, q2⟩ => ?_
  refine thn (hkw.run pos pins s2 σ H2 (fun zs H3 => Tx H2 H3 ∧ ∃ es' m3, RelDs H3 es' zs ∧ Sm m3 H3 ∧ Cl ds es' m3) I2 ⟨tx.trans t2, δ, m2, _, rs.tx t2, sm2, q2, fun es' m3 zs H3 q t3 r3 s3 => ⟨t3, es', m3, r3, s3, q⟩⟩) fun ws s3 ⟨zs, H3, I3, r3, t3, es', m3, rd3, sm3, q3⟩ => ?_
  have t13 := t2.trans t3
  refine ⟨keepD_looks (hk ds es' m3 q3) sm3 I3.hok I3.kIn (rf.tx t13) ru, ?_⟩
  rw [hks]
  exact tail_run hW hr hkj xc tk0 I3 (tx.trans t13) (rs.tx t13) sm3 (rf.tx t13) ru ((rd.tx t13).app (rd2.tx t3)) (rv.append r2) rd3 r3 (hc ds es' m3 q3) (le.tx t13)
theorem tail0 (hW : XW X gd = W) (hr : RoomG gd j X.A) (hkj : k ≤ j) (xc : XC X cs) (tk0 : TK T0 X Wx) (hkw : DKw T0 X kws tk)
    (hall : (backToKw pos (keywordEach kws X.env)).all (·.1.isSome) = true) (hks : (backToKw pos (keywordEach kws X.env)).filterMap (·.1) = ks)
    (hpl : ((backTo pos (starEach [] X.env)).any (·.1) || (backToKw pos (keywordEach kws X.env)).any (·.1.isNone)) = false)
    (I1 : Inv X pins σ H1 s1) (tx : Tx T0 H1) (rs : RelSt H1 δ σ) (sm : Sm m1 H1) (rf : RelD H1 f v) (ru : L2.RelV v u) (rd : RelDs H1 fds fvs) (rv : Vals fvs first)
    (h : tk δ m1 fun es' m3 => Cl [] es' m3) (hk : ∀ ds es' m3, Cl ds es' m3 → KeepD X.K m3 f) (hc : ∀ ds es' m3, Cl ds es' m3 → expX cs δ m3 Q' Wx (fun m4 Q4 E4 => DAct W k f (fds ++ ds) ks es' m4 Q4 E4)) (le : Le Q' H1 Q) :
    wpAny (model X.prog X.w) X.A (callWith pos u first (backTo pos (starEach [] X.env)) (backToKw pos (keywordEach kws X.env))) (EP X pins σ Q) X.xe s1 := by
  refine PySem.W.callWith_of (P := fun h => ∃ k, (k = Keeper.frame ∨ k = Keeper.machine ∨ k = Keeper.boundFrame) ∧ PySem.W.Looks (model X.prog X.w) h (keeperOf u) k) hpl (fun _ x => x) (evalArgs_kw2_nil hall ?_)
  refine thn (hkw.run pos pins s1 σ H1 (fun zs H3 => Tx H1 H3 ∧ ∃ es' m3, RelDs H3 es' zs ∧ Sm m3 H3 ∧ Cl [] es' m3) I1 ⟨tx, δ, m1, _, rs, sm, h, fun es' m3 zs H3 q t3 r3 s3 => ⟨t3, es', m3, r3, s3, q⟩⟩) fun ws s3 ⟨zs, H3, I3, r3, t3, es', m3, rd3, sm3, q3⟩ => ?_
  refine ⟨keepD_looks (hk [] es' m3 q3) sm3 I3.hok I3.kIn (rf.tx t3) ru, ?_⟩
  rw [hks]
  exact tail_run (us := []) (vs := []) (ds := []) hW hr hkj xc tk0 I3 (tx.trans t3) (rs.tx t3) sm3 (rf.tx t3) ru ((rd.tx t3).app .nil) (rv.append .nil) rd3 r3 (hc [] es' m3 q3) (le.tx t3)
end
end G
namespace G
open PySem PySem.Spec PyProof.Rows L2 NdefX LamX
/-! ### contracts -/
/-- a def or a class by its name, called with n values and the keywords ks -/
structure DF (W : Wo) (k : Nat) (x : Str) (n : Nat) (ks : List Str) (gD : List D → List D → List D) (sp : DSp) : Prop where
  ex : ∃ g, W.mg x = some (.ref g) ∧ PySem.W.keepIn W.K (.ref g) = true ∧ ∀ ds es m Q E, ds.length = n → es.length = ks.length → sp (gD ds es) m Q E → DAct W k (.ref g) ds ks es m Q E
/-- a method of the classes isC -/
structure DM (W : Wo) (k : Nat) (isC : Addr → Prop) (x : Str) (n : Nat) (ks : List Str) (gD : List D → List D → List D) (sp : Addr → DSp) : Prop where
  ex : ∀ C, isC C → Cls W.K C ∧ ∃ g, Meth W.K C x g ∧ ∀ ds es m Q E, ds.length = n + 1 → es.length = ks.length → sp C (gD ds es) m Q E → DAct W k (.ref g) ds ks es m Q E
/-- C.m, the def itself -/
structure DC (W : Wo) (k : Nat) (x y : Str) (n : Nat) (ks : List Str) (gD : List D → List D → List D) (sp : DSp) : Prop where
  ex : ∃ C g mc, W.mg x = some (.ref C) ∧ PySem.W.readsIn W.K C mc = true ∧ PySem.W.specialIn W.K (.ref C) "__getattribute__" = some (some (.builtin "type.__getattribute__")) ∧ PySem.W.findCls W.K (.ref C) mc y = some (.val (.ref g)) ∧ PySem.W.keepIn W.K (.ref g) = true ∧
    ∀ ds es m Q E, ds.length = n → es.length = ks.length → sp (gD ds es) m Q E → DAct W k (.ref g) ds ks es m Q E
def mkSp (C : Addr) (sp : DSp) : DSp := fun ds m Q E => ∀ x dx, m x = none → x ≠ dx → sp (.ref x :: ds) (put m x (.ins C dx [])) (fun d m2 => d = .non ∧ Q (.ref x) m2) E
section
variable {P : Program} {w : World} {K : PySem.W.Frag} {mg : Str → Option Value} {base : Heap} {gd : Bool} {k n : Nat} {f C : Addr} {fd : FuncData} {ps ks : List Str} {sp : DSp} {gD gI : List D → List D → List D} {x y : Str}
theorem DF.of (F : FnG P w K mg base gd k f fd ps (upSp sp)) (B : BindD K fd ps n ks gD) (hm : mg x = some (.ref f)) (hk : PySem.W.keepIn K (.ref f) = true) : DF ⟨P, w, K, mg, base, gd⟩ k x n ks gD sp := ⟨f, hm, hk, fun ds es m Q E h1 h2 h => F.dact B h1 h2 h⟩
theorem DF.make (F : FnG P w K mg base gd k f fd ps (upSp sp)) (B : BindD K fd ps (n + 1) ks gI) (hm : mg x = some (.ref C)) (hk : Mk K C f) (hg : ∀ x ds es, gI (x :: ds) es = x :: gD ds es) : DF ⟨P, w, K, mg, base, gd⟩ (k + 1) x n ks gD (mkSp C sp) :=
  ⟨C, hm, hk.kp, fun ds es m Q E h1 h2 h => dact_make hk F B h1 h2 fun x dx nx ne => by rw [hg]; exact h x dx nx ne⟩
theorem DM.one {sp : Addr → DSp} (F : FnG P w K mg base gd k f fd ps (upSp (sp C))) (B : BindD K fd ps (n + 1) ks gD) (hc : Cls K C) (hk : Meth K C x f) : DM ⟨P, w, K, mg, base, gd⟩ k (fun c => c = C) x n ks gD sp := ⟨fun c e => by subst e; exact ⟨hc, f, hk, fun ds es m Q E h1 h2 h => F.dact B h1 h2 h⟩⟩
theorem DM.or {W : Wo} {isC isC' : Addr → Prop} {j : Nat} {sp : Addr → DSp} (a : DM W k isC x n ks gD sp) (b : DM W j isC' x n ks gD sp) : DM W (max k j) (fun c => isC c ∨ isC' c) x n ks gD sp := ⟨fun c h => by
  rcases h with h | h
  · obtain ⟨hc, g, hm, q⟩ := a.ex c h
    exact ⟨hc, g, hm, fun ds es m Q E h1 h2 h => (q ds es m Q E h1 h2 h).lvl (Nat.le_max_left _ _)⟩
  · obtain ⟨hc, g, hm, q⟩ := b.ex c h
    exact ⟨hc, g, hm, fun ds es m Q E h1 h2 h => (q ds es m Q E h1 h2 h).lvl (Nat.le_max_right _ _)⟩⟩
theorem DC.of {mc : Value} (F : FnG P w K mg base gd k f fd ps (upSp sp)) (B : BindD K fd ps n ks gD) (hm : mg x = some (.ref C)) (h1 : PySem.W.readsIn K C mc = true) (h2 : PySem.W.specialIn K (.ref C) "__getattribute__" = some (some (.builtin "type.__getattribute__"))) (h3 : PySem.W.findCls K (.ref C) mc y = some (.val (.ref f))) (hk : PySem.W.keepIn K (.ref f) = true) : DC ⟨P, w, K, mg, base, gd⟩ k x y n ks gD sp :=
  ⟨C, f, mc, hm, h1, h2, h3, hk, fun ds es m Q E h1 h2 h => F.dact B h1 h2 h⟩
end
/-! ### transformers -/
def dCF (sp : DSp) (gD : List D → List D → List D) (n nk : Nat) (cs : List (Nat × Addr)) (Wx : DWX) (t tk : DTA) : DTE := fun δ m Q => t δ m fun ds m2 => tk δ m2 fun es m3 => ds.length = n ∧ es.length = nk ∧ expX cs δ m3 Q Wx (fun m4 Q4 E4 => sp (gD ds es) m4 Q4 E4)
def dMF (x : Str) (isC : Addr → Prop) (sp : Addr → DSp) (gD : List D → List D → List D) (n nk : Nat) (cs : List (Nat × Addr)) (Wx : DWX) (ta : DTE) (t tk : DTA) : DTE := fun δ m Q => ta δ m fun o m1 => ∃ a C dx fs, o = .ref a ∧ m1 a = some (.ins C dx fs) ∧ isC C ∧ fs.lookup x = none ∧
  t δ m1 fun ds m2 => tk δ m2 fun es m3 => ds.length = n ∧ es.length = nk ∧ expX cs δ m3 Q Wx (fun m4 Q4 E4 => sp C (gD (.ref a :: ds) es) m4 Q4 E4)
def dVF (W : Wo) (k : Nat) (ks : List Str) (cs : List (Nat × Addr)) (Wx : DWX) (tf : DTE) (t tk : DTA) : DTE := fun δ m Q => tf δ m fun f m1 => t δ m1 fun ds m2 => tk δ m2 fun es m3 => KeepD W.K m3 f ∧ expX cs δ m3 Q Wx (fun m4 Q4 E4 => DAct W k f ds ks es m4 Q4 E4)
def dFF (W : Wo) (k : Nat) (x : Str) (ks : List Str) (cs : List (Nat × Addr)) (Wx : DWX) (ta : DTE) (t tk : DTA) : DTE := fun δ m Q => ta δ m fun o m1 => ∃ a C dx fs f, o = .ref a ∧ m1 a = some (.ins C dx fs) ∧ Cls W.K C ∧ NoAttr W.K C x ∧ fs.lookup x = some f ∧
  t δ m1 fun ds m2 => tk δ m2 fun es m3 => KeepD W.K m3 f ∧ expX cs δ m3 Q Wx (fun m4 Q4 E4 => DAct W k f ds ks es m4 Q4 E4)
section
variable {T0 : Hp} {X : Cx} {gd : Bool} {W : Wo} {k j n i : Nat} {cs : List (Nat × Addr)} {Wx : DWX} {ks : List Str} {t tk : DTA} {ta : DTE} {x y : Str} {p pos apos : Pos} {e o : Expr} {es : List Expr} {kws : List Keyword} {gD : List D → List D → List D}
/-- f(e, ..), f a def or a class -/
theorem de_fn {sp : DSp} (F : DF W k x n ks gD sp) (hr : RoomG gd j X.A) (hg : Gl X x) (xc : XC X cs) (tk0 : TK T0 X Wx) (ha : DA T0 X (e :: es) t) (hkw : DKw T0 X kws tk) (hkj : k ≤ j := by decide) (hW : XW X gd = W := by rfl)
    (hall : (backToKw pos (keywordEach kws X.env)).all (·.1.isSome) = true := by rfl) (hks : (backToKw pos (keywordEach kws X.env)).filterMap (·.1) = ks := by rfl)
    (hst : starEach (e :: es) X.env = (false, eval e X.env) :: starEach es X.env := by rfl)
    (hpl : ((backTo pos (starEach (e :: es) X.env)).any (·.1) || (backToKw pos (keywordEach kws X.env)).any (·.1.isNone)) = false := by rfl) (hdb : (x == ("__debug__" : Str)) = false := by decide) :
    DE T0 X (.Call (.Name x p) (e :: es) kws pos) (dCF sp gD n ks.length cs Wx t tk) := by
  obtain ⟨g, hm, hk, hF⟩ := F.ex
  refine ⟨fun pins s σ H Q I ⟨tx, δ, m, Q', rs, sm, h, le⟩ => wpAny_Call_Name_kw (ld_glob I hg (by rw [← hW] at hm; exact hm) ?_ hdb)⟩
  exact tail1 (f := .ref g) (v := .ref g) (fds := []) (fvs := []) hW hr hkj xc tk0 ha hkw hall hks hst hpl I tx rs sm (rel_ref.mpr rfl) rfl .nil .nil h (fun ds es' m3 c => ⟨g, rfl, .inl (by rw [← hW] at hk; exact hk)⟩) (fun ds es' m3 ⟨l1, l2, c, d⟩ => ⟨c, fun a b => hF ds es' _ _ _ l1 l2 (d a b)⟩) le
theorem de_fn0 {sp : DSp} (F : DF W k x n ks gD sp) (hr : RoomG gd j X.A) (hg : Gl X x) (xc : XC X cs) (tk0 : TK T0 X Wx) (hkw : DKw T0 X kws tk) (hkj : k ≤ j := by decide) (hW : XW X gd = W := by rfl)
    (hall : (backToKw pos (keywordEach kws X.env)).all (·.1.isSome) = true := by rfl) (hks : (backToKw pos (keywordEach kws X.env)).filterMap (·.1) = ks := by rfl)
    (hpl : ((backTo pos (starEach [] X.env)).any (·.1) || (backToKw pos (keywordEach kws X.env)).any (·.1.isNone)) = false := by rfl) (hdb : (x == ("__debug__" : Str)) = false := by decide) :
    DE T0 X (.Call (.Name x p) [] kws pos) (dCF sp gD n ks.length cs Wx dNil tk) := by
  obtain ⟨g, hm, hk, hF⟩ := F.ex
  refine ⟨fun pins s σ H Q I ⟨tx, δ, m, Q', rs, sm, h, le⟩ => wpAny_Call_Name_kw (ld_glob I hg (by rw [← hW] at hm; exact hm) ?_ hdb)⟩
  exact tail0 (f := .ref g) (v := .ref g) (fds := []) (fvs := []) (Cl := fun ds es' m3 => ds.length = n ∧ es'.length = ks.length ∧ expX cs δ m3 Q' Wx (fun m4 Q4 E4 => sp (gD ds es') m4 Q4 E4)) hW hr hkj xc tk0 hkw hall hks hpl I tx rs sm (rel_ref.mpr rfl) rfl .nil .nil h (fun ds es' m3 c => ⟨g, rfl, .inl (by rw [← hW] at hk; exact hk)⟩) (fun ds es' m3 ⟨l1, l2, c, d⟩ => ⟨c, fun a b => hF ds es' _ _ _ l1 l2 (d a b)⟩) le
/-- f(e, ..), f a local name -/
theorem de_loc (hr : RoomG gd j X.A) (hN : X.N[i]? = some x) (hv : Vis X.env.scope x) (xc : XC X cs) (tk0 : TK T0 X Wx) (ha : DA T0 X (e :: es) t) (hkw : DKw T0 X kws tk) (k : Nat) (hkj : k ≤ j := by decide) (hW : XW X gd = W := by rfl)
    (hall : (backToKw pos (keywordEach kws X.env)).all (·.1.isSome) = true := by rfl) (hks : (backToKw pos (keywordEach kws X.env)).filterMap (·.1) = ks := by rfl)
    (hst : starEach (e :: es) X.env = (false, eval e X.env) :: starEach es X.env := by rfl)
    (hpl : ((backTo pos (starEach (e :: es) X.env)).any (·.1) || (backToKw pos (keywordEach kws X.env)).any (·.1.isNone)) = false := by rfl) (hdb : (x == ("__debug__" : Str)) = false := by decide) (hcd : (x == ("__classdict__" : Str)) = false := by decide) :
    DE T0 X (.Call (.Name x p) (e :: es) kws pos) (dVF W k ks cs Wx (dVar i) t tk) := by
  refine ⟨fun pins s σ H Q I ⟨tx, δ, m, Q', rs, sm, ⟨f, ef, h⟩, le⟩ => wpAny_Call_Name_kw ?_⟩
  obtain ⟨v, ev, rv⟩ := rs.get ef
  refine thn ((pe_var (pos := p) hN hv hdb hcd).run pins s σ H (fun v' H1 => v' = v ∧ H1 = H) I ⟨v, ev, rfl, rfl⟩) fun u s1 ⟨v', H1, I1, r1, q1⟩ => ?_
  obtain ⟨rfl, rfl⟩ := q1
  exact tail1 (f := f) (v := v') (fds := []) (fvs := []) (Cl := fun ds es' m3 => KeepD W.K m3 f ∧ expX cs δ m3 Q' Wx (fun m4 Q4 E4 => DAct W k f ds ks es' m4 Q4 E4)) hW hr hkj xc tk0 ha hkw hall hks hst hpl I1 tx rs sm rv r1 .nil .nil h (fun ds es' m3 c => by have := c.1; rw [← hW] at this; exact this) (fun ds es' m3 c => c.2) le
theorem de_loc0 (hr : RoomG gd j X.A) (hN : X.N[i]? = some x) (hv : Vis X.env.scope x) (xc : XC X cs) (tk0 : TK T0 X Wx) (hkw : DKw T0 X kws tk) (k : Nat) (hkj : k ≤ j := by decide) (hW : XW X gd = W := by rfl)
    (hall : (backToKw pos (keywordEach kws X.env)).all (·.1.isSome) = true := by rfl) (hks : (backToKw pos (keywordEach kws X.env)).filterMap (·.1) = ks := by rfl)
    (hpl : ((backTo pos (starEach [] X.env)).any (·.1) || (backToKw pos (keywordEach kws X.env)).any (·.1.isNone)) = false := by rfl) (hdb : (x == ("__debug__" : Str)) = false := by decide) (hcd : (x == ("__classdict__" : Str)) = false := by decide) :
    DE T0 X (.Call (.Name x p) [] kws pos) (dVF W k ks cs Wx (dVar i) dNil tk) := by
  refine ⟨fun pins s σ H Q I ⟨tx, δ, m, Q', rs, sm, ⟨f, ef, h⟩, le⟩ => wpAny_Call_Name_kw ?_⟩
  obtain ⟨v, ev, rv⟩ := rs.get ef
  refine thn ((pe_var (pos := p) hN hv hdb hcd).run pins s σ H (fun v' H1 => v' = v ∧ H1 = H) I ⟨v, ev, rfl, rfl⟩) fun u s1 ⟨v', H1, I1, r1, q1⟩ => ?_
  obtain ⟨rfl, rfl⟩ := q1
  exact tail0 (f := f) (v := v') (fds := []) (fvs := []) (Cl := fun ds es' m3 => KeepD W.K m3 f ∧ expX cs δ m3 Q' Wx (fun m4 Q4 E4 => DAct W k f ds ks es' m4 Q4 E4)) hW hr hkj xc tk0 hkw hall hks hpl I1 tx rs sm rv r1 .nil .nil h (fun ds es' m3 c => by have := c.1; rw [← hW] at this; exact this) (fun ds es' m3 c => c.2) le
/-- o.m(e, ..), m a method -/
theorem de_mth {isC : Addr → Prop} {sp : Addr → DSp} {pl : Sem Bool} (F : DM W k isC x n ks gD sp) (ho : DE T0 X o ta) (hr : RoomG gd j X.A) (xc : XC X cs) (tk0 : TK T0 X Wx) (ha : DA T0 X (e :: es) t) (hkw : DKw T0 X kws tk) (hkj : k ≤ j := by decide) (hW : XW X gd = W := by rfl)
    (hall : (backToKw pos (keywordEach kws X.env)).all (·.1.isSome) = true := by rfl) (hks : (backToKw pos (keywordEach kws X.env)).filterMap (·.1) = ks := by rfl)
    (hst : starEach (e :: es) X.env = (false, eval e X.env) :: starEach es X.env := by rfl)
    (hpl : ((backTo pos (starEach (e :: es) X.env)).any (·.1) || (backToKw pos (keywordEach kws X.env)).any (·.1.isNone)) = false := by rfl)
    (ht : eval (.Call (.Attribute o x apos) (e :: es) kws pos) X.env = (do
      let ov ← eval o X.env
      standAt apos.atName
      let (f, first) ← holding [ov] (getMethod ov x pl)
      callWith pos f first (backTo pos (starEach (e :: es) X.env)) (backToKw pos (keywordEach kws X.env))) := by rfl) :
    DE T0 X (.Call (.Attribute o x apos) (e :: es) kws pos) (dMF x isC sp gD n ks.length cs Wx ta t tk) := by
  refine ⟨fun pins s σ H Q I ⟨tx, δ, m, Q', rs, sm, h, le⟩ => ?_⟩
  refine PySem.W.methodCall_KW (pl := pl) (thn (ho.run pins s σ H (fun v H1 => Tx H H1 ∧ ∃ d m1, RelD H1 d v ∧ Sm m1 H1 ∧ ∃ a C dx fs, d = .ref a ∧ m1 a = some (.ins C dx fs) ∧ isC C ∧ fs.lookup x = none ∧
    t δ m1 fun ds m2 => tk δ m2 fun es m3 => ds.length = n ∧ es.length = ks.length ∧ expX cs δ m3 Q' Wx (fun m4 Q4 E4 => sp C (gD (.ref a :: ds) es) m4 Q4 E4)) I ⟨tx, δ, m, _, rs, sm, h, fun d m1 v H1 q t1 r1 s1 => ⟨t1, d, m1, r1, s1, q⟩⟩) fun u s1 ⟨v, H1, I1, rx, t1, d, m1, r1, sm1, a, C, dx, fs, ed, ea, hC, l, q⟩ => ?_) ht
  subst ed
  cases rel_ref.mp r1
  obtain rfl : u = Value.ref a := rx
  obtain ⟨ws, e1, pk⟩ := sm1 a _ ea
  obtain ⟨hc, g, hm, hF⟩ := F.ex C hC
  refine getmeth_ok I1 e1 (by rw [← hW] at hc; exact hc) (by rw [← hW] at hm; exact hm) ((pk.lookup _).2 l) ?_
  exact tail1 (f := .ref g) (v := .ref g) (fds := [.ref a]) (fvs := [.ref a]) (Cl := fun ds es' m3 => ds.length = n ∧ es'.length = ks.length ∧ expX cs δ m3 Q' Wx (fun m4 Q4 E4 => sp C (gD (.ref a :: ds) es') m4 Q4 E4)) hW hr hkj xc tk0 ha hkw hall hks hst hpl I1 (tx.trans t1) (rs.tx t1) sm1 (rel_ref.mpr rfl) rfl (.cons (rel_ref.mpr rfl) .nil) (.cons rfl .nil) q (fun ds es' m3 c => ⟨g, rfl, .inl (by have := hm.kp; rw [← hW] at this; exact this)⟩) (fun ds es' m3 ⟨l1, l2, c, d⟩ => ⟨c, fun x y => hF _ es' _ _ _ (congrArg Nat.succ l1) l2 (d x y)⟩) (le.tx t1)
theorem de_mth0 {isC : Addr → Prop} {sp : Addr → DSp} {pl : Sem Bool} (F : DM W k isC x n ks gD sp) (ho : DE T0 X o ta) (hr : RoomG gd j X.A) (xc : XC X cs) (tk0 : TK T0 X Wx) (hkw : DKw T0 X kws tk) (hkj : k ≤ j := by decide) (hW : XW X gd = W := by rfl)
    (hall : (backToKw pos (keywordEach kws X.env)).all (·.1.isSome) = true := by rfl) (hks : (backToKw pos (keywordEach kws X.env)).filterMap (·.1) = ks := by rfl)
    (hpl : ((backTo pos (starEach [] X.env)).any (·.1) || (backToKw pos (keywordEach kws X.env)).any (·.1.isNone)) = false := by rfl)
    (ht : eval (.Call (.Attribute o x apos) [] kws pos) X.env = (do
      let ov ← eval o X.env
      standAt apos.atName
      let (f, first) ← holding [ov] (getMethod ov x pl)
      callWith pos f first (backTo pos (starEach [] X.env)) (backToKw pos (keywordEach kws X.env))) := by rfl) :
    DE T0 X (.Call (.Attribute o x apos) [] kws pos) (dMF x isC sp gD n ks.length cs Wx ta dNil tk) := by
  refine ⟨fun pins s σ H Q I ⟨tx, δ, m, Q', rs, sm, h, le⟩ => ?_⟩
  refine PySem.W.methodCall_KW (pl := pl) (thn (ho.run pins s σ H (fun v H1 => Tx H H1 ∧ ∃ d m1, RelD H1 d v ∧ Sm m1 H1 ∧ ∃ a C dx fs, d = .ref a ∧ m1 a = some (.ins C dx fs) ∧ isC C ∧ fs.lookup x = none ∧
    dNil δ m1 fun ds m2 => tk δ m2 fun es m3 => ds.length = n ∧ es.length = ks.length ∧ expX cs δ m3 Q' Wx (fun m4 Q4 E4 => sp C (gD (.ref a :: ds) es) m4 Q4 E4)) I ⟨tx, δ, m, _, rs, sm, h, fun d m1 v H1 q t1 r1 s1 => ⟨t1, d, m1, r1, s1, q⟩⟩) fun u s1 ⟨v, H1, I1, rx, t1, d, m1, r1, sm1, a, C, dx, fs, ed, ea, hC, l, q⟩ => ?_) ht
  subst ed
  cases rel_ref.mp r1
  obtain rfl : u = Value.ref a := rx
  obtain ⟨ws, e1, pk⟩ := sm1 a _ ea
  obtain ⟨hc, g, hm, hF⟩ := F.ex C hC
  refine getmeth_ok I1 e1 (by rw [← hW] at hc; exact hc) (by rw [← hW] at hm; exact hm) ((pk.lookup _).2 l) ?_
  exact tail0 (f := .ref g) (v := .ref g) (fds := [.ref a]) (fvs := [.ref a]) (Cl := fun ds es' m3 => ds.length = n ∧ es'.length = ks.length ∧ expX cs δ m3 Q' Wx (fun m4 Q4 E4 => sp C (gD (.ref a :: ds) es') m4 Q4 E4)) hW hr hkj xc tk0 hkw hall hks hpl I1 (tx.trans t1) (rs.tx t1) sm1 (rel_ref.mpr rfl) rfl (.cons (rel_ref.mpr rfl) .nil) (.cons rfl .nil) q (fun ds es' m3 c => ⟨g, rfl, .inl (by have := hm.kp; rw [← hW] at this; exact this)⟩) (fun ds es' m3 ⟨l1, l2, c, d⟩ => ⟨c, fun x y => hF _ es' _ _ _ (congrArg Nat.succ l1) l2 (d x y)⟩) (le.tx t1)
theorem getfld_ok {X : Cx} {pins : List (Addr × Obj)} {σ : L2.St} {H : Hp} {s : Shared} {a C dx : Addr} {fs : List (Str × V)} {f : Str} {v : V} {A : Around} {E : Value → Shared → Prop} {pl : Sem Bool} {Q : Value × List Value → Shared → Prop} (I : Inv X pins σ H s) (e : H a = some (.ins C dx fs)) (c : Cls X.K C) (n : NoAttr X.K C f) (l : fs.lookup f = some v)
    (h : ∀ u s', Inv X pins σ H s' → L2.RelV v u → Q (u, []) s') : wpAny (model X.prog X.w) A (getMethod (.ref a) f pl) Q E s := by
  obtain ⟨mA, O, r, _, _, _⟩ := ins_get I.hok e
  obtain ⟨od, J, hl⟩ := O.look
  exact PySem.W.method_usual (r := none) I.kIn J (PySem.W.plainGet_of (c.get f)).1 (PySem.W.plainGet_of (c.get f)).2 n rfl (getattr_ok I e c n l fun u s' I' ru => h u s' I' ru)
/-- o.f(e, ..), f an attribute of the instance -/
theorem de_att {pl : Sem Bool} (ho : DE T0 X o ta) (hr : RoomG gd j X.A) (xc : XC X cs) (tk0 : TK T0 X Wx) (ha : DA T0 X (e :: es) t) (hkw : DKw T0 X kws tk) (k : Nat) (hkj : k ≤ j := by decide) (hW : XW X gd = W := by rfl)
    (hall : (backToKw pos (keywordEach kws X.env)).all (·.1.isSome) = true := by rfl) (hks : (backToKw pos (keywordEach kws X.env)).filterMap (·.1) = ks := by rfl)
    (hst : starEach (e :: es) X.env = (false, eval e X.env) :: starEach es X.env := by rfl)
    (hpl : ((backTo pos (starEach (e :: es) X.env)).any (·.1) || (backToKw pos (keywordEach kws X.env)).any (·.1.isNone)) = false := by rfl)
    (ht : eval (.Call (.Attribute o x apos) (e :: es) kws pos) X.env = (do
      let ov ← eval o X.env
      standAt apos.atName
      let (f, first) ← holding [ov] (getMethod ov x pl)
      callWith pos f first (backTo pos (starEach (e :: es) X.env)) (backToKw pos (keywordEach kws X.env))) := by rfl) :
    DE T0 X (.Call (.Attribute o x apos) (e :: es) kws pos) (dFF W k x ks cs Wx ta t tk) := by
  refine ⟨fun pins s σ H Q I ⟨tx, δ, m, Q', rs, sm, h, le⟩ => ?_⟩
  refine PySem.W.methodCall_KW (pl := pl) (thn (ho.run pins s σ H (fun v H1 => Tx H H1 ∧ ∃ d m1, RelD H1 d v ∧ Sm m1 H1 ∧ ∃ a C dx fs f, d = .ref a ∧ m1 a = some (.ins C dx fs) ∧ Cls W.K C ∧ NoAttr W.K C x ∧ fs.lookup x = some f ∧
    t δ m1 fun ds m2 => tk δ m2 fun es m3 => KeepD W.K m3 f ∧ expX cs δ m3 Q' Wx (fun m4 Q4 E4 => DAct W k f ds ks es m4 Q4 E4)) I ⟨tx, δ, m, _, rs, sm, h, fun d m1 v H1 q t1 r1 s1 => ⟨t1, d, m1, r1, s1, q⟩⟩) fun u s1 ⟨v, H1, I1, rx, t1, d, m1, r1, sm1, a, C, dx, fs, f, ed, ea, hC, hn, l, q⟩ => ?_) ht
  subst ed
  cases rel_ref.mp r1
  obtain rfl : u = Value.ref a := rx
  obtain ⟨ws, e1, pk⟩ := sm1 a _ ea
  obtain ⟨v, ev, rv⟩ := (pk.lookup _).1 _ l
  refine getfld_ok I1 e1 (by rw [← hW] at hC; exact hC) (by rw [← hW] at hn; exact hn) ev fun u s2 I2 ru => ?_
  exact tail1 (f := f) (v := v) (fds := []) (fvs := []) (Cl := fun ds es' m3 => KeepD W.K m3 f ∧ expX cs δ m3 Q' Wx (fun m4 Q4 E4 => DAct W k f ds ks es' m4 Q4 E4)) hW hr hkj xc tk0 ha hkw hall hks hst hpl I2 (tx.trans t1) (rs.tx t1) sm1 rv ru .nil .nil q (fun ds es' m3 c => by have := c.1; rw [← hW] at this; exact this) (fun ds es' m3 c => c.2) (le.tx t1)
theorem de_att0 {pl : Sem Bool} (ho : DE T0 X o ta) (hr : RoomG gd j X.A) (xc : XC X cs) (tk0 : TK T0 X Wx) (hkw : DKw T0 X kws tk) (k : Nat) (hkj : k ≤ j := by decide) (hW : XW X gd = W := by rfl)
    (hall : (backToKw pos (keywordEach kws X.env)).all (·.1.isSome) = true := by rfl) (hks : (backToKw pos (keywordEach kws X.env)).filterMap (·.1) = ks := by rfl)
    (hpl : ((backTo pos (starEach [] X.env)).any (·.1) || (backToKw pos (keywordEach kws X.env)).any (·.1.isNone)) = false := by rfl)
    (ht : eval (.Call (.Attribute o x apos) [] kws pos) X.env = (do
      let ov ← eval o X.env
      standAt apos.atName
      let (f, first) ← holding [ov] (getMethod ov x pl)
      callWith pos f first (backTo pos (starEach [] X.env)) (backToKw pos (keywordEach kws X.env))) := by rfl) :
    DE T0 X (.Call (.Attribute o x apos) [] kws pos) (dFF W k x ks cs Wx ta dNil tk) := by
  refine ⟨fun pins s σ H Q I ⟨tx, δ, m, Q', rs, sm, h, le⟩ => ?_⟩
  refine PySem.W.methodCall_KW (pl := pl) (thn (ho.run pins s σ H (fun v H1 => Tx H H1 ∧ ∃ d m1, RelD H1 d v ∧ Sm m1 H1 ∧ ∃ a C dx fs f, d = .ref a ∧ m1 a = some (.ins C dx fs) ∧ Cls W.K C ∧ NoAttr W.K C x ∧ fs.lookup x = some f ∧
    dNil δ m1 fun ds m2 => tk δ m2 fun es m3 => KeepD W.K m3 f ∧ expX cs δ m3 Q' Wx (fun m4 Q4 E4 => DAct W k f ds ks es m4 Q4 E4)) I ⟨tx, δ, m, _, rs, sm, h, fun d m1 v H1 q t1 r1 s1 => ⟨t1, d, m1, r1, s1, q⟩⟩) fun u s1 ⟨v, H1, I1, rx, t1, d, m1, r1, sm1, a, C, dx, fs, f, ed, ea, hC, hn, l, q⟩ => ?_) ht
  subst ed
  cases rel_ref.mp r1
  obtain rfl : u = Value.ref a := rx
  obtain ⟨ws, e1, pk⟩ := sm1 a _ ea
  obtain ⟨v, ev, rv⟩ := (pk.lookup _).1 _ l
  refine getfld_ok I1 e1 (by rw [← hW] at hC; exact hC) (by rw [← hW] at hn; exact hn) ev fun u s2 I2 ru => ?_
  exact tail0 (f := f) (v := v) (fds := []) (fvs := []) (Cl := fun ds es' m3 => KeepD W.K m3 f ∧ expX cs δ m3 Q' Wx (fun m4 Q4 E4 => DAct W k f ds ks es' m4 Q4 E4)) hW hr hkj xc tk0 hkw hall hks hpl I2 (tx.trans t1) (rs.tx t1) sm1 rv ru .nil .nil q (fun ds es' m3 c => by have := c.1; rw [← hW] at this; exact this) (fun ds es' m3 c => c.2) (le.tx t1)
/-- C.m(e, ..), the def itself -/
theorem de_cls {sp : DSp} {pl : Sem Bool} (F : DC W k y x n ks gD sp) (hr : RoomG gd j X.A) (hg : Gl X y) (xc : XC X cs) (tk0 : TK T0 X Wx) (ha : DA T0 X (e :: es) t) (hkw : DKw T0 X kws tk) (hkj : k ≤ j := by decide) (hW : XW X gd = W := by rfl)
    (hall : (backToKw pos (keywordEach kws X.env)).all (·.1.isSome) = true := by rfl) (hks : (backToKw pos (keywordEach kws X.env)).filterMap (·.1) = ks := by rfl)
    (hst : starEach (e :: es) X.env = (false, eval e X.env) :: starEach es X.env := by rfl)
    (hpl : ((backTo pos (starEach (e :: es) X.env)).any (·.1) || (backToKw pos (keywordEach kws X.env)).any (·.1.isNone)) = false := by rfl) (hdb : (y == ("__debug__" : Str)) = false := by decide)
    (ht : eval (.Call (.Attribute (.Name y p) x apos) (e :: es) kws pos) X.env = (do
      let ov ← eval (.Name y p) X.env
      standAt apos.atName
      let (f, first) ← holding [ov] (getMethod ov x pl)
      callWith pos f first (backTo pos (starEach (e :: es) X.env)) (backToKw pos (keywordEach kws X.env))) := by rfl) :
    DE T0 X (.Call (.Attribute (.Name y p) x apos) (e :: es) kws pos) (dCF sp gD n ks.length cs Wx t tk) := by
  obtain ⟨C, g, mc, hm, h1, h2, h3, hk, hF⟩ := F.ex
  subst hW
  refine ⟨fun pins s σ H Q I ⟨tx, δ, m, Q', rs, sm, h, le⟩ => ?_⟩
  refine PySem.W.methodCall_KW (pl := pl) (thn ((pe_glob hg hm (v := .ref C) rfl hdb).run pins s σ H (fun v H1 => v = .ref C ∧ H1 = H) I ⟨rfl, rfl⟩) fun u s1 ⟨v, H1, I1, r1, q1⟩ => ?_) ht
  obtain ⟨rfl, rfl⟩ := q1
  obtain rfl : u = Value.ref C := r1
  refine PySem.W.method_cls I1.kIn h2 (PySem.W.cls_value I1.kIn h1 h3 rfl ?_)
  exact tail1 (f := .ref g) (v := .ref g) (fds := []) (fvs := []) (Cl := fun ds es' m3 => ds.length = n ∧ es'.length = ks.length ∧ expX cs δ m3 Q' Wx (fun m4 Q4 E4 => sp (gD ds es') m4 Q4 E4)) rfl hr hkj xc tk0 ha hkw hall hks hst hpl (I1.tok _) tx rs sm (rel_ref.mpr rfl) rfl .nil .nil h (fun ds es' m3 c => ⟨g, rfl, .inl hk⟩) (fun ds es' m3 ⟨l1, l2, c, d⟩ => ⟨c, fun a b => hF ds es' _ _ _ l1 l2 (d a b)⟩) le
end
end G
namespace G
open PySem PySem.Spec PyProof.Rows L2 NdefX LamX
/-! ### captured cells -/
def showC : List Addr → List D → M → M
  | c :: cs, d :: ds, m => put (showC cs ds m) c (.cel d)
  | _, _, m => m
def hideC : List Addr → M → M
  | [], m => m
  | c :: cs, m => del (hideC cs m) c
theorem hideC_get {m : M} {b : Addr} : ∀ {cs : List Addr}, hideC cs m b = if b ∈ cs then none else m b
  | [] => by simp [hideC]
  | c :: cs => by
    unfold hideC del
    rw [hideC_get (cs := cs)]
    by_cases h : b = c
    · simp [h]
    · simp only [if_neg h, List.mem_cons, h, false_or, if_false]
theorem showC_cases {m : M} {b : Addr} {o : O} : ∀ {cs : List Addr} {ds : List D}, ds.length = cs.length → showC cs ds m b = some o → (∃ (i : Nat) (d : D), cs[i]? = some b ∧ ds[i]? = some d ∧ o = .cel d) ∨ (b ∉ cs ∧ m b = some o)
  | [], [], _, e => .inr ⟨by simp, e⟩
  | c :: cs, d :: ds, hl, e => by
    have e : put (showC cs ds m) c (.cel d) b = some o := e
    by_cases hb : b = c
    · subst hb
      rw [put_same] at e
      cases e
      exact .inl ⟨0, d, rfl, rfl, rfl⟩
    · rw [put_ne hb] at e
      rcases showC_cases (by simpa using hl) e with ⟨i, x, h1, h2, h3⟩ | ⟨h1, h2⟩
      · exact .inl ⟨i + 1, x, by simpa using h1, by simpa using h2, h3⟩
      · refine .inr ⟨?_, h2⟩
        rw [List.mem_cons]
        exact fun z => z.elim hb h1
/-- cl captures the names fr, in the cells ca -/
structure Clo (cl : List (Str × Addr)) (fr : List Str) (ca : List Addr) : Prop where
  len : ca.length = fr.length
  has : ∀ (i : Nat) (y : Str), fr[i]? = some y → ∃ c, cl.lookup y = some c ∧ ca[i]? = some c
  all : ∀ y c, cl.lookup y = some c → y ∈ fr
  nd : ca.Nodup
theorem Clo.mem {cl : List (Str × Addr)} {fr : List Str} {ca : List Addr} (C : Clo cl fr ca) {c : Addr} : c ∈ capt cl ↔ c ∈ ca := by
  rw [mem_capt]
  constructor
  · rintro ⟨y, e⟩
    obtain ⟨i, hi, ei⟩ := List.getElem_of_mem (C.all y c e)
    obtain ⟨c', e1, e2⟩ := C.has i y (by rw [List.getElem?_eq_getElem hi, ei])
    rw [e] at e1
    cases e1
    exact List.mem_of_getElem? e2
  · intro h
    obtain ⟨i, hi, ei⟩ := List.getElem_of_mem h
    have hi' : i < fr.length := by rw [← C.len]; exact hi
    obtain ⟨c', e1, e2⟩ := C.has i fr[i] (List.getElem?_eq_getElem hi')
    rw [List.getElem?_eq_getElem hi, ei] at e2
    cases e2
    exact ⟨_, e1⟩
theorem Clo.inj {cl : List (Str × Addr)} {fr : List Str} {ca : List Addr} (C : Clo cl fr ca) : ∀ x y c, cl.lookup x = some c → cl.lookup y = some c → x = y := fun x y c hx hy => by
  obtain ⟨i, hi, ei⟩ := List.getElem_of_mem (C.all x c hx)
  obtain ⟨j, hj, ej⟩ := List.getElem_of_mem (C.all y c hy)
  obtain ⟨c1, a1, a2⟩ := C.has i x (by rw [List.getElem?_eq_getElem hi, ei])
  obtain ⟨c2, b1, b2⟩ := C.has j y (by rw [List.getElem?_eq_getElem hj, ej])
  rw [hx] at a1; cases a1
  rw [hy] at b1; cases b1
  have hi' : i < ca.length := by rw [C.len]; exact hi
  have : i = j := (List.getElem?_inj hi' C.nd).mp (a2.trans b2.symm)
  subst this
  exact ei.symm.trans ej
/-- the cells ca hold ws -/
def Holds (m : M) : List Addr → List D → Prop
  | [], [] => True
  | c :: cs, d :: ds => m c = some (.cel d) ∧ Holds m cs ds
  | _, _ => False
theorem Holds.len {m : M} : ∀ {cs : List Addr} {ds : List D}, Holds m cs ds → ds.length = cs.length
  | [], [], _ => rfl
  | c :: cs, d :: ds, ⟨_, h⟩ => by simp [Holds.len h]
theorem Holds.get {m : M} : ∀ {cs : List Addr} {ds : List D} {i : Nat} {c : Addr}, Holds m cs ds → cs[i]? = some c → ∃ d, ds[i]? = some d ∧ m c = some (.cel d)
  | c :: cs, d :: ds, 0, c', ⟨h, _⟩, e => by cases e; exact ⟨d, rfl, h⟩
  | c :: cs, d :: ds, i + 1, c', ⟨_, h⟩, e => Holds.get (i := i) h (by simpa using e)
theorem Holds.vals {m : M} {H : Hp} (sm : Sm m H) : ∀ {cs : List Addr} {ds : List D}, Holds m cs ds → ∃ vs, RelDs H ds vs ∧ ∀ (i : Nat) (c : Addr), cs[i]? = some c → ∃ v, vs[i]? = some v ∧ CellAt H c v
  | [], [], _ => ⟨[], .nil, fun i c e => by simp at e⟩
  | c :: cs, d :: ds, ⟨h, hr⟩ => by
    obtain ⟨vs, r, q⟩ := Holds.vals sm hr
    obtain ⟨v, hc, rv⟩ := sm c _ h
    refine ⟨v :: vs, .cons rv r, fun i c' e => ?_⟩
    cases i with
    | zero => cases e; exact ⟨v, rfl, hc⟩
    | succ i => exact q i c' (by simpa using e)
def dstartF (N : List Str) (ds ws : List D) : DSt := ds.map some ++ (ws.map some ++ List.replicate (N.length - ds.length - ws.length) none)
theorem rel_some {H : Hp} {ds : List D} {vs : List V} (r : RelDs H ds vs) : RelSt H (ds.map some) (vs.map some) := by
  have : ∀ {ds : List D} {vs : List V}, Paired (RelD H) ds vs → Paired (RelOD H) (ds.map some) (vs.map some) := by
    intro ds vs h
    induction h with
    | nil => exact .nil
    | cons a b ih => exact .cons ⟨_, rfl, a⟩ ih
  exact this (relDs_iff.mp r)
theorem rel_startF {H : Hp} {N : List Str} {ds ws : List D} {vs us : List V} (r : RelDs H ds vs) (r2 : RelDs H ws us) : RelSt H (dstartF N ds ws) (startF N vs (us.map some)) := by
  unfold dstartF startF
  rw [r.length, List.length_map, r2.length]
  refine paired_app (rel_some r) (paired_app (rel_some r2) ?_)
  generalize N.length - vs.length - us.length = n
  induction n with
  | zero => exact .nil
  | succ n ih => exact .cons trivial ih
section
variable {m : M} {H H' : Hp} {cs : List Addr} {ca : List Addr} {ws : List D}
theorem cut_tx (x : Cld H cs) : Tx H (cut H cs) := fun a u k e => by
  rw [cut_out fun z => by
    obtain ⟨o, q⟩ := x a z
    rw [e] at q
    cases q
    rcases k with ⟨vs, z⟩ | ⟨c, q, z⟩
    · cases z
    · unfold CodeO at z; cases z]
  exact e
theorem hideC_sm (sm : Sm m H) (x : Cld H cs) (hm : ∀ c, c ∈ cs ↔ c ∈ ca) : Sm (hideC ca m) (cut H cs) := fun b o e => by
  rw [hideC_get] at e
  by_cases hb : b ∈ ca
  · rw [if_pos hb] at e; cases e
  · rw [if_neg hb] at e
    exact (sm b o e).tx (cut_tx x) (cut_out fun z => hb ((hm b).mp z))
theorem mend_tx1 (hn : ∀ c ∈ cs, H' c = none) : Tx H' (mend H' H cs) := fun a u k e => by
  rw [mend_out fun z => by rw [hn a z] at e; cases e]
  exact e
theorem mend_tx (x : Cld H cs) (t : Tx (cut H cs) H') : Tx H (mend H' H cs) := fun a u k e => by
  have ha : a ∉ cs := fun z => by
    obtain ⟨o, q⟩ := x a z
    rw [e] at q
    cases q
    rcases k with ⟨vs, z⟩ | ⟨c, q, z⟩
    · cases z
    · unfold CodeO at z; cases z
  rw [mend_out ha]
  exact t a u k (by rw [cut_out ha]; exact e)
theorem showC_sm {m2 : M} (sm : Sm m H) (s2 : Sm m2 H') (x : Cld H cs) (hm : ∀ c, c ∈ cs ↔ c ∈ ca) (t : Tx (cut H cs) H') (hn : ∀ c ∈ cs, H' c = none) (hh : Holds m ca ws) : Sm (showC ca ws m2) (mend H' H cs) := fun b o e => by
  rcases showC_cases hh.len e with ⟨i, d, h1, h2, rfl⟩ | ⟨h1, h2⟩
  · obtain ⟨d', e1, e2⟩ := hh.get h1
    rw [h2] at e1
    cases e1
    have hb : b ∈ cs := (hm b).mpr (List.mem_of_getElem? h1)
    obtain ⟨v, ⟨o, u, c1, c2⟩, rv⟩ := sm b _ e2
    exact ⟨v, ⟨o, u, by rw [mend_in hb]; exact c1, c2⟩, rv.tx (mend_tx x t)⟩
  · have hb : b ∉ cs := fun z => h1 ((hm b).mp z)
    exact (s2 b o h2).tx (mend_tx1 hn) (mend_out hb)
end
def backC (ca : List Addr) (ws : List D) (Q : DK) : DK := fun d m2 => (∀ c ∈ ca, m2 c = none) → Wk (Q d) (showC ca ws m2)
def wC (ca : List Addr) (ws : List D) (E : DXK) : DWX := fun cls d _ m2 => (∀ c ∈ ca, m2 c = none) → Wk (E cls d) (showC ca ws m2)
section
variable {W : Wo} {N ps fr : List Str} {f : Addr} {k : Nat} {m : M} {ds ws : List D} {ca : List Addr} {Q : DK} {E : DXK}
theorem Clo.cap {H : Hp} {cl : List (Str × Addr)} {wv : List V} (C : Clo cl fr ca) (hl : wv.length = ca.length) (q : ∀ (i : Nat) (c : Addr), ca[i]? = some c → ∃ v, wv[i]? = some v ∧ CellAt H c v) : Cap H cl fr wv := by
  refine ⟨hl.trans C.len, fun y c e => ?_, C.inj, fun i y e => ?_⟩
  · have hc := C.mem.mp (mem_capt.mpr ⟨y, e⟩)
    obtain ⟨i, hi, ei⟩ := List.getElem_of_mem hc
    obtain ⟨v, _, z⟩ := q i c (by rw [List.getElem?_eq_getElem hi, ei])
    exact ⟨v, z⟩
  · obtain ⟨c, e1, e2⟩ := C.has i y e
    obtain ⟨v, e3, z⟩ := q i c e2
    exact ⟨c, v, e1, e3, z⟩
/-- slots n, n + 1, .. and cells -/
def slotsC : Nat → List Addr → List (Nat × Addr)
  | _, [] => []
  | n, c :: cs => (n, c) :: slotsC (n + 1) cs
theorem slotsC_mem {p : Nat × Addr} : ∀ {n : Nat} {ca : List Addr}, p ∈ slotsC n ca → ∃ i, p.1 = n + i ∧ ca[i]? = some p.2
  | n, c :: cs, h => by
    rcases List.mem_cons.mp h with e | h
    · subst e; exact ⟨0, rfl, rfl⟩
    · obtain ⟨i, h1, h2⟩ := slotsC_mem h
      exact ⟨i + 1, by omega, by simpa using h2⟩
theorem slotsC_nd : ∀ (n : Nat) (ca : List Addr), ((slotsC n ca).map (·.1)).Nodup
  | n, [] => List.Pairwise.nil
  | n, c :: cs => by
    refine List.nodup_cons.mpr ⟨fun h => ?_, slotsC_nd (n + 1) cs⟩
    obtain ⟨p, hp, e⟩ := List.mem_map.mp h
    obtain ⟨i, h1, _⟩ := slotsC_mem hp
    have e' : p.1 = n := e
    omega
/-- the context of a lambda's or nested def's body -/
abbrev ncxW (W : Wo) (N : List Str) (F : NF) (f : Addr) (A : Around) (outer : List Env) (s : Shared) (H : Hp) (E : XK) : Cx := ncx (L2.CX W.P W.w) W.P W.w W.K W.mg W.base N F f A outer s H E
theorem xc_ncx {F : NF} {A : Around} {outer : List Env} {s : Shared} {H T : Hp} {EV : XK} (C : Clo F.cl fr ca) (S : NScope N ps fr F.scope) (e0 : Env0 W.P W.w W.K W.mg W.base A outer s H) (hc : ∀ c ∈ ca, ∃ o, H c = some (cellX o)) : XC (ncxW W N F f A outer s T EV) (slotsC ps.length ca) := by
  have lk : ∀ p ∈ slotsC ps.length ca, ∃ y, N[p.1]? = some y ∧ F.scope.names.lookup y = some .free ∧ F.cl.lookup y = some p.2 := fun p hp => by
    obtain ⟨i, h1, h2⟩ := slotsC_mem hp
    have hi : i < fr.length := by rw [← C.len]; exact (List.getElem?_eq_some_iff.mp h2).1
    obtain ⟨c, e1, e2⟩ := C.has i fr[i] (List.getElem?_eq_getElem hi)
    rw [h2] at e2
    cases e2
    refine ⟨fr[i], ?_, S.frk _ (List.getElem_mem hi), e1⟩
    have e3 : (N.take (ps.length + fr.length))[ps.length + i]? = some fr[i] := by
      rw [S.pre, List.getElem?_append_right (by omega)]
      simp [hi]
    rw [List.getElem?_take, if_pos (by omega)] at e3
    rw [h1]; exact e3
  have cm : ∀ p ∈ slotsC ps.length ca, p.2 ∈ ca := fun p hp => by
    obtain ⟨i, _, h2⟩ := slotsC_mem hp
    exact List.mem_of_getElem? h2
  refine ⟨fun pins σ H' s' I p hp => ?_, fun pins σ H' s' I p hp => ?_, fun pins σ H' s' I p hp => ?_, slotsC_nd _ _, S.nd⟩
  · obtain ⟨y, e1, e2, e3⟩ := lk p hp
    exact ⟨y, e1, .inr e2, e3⟩
  · obtain ⟨o, e⟩ := hc p.2 (cm p hp)
    show W.base.get? p.2 = none
    cases q : W.base.get? p.2 with
    | none => rfl
    | some ob =>
      have := (e0.bs _ _ q).2
      rw [e] at this
      cases this
  · obtain ⟨o, e⟩ := hc p.2 (cm p hp)
    intro hz
    have hz : p.2 ∈ frs (envF F f s.heap.objs.size :: outer) := hz
    unfold frs at hz
    rw [List.filterMap_cons] at hz
    rcases List.mem_cons.mp hz with z | z
    · have h1 := Heap.lt_size (cellX_get (e0.hok _ _ e))
      have z' : p.2 = s.heap.objs.size := z
      rw [z'] at h1
      exact absurd h1 (Nat.lt_irrefl _)
    · have := e0.frf _ z
      rw [e] at this
      cases this
theorem dact_lm {F : LF} (hF : m f = some (.lm F)) (C : Clo F.cl fr ca) (hh : Holds m ca ws) (S : NScope N ps fr F.scope) (hb : ∀ (pm ctv : Value) (us : List Value), us.length = ps.length → bindArgs (PySem.W.kla_fn "<lambda>" F.qual F.params F.body F.scope F.cl pm (.ref F.c) ctv) ⟨us, []⟩ = pure (ps.zip us)) (hl : ds.length = ps.length)
    (hbody : ∀ (A : Around) (outer : List Env) (s : Shared) (T : Hp) (EV : XK), RoomG W.gd k (A.deeper (envF F.nf f s.heap.objs.size)) → XC (ncxW W N F.nf f A outer s T EV) (slotsC ps.length ca) → TK T (ncxW W N F.nf f A outer s T EV) (wC ca ws E) →
      ∃ t, DE T (ncxW W N F.nf f A outer s T EV) F.body t ∧ t (dstartF N ds ws) (hideC ca m) (backC ca ws Q)) : DAct W (k + 1) (.ref f) ds [] [] m Q E := by
  intro H v vs zs Qv Ev r1 r2 r3 sm l1 l2
  cases rel_ref.mp r1
  cases r3.inv0
  obtain ⟨hF', hc⟩ := sm f _ hF
  obtain ⟨wv, rw, qw⟩ := hh.vals sm
  have cap : Cap H F.cl fr wv := C.cap (by rw [← rw.length]; exact hh.len) qw
  have CL := cap.cld
  refine (act_lm hF' hc cap S hb (by rw [← r2.length]; exact hl) fun A outer s hr e0 => ?_).toK
  obtain ⟨t, ht, q⟩ := hbody A outer s (cut H (capt F.cl)) (fun cls d H' => (∀ c ∈ capt F.cl, H' c = none) → Ev cls d (mend H' H (capt F.cl))) hr (xc_ncx C S e0 fun c hc => CL c (C.mem.mpr hc))
    ⟨fun cls d _ H' => (∀ c ∈ capt F.cl, H' c = none) → Ev cls d (mend H' H (capt F.cl)), takes_of rfl rfl rfl rfl, fun cls d δ m2 σ H' bq tx rs s2 hn => by
      obtain ⟨m', sb, he⟩ := bq fun c hc => s2.nil (hn c (C.mem.mpr hc))
      exact l2 cls d m' _ he (mend_tx CL tx) ((showC_sm sm s2 CL (fun c => C.mem) tx hn hh).sub sb)⟩
  have tc := cut_tx CL
  exact ⟨_, ht, Tx.refl _, _, _, _, rel_startF (r2.tx tc) (rw.tx tc), hideC_sm sm CL fun c => C.mem, q, fun d m2 v H' bq t' r' s' hn => by
    obtain ⟨m', sb, q'⟩ := bq fun c hc => s'.nil (hn c (C.mem.mpr hc))
    exact l1 d m' v _ q' (mend_tx CL t') (r'.tx (mend_tx1 hn)) ((showC_sm sm s' CL (fun c => C.mem) t' hn hh).sub sb)⟩
theorem dact_nf {F : NF} (hF : m f = some (.fn F)) (C : Clo F.cl fr ca) (hh : Holds m ca ws) (S : NScope N ps fr F.scope) (hb : ∀ (doc pm ctv : Value) (us : List Value), us.length = ps.length → bindArgs (F.fd doc pm ctv) ⟨us, []⟩ = pure (ps.zip us)) (hl : ds.length = ps.length)
    (hbody : ∀ (A : Around) (outer : List Env) (s : Shared) (T : Hp) (EV : XK), RoomG W.gd k (A.deeper (envF F f s.heap.objs.size)) → XC (ncxW W N F f A outer s T EV) (slotsC ps.length ca) → TK T (ncxW W N F f A outer s T EV) (wC ca ws E) →
      ∃ t, DSs T (ncxW W N F f A outer s T EV) F.body t ∧ t { nx := fun _ m2 => backC ca ws Q .non m2, rt := backC ca ws Q } (dstartF N ds ws) (hideC ca m)) : DAct W (k + 1) (.ref f) ds [] [] m Q E := by
  intro H v vs zs Qv Ev r1 r2 r3 sm l1 l2
  cases rel_ref.mp r1
  cases r3.inv0
  obtain ⟨hF', hc⟩ := sm f _ hF
  obtain ⟨wv, rw, qw⟩ := hh.vals sm
  have cap : Cap H F.cl fr wv := C.cap (by rw [← rw.length]; exact hh.len) qw
  have CL := cap.cld
  refine (act_nf hF' hc cap S hb (by rw [← r2.length]; exact hl) fun A outer s hr e0 => ?_).toK
  obtain ⟨t, ht, q⟩ := hbody A outer s (cut H (capt F.cl)) (fun cls d H' => (∀ c ∈ capt F.cl, H' c = none) → Ev cls d (mend H' H (capt F.cl))) hr (xc_ncx C S e0 fun c hc => CL c (C.mem.mpr hc))
    ⟨fun cls d _ H' => (∀ c ∈ capt F.cl, H' c = none) → Ev cls d (mend H' H (capt F.cl)), takes_of rfl rfl rfl rfl, fun cls d δ m2 σ H' bq tx rs s2 hn => by
      obtain ⟨m', sb, he⟩ := bq fun c hc => s2.nil (hn c (C.mem.mpr hc))
      exact l2 cls d m' _ he (mend_tx CL tx) ((showC_sm sm s2 CL (fun c => C.mem) tx hn hh).sub sb)⟩
  have tc := cut_tx CL
  have le : Le (backC ca ws Q) (cut H (capt F.cl)) (fun v H' => (∀ c ∈ capt F.cl, H' c = none) → Qv v (mend H' H (capt F.cl))) := fun d m2 v H' bq t' r' s' hn => by
    obtain ⟨m', sb, q'⟩ := bq fun c hc => s'.nil (hn c (C.mem.mpr hc))
    exact l1 d m' v _ q' (mend_tx CL t') (r'.tx (mend_tx1 hn)) ((showC_sm sm s' CL (fun c => C.mem) t' hn hh).sub sb)
  exact ⟨_, ht, Tx.refl _, _, _, _, rel_startF (r2.tx tc) (rw.tx tc), hideC_sm sm CL fun c => C.mem, q, ⟨fun δ m2 σ H' q' t' _ s' => le _ m2 _ H' q' t' (rel_non.mpr rfl) s', le, fun _ _ _ _ z => z.elim, fun _ _ _ _ z => z.elim⟩⟩
theorem dact_lmE {F : LF} {params : Arguments} {body : Expr} {scope : Scope} (e1 : F.params = params) (e2 : F.body = body) (e3 : F.scope = scope) (hF : m f = some (.lm F)) (C : Clo F.cl fr ca) (hh : Holds m ca ws) (S : NScope N ps fr scope) (hb : ∀ (q : Str) (cl : List (Str × Addr)) (c : Addr) (pm ctv : Value) (us : List Value), us.length = ps.length → bindArgs (PySem.W.kla_fn "<lambda>" q params body scope cl pm (.ref c) ctv) ⟨us, []⟩ = pure (ps.zip us)) (hl : ds.length = ps.length)
    (hbody : ∀ (A : Around) (outer : List Env) (s : Shared) (T : Hp) (EV : XK) (q : Str) (cl : List (Str × Addr)) (c : Addr), RoomG W.gd k (A.deeper (envF ⟨"<lambda>", q, params, [], scope, cl, c⟩ f s.heap.objs.size)) → XC (ncxW W N ⟨"<lambda>", q, params, [], scope, cl, c⟩ f A outer s T EV) (slotsC ps.length ca) → TK T (ncxW W N ⟨"<lambda>", q, params, [], scope, cl, c⟩ f A outer s T EV) (wC ca ws E) →
      ∃ t, DE T (ncxW W N ⟨"<lambda>", q, params, [], scope, cl, c⟩ f A outer s T EV) body t ∧ t (dstartF N ds ws) (hideC ca m) (backC ca ws Q)) : DAct W (k + 1) (.ref f) ds [] [] m Q E := by
  obtain ⟨q, pr, bd, sc, cl, c⟩ := F
  subst e1 e2 e3
  exact dact_lm hF C hh S (fun pm ctv us hl => hb q cl c pm ctv us hl) hl fun A outer s T EV hr xc tk => hbody A outer s T EV q cl c hr xc tk
theorem dact_nfE {F : NF} {nm : Str} {params : Arguments} {body : List Stmt} {scope : Scope} (e0 : F.name = nm) (e1 : F.params = params) (e2 : F.body = body) (e3 : F.scope = scope) (hF : m f = some (.fn F)) (C : Clo F.cl fr ca) (hh : Holds m ca ws) (S : NScope N ps fr scope) (hb : ∀ (q : Str) (cl : List (Str × Addr)) (c : Addr) (doc pm ctv : Value) (us : List Value), us.length = ps.length → bindArgs (NF.fd ⟨nm, q, params, body, scope, cl, c⟩ doc pm ctv) ⟨us, []⟩ = pure (ps.zip us)) (hl : ds.length = ps.length)
    (hbody : ∀ (A : Around) (outer : List Env) (s : Shared) (T : Hp) (EV : XK) (q : Str) (cl : List (Str × Addr)) (c : Addr), RoomG W.gd k (A.deeper (envF ⟨nm, q, params, body, scope, cl, c⟩ f s.heap.objs.size)) → XC (ncxW W N ⟨nm, q, params, body, scope, cl, c⟩ f A outer s T EV) (slotsC ps.length ca) → TK T (ncxW W N ⟨nm, q, params, body, scope, cl, c⟩ f A outer s T EV) (wC ca ws E) →
      ∃ t, DSs T (ncxW W N ⟨nm, q, params, body, scope, cl, c⟩ f A outer s T EV) body t ∧ t { nx := fun _ m2 => backC ca ws Q .non m2, rt := backC ca ws Q } (dstartF N ds ws) (hideC ca m)) : DAct W (k + 1) (.ref f) ds [] [] m Q E := by
  obtain ⟨n, q, pr, bd, sc, cl, c⟩ := F
  subst e0 e1 e2 e3
  exact dact_nf hF C hh S (fun doc pm ctv us hl => hb q cl c doc pm ctv us hl) hl fun A outer s T EV hr xc tk => hbody A outer s T EV q cl c hr xc tk
end
end G
namespace G
open PySem PySem.Spec PyProof.Rows L2 NdefX LamX
/-! ### a lambda is made, a def is made -/
theorem clo_of {X : Cx} {cs js : List (Nat × Addr)} {fr : List Str} {scope : Scope} {cl : List (Str × Addr)} {pins : List (Addr × Obj)} {σ : L2.St} {H : Hp} {s : Shared} (I : Inv X pins σ H s) (xc : XC X cs) (hjs : ∀ p ∈ js, p ∈ cs) (hfr : js.map (fun p => X.N[p.1]?) = fr.map some) (hfr2 : ∀ y ∈ fr, (y, NameKind.free) ∈ scope.names) (hfr3 : ∀ y ∈ scope.names, y.2 = .free → y.1 ∈ fr) (hnd : (js.map (·.1)).Nodup)
    (hfree : ∀ y ∈ scope.names, y.2 = .free → X.env.scope.names.lookup y.1 = some .cell ∨ X.env.scope.names.lookup y.1 = some .free) (hcl : cl = cloFrom X.env.cells scope.names []) : Clo cl fr (js.map (·.2)) := by
  subst hcl
  have hfr' : ∀ y ∈ scope.names, y.2 = .free → ∃ c, X.env.cells.lookup y.1 = some c := fun y hy e => (hfree y hy e).elim (fun z => I.ok.has _ (.inl z)) fun z => I.ok.has _ (.inr z)
  have hl : js.length = fr.length := by simpa using congrArg List.length hfr
  have at_ := xc.at_ pins σ H s I
  refine ⟨by simpa using hl, fun i y e => ?_, fun y c e => ?_, ?_⟩
  · have hi : i < js.length := by rw [hl]; exact (List.getElem?_eq_some_iff.mp e).1
    have e1 : X.N[js[i].1]? = some y := by
      have := congrArg (fun l => l[i]?) hfr
      simp only [List.getElem?_map, List.getElem?_eq_getElem hi, e, Option.map_some] at this
      exact Option.some.inj this
    obtain ⟨y', e2, _, e3⟩ := at_ js[i] (hjs _ (List.getElem_mem hi))
    rw [e1] at e2
    cases e2
    exact ⟨js[i].2, clo_has hfr' (hfr2 y (List.mem_of_getElem? e)) e3, by simp [hi]⟩
  · rcases cloFrom_mem (PySem.mem_of_lookup e) with hm | ⟨h1, _⟩
    · cases hm
    · exact hfr3 _ h1 rfl
  · have h1 := hnd
    rw [List.nodup_iff_pairwise_ne, List.pairwise_map] at h1 ⊢
    refine h1.imp_of_mem fun {p q} hp hq hne e => hne ?_
    obtain ⟨y, hN, _, hc⟩ := at_ p (hjs p hp)
    obtain ⟨z, hM, _, hd⟩ := at_ q (hjs q hq)
    rw [e] at hc
    cases I.ok.inj y z _ hc hd
    have hlt : p.1 < X.N.length := (List.getElem?_eq_some_iff.mp hN).1
    exact (List.getElem?_inj hlt xc.hN).mp (hN.trans hM.symm)
def dLamS (P : Addr) (nm : Nat → Nat → Str) (params : Arguments) (body : Expr) (scope : Scope) (fr : List Str) (ca : List Addr) : DTE := fun δ m Q => m P = some (.tab nm) ∧ ∀ (f : Addr) (F : LF), m f = none → F.params = params → F.body = body → F.scope = scope → Clo F.cl fr ca → Q (.ref f) (put m f (.lm F))
section
variable {T0 : Hp} {X : Cx} {nm : Nat → Nat → Str} {c P : Addr} {cs : List (Nat × Addr)} {fr : List Str}
/-- what lambB says of a nested scope -/
def capB (sc nsc : Scope) (fr : List Str) : Bool := fr.all (fun y => nsc.names.any fun q => decide (q = (y, NameKind.free))) && nsc.names.all (fun y => !decide (y.2 = .free) || (decide (y.1 ∈ fr) && (decide (sc.names.lookup y.1 = some .cell) || decide (sc.names.lookup y.1 = some .free))))
theorem capB_ok {sc nsc : Scope} {fr : List Str} (h : capB sc nsc fr = true) : (∀ y ∈ fr, (y, NameKind.free) ∈ nsc.names) ∧ (∀ y ∈ nsc.names, y.2 = .free → y.1 ∈ fr) ∧ (∀ y ∈ nsc.names, y.2 = .free → sc.names.lookup y.1 = some .cell ∨ sc.names.lookup y.1 = some .free) := by
  unfold capB at h
  simp only [Bool.and_eq_true, List.all_eq_true, List.any_eq_true, decide_eq_true_eq, Bool.or_eq_true, Bool.not_eq_true', decide_eq_false_iff_not] at h
  obtain ⟨h1, h2⟩ := h
  refine ⟨fun y hy => ?_, fun y hy e => ?_, fun y hy e => ?_⟩
  · obtain ⟨q, hq, e⟩ := h1 y hy
    rw [← e]; exact hq
  · exact ((h2 y hy).resolve_left fun z => z e).1
  · exact ((h2 y hy).resolve_left fun z => z e).2
theorem de_lamS {params : Arguments} {body : Expr} {scope : Scope} {pos : Pos} (js : List (Nat × Addr)) (fr : List Str) (sc : Scope) (qu : Str) (TB : TabB X.base X.mg c P) (hcode : X.env.code = .ref c) (xc : XC X cs) (hn : nm pos.line pos.col = qu ++ "<lambda>") (hcap : capB sc scope fr = true)
    (hsc : X.env.scope = sc := by rfl) (hqu : X.env.qual = qu := by rfl) (hjs : ∀ p ∈ js, p ∈ cs := by simp) (hfr : js.map (fun p => X.N[p.1]?) = fr.map some := by rfl) (hnd : (js.map (·.1)).Nodup := by simp) (hdef : defaultsOf params X.env = ([], []) := by rfl) :
    DE T0 X (.Lambda params body scope pos) (dLamS P nm params body scope fr (js.map (·.2))) := by
  subst hsc hqu
  obtain ⟨h1, h2, h3⟩ := capB_ok hcap
  refine ⟨fun pins s σ H Q I ⟨tx, δ, m, Q', rs, sm, ⟨hP, h⟩, le⟩ => ?_⟩
  refine (de_lam (T0 := T0) TB hcode hn hdef h3).run pins s σ H Q I ⟨tx, δ, m, Q', rs, sm, ⟨hP, fun f F nf L => h f F nf L.p L.b L.s (clo_of I xc hjs hfr h1 h2 hnd h3 L.cl)⟩, le⟩
/-! nested defs -/
structure NfIs (X : Cx) (name : Str) (params : Arguments) (body : List Stmt) (scope : Scope) (F : NF) : Prop where
  n : F.name = name
  q : F.qual = X.env.qual ++ name
  p : F.params = params
  b : F.body = body
  s : F.scope = scope
  cl : F.cl = cloFrom X.env.cells scope.names []
end
/-! ### THE RULE for a def, with its cells -/
section
variable {P : Program} {w : World} {K : PySem.W.Frag} {mg : Str → Option Value} {base : Heap} {gd : Bool} {k j : Nat} {f : Addr} {fd : FuncData} {ps : List Str} {sp : DSp}
theorem okDc {x qual : Str} {params : Arguments} {body : List Stmt} {scope : Scope} {dvs : List V} {kws : List (Str × V)} {N : List Str} (cdv : Value) (cells : List (Nat × Str)) (F : FunD K x qual params body scope dvs kws f fd) (hcd : fd.code = cdv) (S : FnScope N ps scope)
    (hcell : ∀ p ∈ cells, N[p.1]? = some p.2 ∧ scope.names.lookup p.2 = some .cell) (hnd : (cells.map (·.1)).Nodup) (len : ∀ ds m Q E, sp ds m Q E → ds.length = ps.length)
    (hbody : ∀ (A : Around) (outer : List Env) (s : Shared) (H : Hp) (EV : XK) (ca : List Addr) (ds : List D) (m : M) (Q : DK) (E : DXK), RoomG gd k (A.deeper (envOfC qual scope s.heap.objs.size f cdv)) → ca.length = cells.length →
      XC (cxOf (L2.CX P w) P w K mg base N qual scope f cdv A outer s H EV) ((cells.map (·.1)).zip ca) → TK H (cxOf (L2.CX P w) P w K mg base N qual scope f cdv A outer s H EV) (wOf E) → sp ds m Q E →
      ∃ t, DSs H (cxOf (L2.CX P w) P w K mg base N qual scope f cdv A outer s H EV) body t ∧ t (endsOf Q) (dstart N ds) m) : FnG P w K mg base gd (k + 1) f fd ps (upSp sp) := by
  obtain ⟨oc, od, dV, kV, doc, pm, an, cdv', ct, osl, rfl, lk, hcd', _, _⟩ := F.ex
  obtain rfl : cdv' = cdv := hcd
  refine ⟨fun vs H Q E ⟨ds, m, Q', E', r, _, h, _⟩ => by rw [← r.length]; exact len _ _ _ _ h, fun A outer s H args us vs Q E hr e0 hb r ⟨ds, m, Q', E', rd, sm, h, le, lx⟩ => ?_⟩
  refine LamX.run_ofS lk hcd' S hr.r e0 hb r (by rw [← rd.length]; exact len _ _ _ _ h) fun hr' => ?_
  have xc : XC (cxOf (L2.CX P w) P w K mg base N qual scope f cdv' A outer s H E) ((cells.map (·.1)).zip (cells.map fun p => ca (cxOf (L2.CX P w) P w K mg base N qual scope f cdv' A outer s H E) p.2)) := by
    have := xc_def (X := cxOf (L2.CX P w) P w K mg base N qual scope f cdv' A outer s H E) cells rfl rfl (fun p hp => ⟨(hcell p hp).1, (hcell p hp).2, rfl⟩) hnd S.nd
    rw [List.zip_map']
    exact this
  obtain ⟨t, ht, q⟩ := hbody A outer s H E _ ds m Q' E' (hr.deeper _) (by simp) xc ⟨_, takeE, fun cls d δ m' σ H' ⟨m2, sb, hw⟩ tx _ s' => lx cls d m2 H' hw tx (s'.sub sb)⟩ h
  exact ⟨_, ht, Tx.refl H, dstart N ds, m, endsOf Q', rel_start rd, sm, q, ⟨fun δ m' σ H' ⟨m2, sb, q2⟩ t' _ s' => le _ m2 _ H' q2 t' (rel_non.mpr rfl) (s'.sub sb), fun d m' v H' ⟨m2, sb, q2⟩ t' r' s' => le _ m2 _ H' q2 t' r' (s'.sub sb), fun _ _ _ _ z => z.elim, fun _ _ _ _ z => z.elim⟩⟩
end
end G
namespace G
open PySem PySem.Spec PyProof.Rows L2 NdefX LamX
/-! ### try .. finally -/
def tFinX (tb tf : TS) : TS := fun D σ H => tb { nx := fun σ1 H1 => tf D σ1 H1, rt := fun _ _ => False } σ H
theorem ps_finX {X : Cx} {body : List Stmt} {f₀ : Stmt} {fs : List Stmt} {pos : Pos} {tb tf tfs : TS} {Wout : WX} (hs : X.stack = X.env :: X.outer) (hf : X.env.frame = some X.env.locals) (hex : X.ex = []) (tk : Takes X Wout)
    (he : ∀ (pn : List (Addr × Obj)) (xe : Value → Shared → Prop), Takes (X.tr pn xe) (wFin tfs Wout) → PassesOwn (model X.prog X.w) X.A X.env xe → PSs (X.tr pn xe) body tb)
    (hfin : PSs X.nox (f₀ :: fs) tf) (hsu : ∀ (a : Addr) (pn : List (Addr × Obj)), PSs (X.suite a pn) (f₀ :: fs) tfs) : PS X (.Try body [] [] (f₀ :: fs) pos) (tFinX tb tf) := by
  refine ⟨fun pins s σ H D I h => ?_⟩
  have ok := I.ok
  refine wpAny_Try_finally ?_
  refine wpAny_mono ((he (X.pn ++ pins) (fun x s₁ => wpAny (model X.prog X.w) X.A (noteFrame x X.env) (fun _ s₂ => FinallyRaised X.prog X.w X.A X.xe X.env (f₀ :: fs) (SP X pins D) x s₂) (FinallyRaised X.prog X.w X.A X.xe X.env (f₀ :: fs) (SP X pins D)) s₁)
    (fun u s' xx => ?_) PassesOwn.looking).run [] s σ H { nx := fun σ1 H1 => tf D σ1 H1, rt := fun _ _ => False } (I.toTry _) h) (fun fl s1 z => ?_) (fun x s1 hx => hx)
  · exact fin_exc hs hf hex ok tk hsu xx
  · match fl, z with
    | .next, ⟨σ1, H1, I1, q⟩ =>
      refine wpAny_execs_nil ?_
      refine wpAny_mono (hfin.run pins s1 σ1 H1 D ((I1.ofTry ok).wish _) q) (fun g s2 q2 => ?_) fun _ _ z => False.elim z
      have q' : SP X pins D g s2 := q2.unwish
      cases g with
      | next => exact q'
      | ret w2 => exact q'
      | brk => exact q'
      | cont => exact q'
    | .ret u, ⟨_, _, _, _, _, q⟩ => exact False.elim q
    | .brk, ⟨_, _, _, q⟩ => exact False.elim q
    | .cont, ⟨_, _, _, q⟩ => exact False.elim q
def dFin (tfs : DTS) (Wx : DWX) : DWX := fun cls d δ m => tfs { nx := fun δ2 m2 => Wx cls d δ2 m2, rt := fun _ _ => False } δ m
def sFin (tb tf : DTS) : DTS := fun N δ m => tb { nx := fun δ1 m1 => tf N δ1 m1, rt := fun _ _ => False } δ m
theorem ds_fin {T0 : Hp} {X : Cx} {body : List Stmt} {f₀ : Stmt} {fs : List Stmt} {pos : Pos} {tb tf tfs : DTS} {Wx : DWX} (tk : TK T0 X Wx)
    (he : ∀ (pn : List (Addr × Obj)) (xe : Value → Shared → Prop), TK T0 (X.tr pn xe) (dFin tfs Wx) → PassesOwn (model X.prog X.w) X.A X.env xe → DSs T0 (X.tr pn xe) body tb)
    (hfin : DSs T0 X.nox (f₀ :: fs) tf) (hsu : ∀ (a : Addr) (pn : List (Addr × Obj)), DSs T0 (X.suite a pn) (f₀ :: fs) tfs) (hs : X.stack = X.env :: X.outer := by rfl) (hf : X.env.frame = some X.env.locals := by rfl) (hex : X.ex = [] := by rfl) : DS T0 X (.Try body [] [] (f₀ :: fs) pos) (sFin tb tf) := by
  obtain ⟨WV, tkV, hW⟩ := tk
  refine ps_imp (ps_finX (tb := upS T0 tb) (tf := upS T0 tf) (tfs := upS T0 tfs) (Wout := WV) hs hf hex tkV (fun pn xe t po => he pn xe ⟨_, t, fun cls d δ m σ H h tx rs sm => ?_⟩ po) hfin hsu) fun N σ H ⟨tx, δ, m, N', rs, sm, h, le⟩ => ?_
  · exact ⟨tx, δ, m, _, rs, sm, h, ⟨fun δ2 m2 σ2 H2 q t2 r2 s2 => hW cls d δ2 m2 σ2 H2 q (tx.trans t2) r2 s2, fun _ _ _ _ z => z.elim, fun _ _ _ _ z => z.elim, fun _ _ _ _ z => z.elim⟩⟩
  · exact ⟨tx, δ, m, _, rs, sm, h, ⟨fun δ1 m1 σ1 H1 q t1 r1 s1 => ⟨tx.trans t1, δ1, m1, N', r1, s1, q, le.tx t1⟩, fun _ _ _ _ z => z.elim, fun _ _ _ _ z => z.elim, fun _ _ _ _ z => z.elim⟩⟩
/-! ### raise -/
def upMk (T0 : Hp) (t : DSt → M → DXK → Prop) : L2.St → Hp → XK → Prop := fun σ H E => Tx T0 H ∧ ∃ δ m E', RelSt H δ σ ∧ Sm m H ∧ t δ m E' ∧ LeX E' H E
def sRaise (Wx : DWX) (t : DSt → M → DXK → Prop) : DTS := fun _ δ m => t δ m fun cls d m' => Wx cls d δ m'
theorem ds_raise {T0 : Hp} {X : Cx} {Wx : DWX} {e : Expr} {t : DSt → M → DXK → Prop} {pos : Pos} (tk : TK T0 X Wx) (he : PMk X e (upMk T0 t)) (hc : X.calm = true := by rfl) : DS T0 X (.Raise (some e) none pos) (sRaise Wx t) := by
  obtain ⟨WV, tkV, hW⟩ := tk
  exact ps_imp (ps_raise hc tkV he) fun N σ H ⟨tx, δ, m, N', rs, sm, h, le⟩ => ⟨tx, δ, m, _, rs, sm, h, fun cls d m' H' q t' s' => hW cls d δ m' σ H' q (tx.trans t') (rs.tx t') s'⟩
end G
namespace G
open PySem PySem.Spec PyProof.Rows L2 NdefX LamX
/-! ### dicts with ints and texts as keys -/
def keyOf : D → Option Key
  | .int i => some (.inl i) | .str s => some (.inr s) | _ => none
def kD : Key → D
  | .inl i => .int i | .inr s => .str s
theorem keyOf_rel {H : Hp} {d : D} {v : V} {k : Key} (h : keyOf d = some k) (r : RelD H d v) : v = kV k := by
  cases d with
  | int i => cases h; exact rel_int.mp r
  | str s => cases h; exact rel_str.mp r
  | _ => cases h
def valD {κ : Type} [DecidableEq κ] : List (κ × D) → κ → Option D
  | [], _ => none
  | (j, d) :: r, k => if j = k then some d else valD r k
def putKD {κ : Type} [DecidableEq κ] : List (κ × D) → κ → D → List (κ × D)
  | [], k, d => [(k, d)]
  | (j, x) :: r, k, d => if j = k then (j, d) :: r.map (fun kv => if kv.1 = k then (kv.1, d) else kv) else (j, x) :: putKD r k d
def dropKD {κ : Type} [DecidableEq κ] (kvs : List (κ × D)) (k : κ) : List (κ × D) := kvs.filter fun kv => decide (kv.1 ≠ k)
section
variable {κ : Type} [DecidableEq κ] {H : Hp}
theorem PK.val {xs : List (κ × D)} {ys : List (κ × V)} (h : PK H xs ys) (k : κ) : (∀ d, valD xs k = some d → ∃ v, valV ys k = some v ∧ RelD H d v) ∧ (valD xs k = none → valV ys k = none) := by
  unfold PK at h
  induction h with
  | nil => exact ⟨fun d e => (nomatch e), fun _ => rfl⟩
  | @cons p q r s a b ih =>
    obtain ⟨j, x⟩ := p
    obtain ⟨j', y⟩ := q
    obtain ⟨e, rv⟩ := a
    cases (show j = j' from e)
    unfold valD
    by_cases hj : j = k
    · rw [if_pos hj, valV_pos hj]
      exact ⟨fun d e => (Option.some.inj e) ▸ ⟨y, rfl, rv⟩, fun e => (nomatch e)⟩
    · rw [if_neg hj, valV_neg hj]
      exact ih
theorem valV_isSome {xs : List (κ × D)} {ys : List (κ × V)} (h : PK H xs ys) (k : κ) : (valD xs k).isSome = (valV ys k).isSome := by
  cases e : valD xs k with
  | none => rw [(h.val k).2 e]; rfl
  | some d => obtain ⟨v, e1, _⟩ := (h.val k).1 d e; rw [e1]; rfl
theorem PK.len {xs : List (κ × D)} {ys : List (κ × V)} (h : PK H xs ys) : xs.length = ys.length := Paired.length h
theorem PK.keys {xs : List (κ × D)} {ys : List (κ × V)} (h : PK H xs ys) : xs.map (·.1) = ys.map (·.1) := by
  unfold PK at h
  induction h with
  | nil => rfl
  | cons a b ih => rw [List.map_cons, List.map_cons, ih, a.1]
theorem PK.mapp {xs : List (κ × D)} {ys : List (κ × V)} (h : PK H xs ys) {d : D} {v : V} (r : RelD H d v) (k : κ) : PK H (xs.map (fun kv => if kv.1 = k then (kv.1, d) else kv)) (ys.map (fun kv => if kv.1 = k then (kv.1, v) else kv)) := by
  unfold PK at h ⊢
  induction h with
  | nil => exact .nil
  | @cons p q _ _ a b ih =>
    refine .cons ?_ ih
    have e : p.1 = q.1 := a.1
    show (if p.1 = k then (p.1, d) else p).1 = (if q.1 = k then (q.1, v) else q).1 ∧ RelD H (if p.1 = k then (p.1, d) else p).2 (if q.1 = k then (q.1, v) else q).2
    by_cases hj : p.1 = k
    · rw [if_pos hj, if_pos (e ▸ hj)]; exact ⟨e, r⟩
    · rw [if_neg hj, if_neg (fun z => hj (e.trans z))]; exact a
theorem putK_any {ys : List (κ × V)} {p : κ × V} {k : κ} {v : V} (e : p.1 = k) : putK (p :: ys) k v = (p.1, v) :: ys.map (fun kv => if kv.1 = k then (kv.1, v) else kv) := by
  unfold putK
  rw [if_pos (by simp [e])]
  simp [e]
theorem putK_cons {ys : List (κ × V)} {p : κ × V} {k : κ} {v : V} (e : ¬ p.1 = k) : putK (p :: ys) k v = p :: putK ys k v := by
  unfold putK
  simp only [List.any_cons, e, decide_false, Bool.false_or]
  split
  · simp [e]
  · simp
theorem PK.putk {xs : List (κ × D)} {ys : List (κ × V)} (h : PK H xs ys) {d : D} {v : V} (r : RelD H d v) (k : κ) : PK H (putKD xs k d) (putK ys k v) := by
  unfold PK at h
  induction h with
  | nil => exact .cons ⟨rfl, r⟩ .nil
  | @cons p q xs ys a b ih =>
    obtain ⟨j, x⟩ := p
    have e : j = q.1 := a.1
    unfold putKD
    by_cases hj : j = k
    · rw [if_pos hj, putK_any (e ▸ hj)]
      exact .cons ⟨e, r⟩ (PK.mapp (show PK H xs ys from b) r k)
    · rw [if_neg hj, putK_cons (fun z => hj (e.trans z))]
      exact .cons a ih
theorem PK.dropk {xs : List (κ × D)} {ys : List (κ × V)} (h : PK H xs ys) (k : κ) : PK H (dropKD xs k) (dropK ys k) := by
  unfold PK at h ⊢
  unfold dropKD dropK
  induction h with
  | nil => exact .nil
  | @cons p q xs ys a b ih =>
    have e : p.1 = q.1 := a.1
    rw [List.filter_cons, List.filter_cons, e]
    split
    · exact .cons a ih
    · exact ih
end
def dDNew : DTE := fun _ m Q => ∀ p, m p = none → Q (.ref p) (put m p (.dk []))
def dDGet : DR2 := fun x y m Q => ∃ a kvs k v, x = .ref a ∧ keyOf y = some k ∧ m a = some (.dk kvs) ∧ valD kvs k = some v ∧ Q v m
def dDIn : DR2 := fun y x m Q => ∃ a kvs k, x = .ref a ∧ keyOf y = some k ∧ m a = some (.dk kvs) ∧ Q (.bl (valD kvs k).isSome) m
def dDNotIn : DR2 := fun y x m Q => ∃ a kvs k, x = .ref a ∧ keyOf y = some k ∧ m a = some (.dk kvs) ∧ Q (.bl (!(valD kvs k).isSome)) m
def dSetD : DSet := fun o i v m Q => ∃ a kvs k, o = .ref a ∧ keyOf i = some k ∧ m a = some (.dk kvs) ∧ kvs.length < sizeLine ∧ Q (put m a (.dk (putKD kvs k v)))
def sDPutD (td ty tv : DTE) : DTS := fun N δ m => tv δ m fun v m1 => td δ m1 fun x m2 => ty δ m2 fun y m3 => dSetD x y v m3 fun m4 => N.nx δ m4
def sDDelD (td ty : DTE) : DTS := fun N δ m => td δ m fun x m1 => ty δ m1 fun y m2 => ∃ a kvs k, x = .ref a ∧ keyOf y = some k ∧ m2 a = some (.dk kvs) ∧ (valD kvs k).isSome = true ∧ N.nx δ (put m2 a (.dk (dropKD kvs k)))
theorem dk_nk {H : Hp} {a : Addr} {xs : List (Key × V)} (h : H a = some (.dK xs)) : NK H a := NK.of h (fun _ z => by cases z) (fun _ z => by cases z)
section
variable {T0 : Hp} {X : Cx} {o i e value : Expr} {pos pos' tpos : Pos} {to ti tv : DTE}
theorem de_dnew : DE T0 X (.Dict [] [] pos) dDNew := pe_imp pe_dnewK fun σ H Q ⟨tx, δ, m, Q', rs, sm, h, le⟩ p np => le _ _ _ _ (h p (sm.nil np)) (Tx.new np) gr (Sm.new (o := .dk []) sm np ⟨[], upd_same, .nil⟩)
theorem de_dget (hu : X.A.units + 1 < cLine) (ho : DE T0 X o to) (hi : DE T0 X i ti) (hs : NoSl i) : DE T0 X (.Subscript o i pos) (dOp dDGet to ti) :=
  pe_imp (pe_dget hu ho hi hs) fun σ H Q ⟨tx, δ, m, Q', rs, sm, h, le⟩ => ⟨tx, δ, m, _, rs, sm, h, fun d m1 v H1 h1 t1 r1 s1 => ⟨tx.trans t1, δ, m1, _, rs.tx t1, s1, h1, fun d2 m2 v2 H2 ⟨a, kvs, k, u, e1, e2, e3, e4, q⟩ t2 r2 s2 => by
    subst e1
    cases rel_ref.mp (r1.tx t2)
    cases keyOf_rel e2 r2
    obtain ⟨ws, h2, pk⟩ := s2 a _ e3
    obtain ⟨u', h3, ru⟩ := (pk.val k).1 u e4
    exact ⟨a, u', rfl, h3 ▸ DGet.k h2, le _ m2 _ H2 q (t1.trans t2) ru s2⟩⟩⟩
theorem de_din (hu : X.A.units + 1 < cLine) (hi : DE T0 X i ti) (ho : DE T0 X o to) (hm : behindInMarks .In o = false := by rfl) : DE T0 X (.Compare i [.In] [o] pos) (dOp dDIn ti to) :=
  pe_imp (pe_cmp (pc_din hu hi ho) hm) fun σ H Q ⟨tx, δ, m, Q', rs, sm, h, le⟩ => ⟨tx, δ, m, _, rs, sm, h, fun d m1 v H1 h1 t1 r1 s1 => ⟨tx.trans t1, δ, m1, _, rs.tx t1, s1, h1, fun d2 m2 v2 H2 ⟨a, kvs, k, e1, e2, e3, q⟩ t2 r2 s2 => by
    subst e1
    cases rel_ref.mp r2
    cases keyOf_rel e2 (r1.tx t2)
    obtain ⟨ws, h2, pk⟩ := s2 a _ e3
    exact ⟨a, _, rfl, DGet.k h2, by rw [← valV_isSome pk k]; exact le _ m2 _ H2 q (t1.trans t2) gb s2⟩⟩⟩
theorem de_dnotin (hu : X.A.units + 1 < cLine) (hi : DE T0 X i ti) (ho : DE T0 X o to) (hm : behindInMarks .NotIn o = false := by rfl) : DE T0 X (.Compare i [.NotIn] [o] pos) (dOp dDNotIn ti to) :=
  pe_imp (pe_cmp (pc_dnotin hu hi ho) hm) fun σ H Q ⟨tx, δ, m, Q', rs, sm, h, le⟩ => ⟨tx, δ, m, _, rs, sm, h, fun d m1 v H1 h1 t1 r1 s1 => ⟨tx.trans t1, δ, m1, _, rs.tx t1, s1, h1, fun d2 m2 v2 H2 ⟨a, kvs, k, e1, e2, e3, q⟩ t2 r2 s2 => by
    subst e1
    cases rel_ref.mp r2
    cases keyOf_rel e2 (r1.tx t2)
    obtain ⟨ws, h2, pk⟩ := s2 a _ e3
    exact ⟨a, _, rfl, DGet.k h2, by rw [← valV_isSome pk k]; exact le _ m2 _ H2 q (t1.trans t2) gb s2⟩⟩⟩
theorem x_setD (hu : X.A.units + 1 < cLine) : PSet X (upSet T0 dSetD) := fun pins s σ H o i v ov iv u Q I ro ri rv ⟨_, d1, d2, d3, m, Q', r1, r2, r3, sm, ⟨a, kvs, k, e1, e2, e3, hl, q⟩, le⟩ => by
  subst e1
  cases rel_ref.mp r1
  cases keyOf_rel e2 r2
  obtain ⟨ws, h1, pk⟩ := sm a _ e3
  have tu : Tx H (L2.upd H a (.dK (putK ws k v))) := Tx.upd (dk_nk h1)
  exact set_dict hu pins s σ H _ _ _ ov iv u Q I ro ri rv ⟨a, _, rfl, DPut.k h1 (by rw [← pk.len]; exact hl), le _ _ q tu (sm.upd (dk_nk h1) ⟨_, upd_same, (pk.putk r3 k).tx tu⟩)⟩
theorem ds_dput (hu : X.A.units + 1 < cLine) (ho : DE T0 X o to) (hi : DE T0 X i ti) (hv : DE T0 X value tv) (hs : swapsWith value (some (.Subscript o i pos')) pos.line X.env = pure false := by rfl) : DS T0 X (.Assign [.Subscript o i pos'] value pos) (sDPutD to ti tv) :=
  ps_imp (ps_dput hu ho hi hv hs) fun N σ H ⟨tx, δ, m, N', rs, sm, h, le⟩ => ⟨tx, δ, m, _, rs, sm, h, fun d m1 v H1 h1 t1 r1 s1 => ⟨tx.trans t1, δ, m1, _, rs.tx t1, s1, h1, fun d2 m2 v2 H2 h2 t2 r2 s2 => ⟨(tx.trans t1).trans t2, δ, m2, _, rs.tx (t1.trans t2), s2, h2, fun d3 m3 v3 H3 ⟨a, kvs, k, e1, e2, e3, hl, q⟩ t3 r3 s3 => by
    subst e1
    cases rel_ref.mp r2
    cases keyOf_rel e2 r3
    obtain ⟨ws, h4, pk⟩ := s3 a _ e3
    have tu : Tx H3 (L2.upd H3 a (.dK (putK ws k v))) := Tx.upd (dk_nk h4)
    have t4 := ((t1.trans t2).trans t3).trans tu
    exact ⟨a, _, rfl, DPut.k h4 (by rw [← pk.len]; exact hl), le.nx δ _ σ _ q t4 (rs.tx t4) (s3.upd (dk_nk h4) ⟨_, upd_same, (pk.putk (r1.tx (t2.trans t3)) k).tx tu⟩)⟩⟩⟩⟩
theorem ds_ddel (ho : DE T0 X o to) (hi : DE T0 X i ti) : DS T0 X (.Delete [.Subscript o i tpos] pos) (sDDelD to ti) :=
  ps_imp (ps_ddel ho hi) fun N σ H ⟨tx, δ, m, N', rs, sm, h, le⟩ => ⟨tx, δ, m, _, rs, sm, h, fun d m1 v H1 h1 t1 r1 s1 => ⟨tx.trans t1, δ, m1, _, rs.tx t1, s1, h1, fun d3 m3 v3 H3 ⟨a, kvs, k, e1, e2, e3, hl, q⟩ t3 r3 s3 => by
    subst e1
    cases rel_ref.mp r1
    cases keyOf_rel e2 r3
    obtain ⟨ws, h4, pk⟩ := s3 a _ e3
    have tu : Tx H3 (L2.upd H3 a (.dK (dropK ws k))) := Tx.upd (dk_nk h4)
    have t4 := (t1.trans t3).trans tu
    exact ⟨a, ws, k, rfl, h4, rfl, by rw [← valV_isSome pk k]; exact hl, le.nx δ _ σ _ q t4 (rs.tx t4) (s3.upd (dk_nk h4) ⟨_, upd_same, (pk.dropk k).tx tu⟩)⟩⟩⟩
/-! calls -/
def dLenD : List D → M → DK → Prop := fun ds m Q => ∃ a kvs, ds = [.ref a] ∧ m a = some (.dk kvs) ∧ Q (.int kvs.length) m
theorem c_lenD : CallR X (.builtin "len") (upC T0 dLenD) := callR_up call_lenD fun xs H Q ds m Q' r sm ⟨a, kvs, e, ea, q⟩ le => by
  subst e
  cases refs1 r
  obtain ⟨ws, h1, pk⟩ := sm a _ ea
  exact ⟨a, ws, rfl, h1, by rw [← pk.len]; exact le _ m _ H q (Tx.refl H) gi sm⟩
def dMinD : List D → M → DK → Prop := fun ds m Q => ∃ a kvs is, ds = [.ref a] ∧ m a = some (.dk kvs) ∧ kvs.map (·.1) = is.map Sum.inl ∧ is ≠ [] ∧ ∀ n, n ∈ is → (∀ j ∈ is, n ≤ j) → Q (.int n) m
theorem c_minD (hc : X.calm = true) : CallR X (.builtin "min") (upC T0 dMinD) := callR_up (cr_minK hc) fun xs H Q ds m Q' r sm ⟨a, kvs, is, e, ea, hk, hn, q⟩ le => by
  subst e
  cases refs1 r
  obtain ⟨ws, h1, pk⟩ := sm a _ ea
  exact ⟨a, ws, is, rfl, h1, by rw [← pk.keys]; exact hk, hn, fun n h2 h3 => le _ m _ H (q n h2 h3) (Tx.refl H) gi sm⟩
/-- sorted(d), int keys, any number of them -/
theorem call_sortedDK (hcalm : X.calm = true) : CallR X (.builtin "sorted") (fun xs H Q => ∃ (a : Addr) (kvs : List (Key × V)) (ks : List Int), xs = [.ref a] ∧ H a = some (.dK kvs) ∧ kvs.map (·.1) = ks.map Sum.inl ∧
    ∀ (ys : List Int) (p : Addr), ys.Perm ks → ys.Pairwise (· ≤ ·) → H p = none → Q (.ref p) (upd H p (.lst (ys.map V.int)))) := by
  intro pins s σ H xs us Q I r q
  obtain ⟨a, kvs, ks, ex, hd, hks, q⟩ := q
  subst ex
  obtain ⟨u, eu, rx⟩ := vals1 r
  subst eu
  cases rx
  obtain ⟨z, lo, vs, rel, dd⟩ := dk_of I.hok hd
  obtain ⟨ep, hat⟩ := dd.dictAt
  have hkeys : vs.map (·.1) = ks.map Sum.inl := rel.keys.symm.trans hks
  have hl : vs.length = ks.length := by
    have e := congrArg List.length hkeys
    rw [List.length_map, List.length_map] at e
    exact e
  have h16 : vs.length ≤ sizeLine := by rw [← rel.length]; exact z
  refine Calls.call_function_entry PyProof.Rows.kind_sorted PyProof.Rows.plain_sorted PyProof.Rows.entry_sorted (PyProof.Rows.args_sorted1 _) ?_
  unfold Builtin.«sorted»
  refine wpAny_bind (m := checkCount "sorted" 1 1 _) (wpAny_pure ?_)
  refine wpAny_bind (PySem.W.kdu_collect (A := X.A.in1) (PySem.W.kdl_dict (knd := mixKind X.prog X.w) (kvs := vs) (ep := ep) lo) (I.ok.hd hcalm) hat h16 fun h' tk acc hk hacc => ?_)
  have hal : acc.toList.length = ks.length := by rw [Array.length_toList, hacc.1, hl]
  have hS : IntsAre acc.toList ks := ints_each hal fun j v e => by
    obtain ⟨k, x, e1, e2⟩ := hacc.2 j v (by rw [← Array.getElem?_toList]; exact e)
    have e3 : (vs.map (·.1))[j]? = some k := by rw [List.getElem?_map, e1]; rfl
    rw [hkeys, List.getElem?_map] at e3
    cases e4 : ks[j]? with
    | none => rw [e4] at e3; cases e3
    | some y =>
      rw [e4] at e3
      have e5 : Sum.inl y = k := Option.some.inj e3
      subst e5
      rcases keyIs_shape (show keyIs (Sum.inl y) v = true from e2) with ⟨i, t, ek, ev⟩ | ⟨z, t, ek, ev⟩
      · cases ek
        exact ⟨y, t, rfl, ev⟩
      · cases ek
  have I1 : Inv X pins σ H { s with heap := h', toks := tk } := I.kept hk
  refine wpAny_bind (wpAny_newList ?_ (by rw [hal, ← hl]; exact h16))
  have hoL : (h'.push (seqObj "list" acc.toList.toArray 0)).get? h'.objs.size = some (seqObj "list" acc.toList.toArray 0) := Heap.get?_push_size _ rfl
  show wpAny _ _ _ _ _ { s with heap := h'.push (seqObj "list" acc.toList.toArray 0), toks := tk }
  refine wpAny_bind (wpAny_holding (wpAny_call_entry PyProof.Rows.slot_list_sort ⟨_, hoL, rfl⟩ PyProof.Rows.entry_list_sort
    (SrtO.list_sort_ord (s := { s with heap := h'.push (seqObj "list" acc.toList.toArray 0), toks := tk }) SrtO.swo_int hoL (by rw [hal, ← hl]; exact h16) (fun h2 => SrtO.ints_sortable hS h2) fun out g1 g2 => ⟨_, rfl, ?_⟩) (PyProof.Rows.args_list_sort _)))
  obtain ⟨k1, k2, k3⟩ := SrtO.ints_out hS g1 g2
  obtain ⟨e', he'⟩ := PyProof.Rows.sortedHeap_at (vs := acc.toList) (out := out.toArray) hoL
  have hlen : ((out.map SrtO.iv).map V.int).length ≤ sizeLine := by
    rw [List.length_map, k2.length_eq, ← hl]
    exact h16
  refine wpAny_pure ⟨_, rfl, .ref h'.objs.size, upd H h'.objs.size (.lst ((out.map SrtO.iv).map V.int)), I1.laid (t' := tk) (fun b u e => ?_) (Nat.le_refl _)
    (show ObjOk X.prog X.w _ _ _ (.lst ((out.map SrtO.iv).map V.int)) from ⟨hlen, out, e', vals_of_ints k1, he'⟩), rfl, q _ _ k2 k3 (I1.hok.fresh (Nat.le_refl _))⟩
  have hb : b < h'.objs.size := Heap.lt_size e
  rw [PyProof.Rows.sortedHeap_old (Nat.ne_of_lt hb) (by rw [size_push']; exact Nat.lt_succ_of_lt hb)]
  exact Heap.get?_push_of_some _ e
theorem rel_ints {H : Hp} : ∀ ns : List Int, RelDs H (ns.map D.int) (ns.map V.int)
  | [] => .nil
  | n :: ns => .cons gi (rel_ints ns)
def dSortedD : List D → M → DK → Prop := fun ds m Q => ∃ (a : Addr) (kvs : List (Key × D)) (ks : List Int), ds = [.ref a] ∧ m a = some (.dk kvs) ∧ kvs.map (·.1) = ks.map Sum.inl ∧ ∀ (ys : List Int) (p : Addr), ys.Perm ks → ys.Pairwise (· ≤ ·) → m p = none → Q (.ref p) (put m p (.lst (ys.map D.int)))
theorem c_sortedD (hcalm : X.calm = true) : CallR X (.builtin "sorted") (upC T0 dSortedD) := callR_up (call_sortedDK hcalm) fun xs H Q ds m Q' r sm ⟨a, kvs, ks, e, ea, hk, q⟩ le => by
  subst e
  cases refs1 r
  obtain ⟨ws, h1, pk⟩ := sm a _ ea
  exact ⟨a, ws, ks, rfl, h1, by rw [← pk.keys]; exact hk, fun ys p h2 h3 np => le _ _ _ _ (q ys p h2 h3 (sm.nil np)) (Tx.new np) gr (Sm.new (o := .lst (ys.map D.int)) sm np ⟨_, upd_same, rel_ints ys⟩)⟩
def dDictD : List D → M → DK → Prop := fun ds m Q => ∃ a kvs, ds = [.ref a] ∧ m a = some (.dk kvs) ∧ ∀ p, m p = none → Q (.ref p) (put m p (.dk kvs))
theorem c_dictD : CallR X (.type "dict") (upC T0 dDictD) := callR_up call_dictD fun xs H Q ds m Q' r sm ⟨a, kvs, e, ea, q⟩ le => by
  subst e
  cases refs1 r
  obtain ⟨ws, h1, pk⟩ := sm a _ ea
  exact ⟨a, ws, rfl, .inl h1, fun p np => le _ _ _ _ (q p (sm.nil np)) (Tx.new np) gr (Sm.new (o := .dk kvs) sm np ⟨_, upd_same, pk.tx (Tx.new np)⟩)⟩
def dListD : List D → M → DK → Prop := fun ds m Q => ∃ a kvs, ds = [.ref a] ∧ m a = some (.dk kvs) ∧ ∀ p, m p = none → Q (.ref p) (put m p (.lst (kvs.map fun kv => kD kv.1)))
theorem PK.kds {H : Hp} {xs : List (Key × D)} {ys : List (Key × V)} (h : PK H xs ys) : RelDs H (xs.map fun kv => kD kv.1) (ys.map fun kv => kV kv.1) := by
  unfold PK at h
  induction h with
  | nil => exact .nil
  | @cons p q _ _ a b ih =>
    have e : p.1 = q.1 := a.1
    refine .cons ?_ ih
    show RelD H (kD p.1) (kV q.1)
    rw [← e]
    cases p.1 with
    | inl i => exact gi
    | inr s => exact gs
theorem c_listD (hc : X.calm = true) : CallR X (.type "list") (upC T0 dListD) := callR_up (call_list_dK hc) fun xs H Q ds m Q' r sm ⟨a, kvs, e, ea, q⟩ le => by
  subst e
  cases refs1 r
  obtain ⟨ws, h1, pk⟩ := sm a _ ea
  exact ⟨a, ws, rfl, h1, fun p np => le _ _ _ _ (q p (sm.nil np)) (Tx.new np) gr (Sm.new (o := .lst (kvs.map fun kv => kD kv.1)) sm np ⟨_, upd_same, pk.kds.tx (Tx.new np)⟩)⟩
end
end G
namespace G
open PySem PySem.Spec PyProof.Rows L2 NdefX LamX
/-! ### more statements -/
def sPar (i j : Nat) (ta : DTA) : DTS := fun N δ m => ta δ m fun ds m1 => ∃ v w, ds = [v, w] ∧ N.nx ((δ.set i (some v)).set j (some w)) m1
def sPar3 (i j l : Nat) (ta : DTA) : DTS := fun N δ m => ta δ m fun ds m1 => ∃ v w z, ds = [v, w, z] ∧ N.nx (((δ.set i (some v)).set j (some w)).set l (some z)) m1
section
variable {T0 : Hp} {X : Cx} {a b c e o i value : Expr} {es : List Expr} {ta tb tc te tv to ti : DTE} {pos pos' tpos : Pos}
theorem ds_par {i j : Nat} {x y : Str} {ta : DTA} {px py pt : Pos} {kt k2 pt2} (hN : X.N.Nodup) (ha : DA T0 X [a, b] ta) (hc : X.calm = true := by rfl) (hi : X.N[i]? = some x := by rfl) (hj : X.N[j]? = some y := by rfl) (hij : i ≠ j := by decide)
    (hx : X.env.scope.names.lookup x = some .local := by rfl) (hy : X.env.scope.names.lookup y = some .local := by rfl)
    (hw : swappedStores [.Tuple [.Name x px, .Name y py] kt pt] (.Tuple [a, b] k2 pt2) X.env = pure (some [x, y]) := by rfl)
    (hs : swapsWithSole [.Tuple [.Name x px, .Name y py] kt pt] (.Tuple [a, b] k2 pt2) pos.line X.env = pure false := by rfl) :
    DS T0 X (.Assign [.Tuple [.Name x px, .Name y py] kt pt] (.Tuple [a, b] k2 pt2) pos) (sPar i j ta) :=
  ps_imp (ps_par hc hN hi hj hij hx hy ha hw hs) fun N σ H ⟨tx, δ, m, N', rs, sm, h, le⟩ => ⟨tx, δ, m, _, rs, sm, h, fun ds m1 vs H1 ⟨v, w, e1, q⟩ t1 r1 s1 => by
    subst e1
    obtain ⟨v1, r, rfl, r2, r3⟩ := r1.inv
    obtain ⟨w1, rfl, r4⟩ := rel1 r3
    exact ⟨v1, w1, rfl, le.nx _ m1 _ H1 q t1 (((rs.tx t1).set i r2).set j r4) s1⟩⟩
theorem ds_par3 {i j l : Nat} {x y z : Str} {ta : DTA} {px py pz pt : Pos} {kt k2 pt2} (hN : X.N.Nodup) (ha : DA T0 X [a, b, c] ta) (hc : X.calm = true := by rfl) (hi : X.N[i]? = some x := by rfl) (hj : X.N[j]? = some y := by rfl) (hl : X.N[l]? = some z := by rfl) (hij : i ≠ j := by decide) (hil : i ≠ l := by decide) (hjl : j ≠ l := by decide)
    (hx : X.env.scope.names.lookup x = some .local := by rfl) (hy : X.env.scope.names.lookup y = some .local := by rfl) (hz : X.env.scope.names.lookup z = some .local := by rfl)
    (hw : swappedStores [.Tuple [.Name x px, .Name y py, .Name z pz] kt pt] (.Tuple [a, b, c] k2 pt2) X.env = pure (some [x, y, z]) := by rfl)
    (hs : swapsWithSole [.Tuple [.Name x px, .Name y py, .Name z pz] kt pt] (.Tuple [a, b, c] k2 pt2) pos.line X.env = pure false := by rfl) :
    DS T0 X (.Assign [.Tuple [.Name x px, .Name y py, .Name z pz] kt pt] (.Tuple [a, b, c] k2 pt2) pos) (sPar3 i j l ta) :=
  ps_imp (ps_par3 hc hN hi hj hl hij hil hjl hx hy hz ha hw hs) fun N σ H ⟨tx, δ, m, N', rs, sm, h, le⟩ => ⟨tx, δ, m, _, rs, sm, h, fun ds m1 vs H1 ⟨v, w, u, e1, q⟩ t1 r1 s1 => by
    subst e1
    obtain ⟨v1, r, rfl, r2, r3⟩ := r1.inv
    obtain ⟨w1, r', rfl, r4, r5⟩ := r3.inv
    obtain ⟨u1, rfl, r6⟩ := rel1 r5
    exact ⟨v1, w1, u1, rfl, le.nx _ m1 _ H1 q t1 ((((rs.tx t1).set i r2).set j r4).set l r6) s1⟩⟩
theorem dv (i : Nat) {x : Str} (hN : X.N[i]? = some x := by rfl) (hv : Vis X.env.scope x := by first | exact Or.inl rfl | exact Or.inr (Or.inl rfl) | exact Or.inr (Or.inr rfl)) (hd : (x == ("__debug__" : Str)) = false := by decide) (hcd : (x == ("__classdict__" : Str)) = false := by decide) : DE T0 X (.Name x pos) (dVar i) := de_var hN hv hd hcd
theorem dint {i : Int} {k : Nat} : DE T0 X (.Constant (.int i) k pos) (dC (.int i)) := de_of (fun _ => gi) pe_int
theorem dstr {i : Str} {k : Nat} : DE T0 X (.Constant (.str i) k pos) (dC (.str i)) := de_of (fun _ => gs) pe_str
theorem dbl {i : Bool} {k : Nat} : DE T0 X (.Constant (.bool i) k pos) (dC (.bl i)) := de_of (fun _ => gb) pe_bl
theorem dnon {k : Nat} : DE T0 X (.Constant .none k pos) (dC .non) := de_of (fun _ => gn) pe_non
theorem de_glob {x : Str} {v : V} {d : D} {u : Value} (hg : Gl X x) (hm : X.mg x = some u) (r : L2.RelV v u) (rd : ∀ H, RelD H d v) (hd : (x == ("__debug__" : Str)) = false := by decide) : DE T0 X (.Name x pos) (dC d) := de_of rd (pe_glob hg hm r hd)
theorem de_gref {x : Str} {a : Addr} (hg : Gl X x) (hm : X.mg x = some (.ref a)) (hd : (x == ("__debug__" : Str)) = false := by decide) : DE T0 X (.Name x pos) (dC (.ref a)) := de_of (fun _ => gr) (pe_glob hg hm (v := .ref a) rfl hd)
theorem de_gint {x : Str} {i : Int} (hg : Gl X x) (hm : ∃ t, X.mg x = some (.int i t)) (hd : (x == ("__debug__" : Str)) = false := by decide) : DE T0 X (.Name x pos) (dC (.int i)) := by
  obtain ⟨t, hm⟩ := hm
  exact de_of (fun _ => gi) (pe_glob hg hm (v := .int i) ⟨t, rfl⟩ hd)
theorem de_bty {x : Str} {T : String} (hg : Gl X x) (hm : X.mg x = none) (hv : bootBuiltins x = some (.type T)) (hn : x ≠ "__name__" := by decide) (hd : (x == ("__debug__" : Str)) = false := by decide) : DE T0 X (.Name x pos) (dC (.ty T)) := de_of (fun _ => rel_ty.mpr rfl) (pe_bltn hg hm hv (v := .ty T) rfl hn hd)
/-! chains -/
def dChain (r r' : DR2) (ta tb tc : DTE) : DTE := fun δ m Q => ta δ m fun x m1 => tb δ m1 fun y m2 => r x y m2 fun z m3 => ∃ k, z = .bl k ∧ (if k = true then tc δ m3 fun w m4 => r' y w m4 Q else Q (.bl false) m3)
theorem chain_up {r r' : DR2} {σ : L2.St} {H : Hp} {Q : VK} (h : up T0 (dChain r r' ta tb tc) σ H Q) : tChain (upR T0 r) (upR T0 r') (up T0 ta) (up T0 tb) (up T0 tc) σ H Q := by
  obtain ⟨tx, δ, m, Q', rs, sm, h, le⟩ := h
  refine ⟨tx, δ, m, _, rs, sm, h, fun d m1 v H1 h1 t1 r1 s1 => ⟨tx.trans t1, δ, m1, _, rs.tx t1, s1, h1, fun d2 m2 v2 H2 h2 t2 r2 s2 => ⟨(tx.trans t1).trans t2, d, d2, m2, _, r1.tx t2, r2, s2, h2, fun d3 m3 v3 H3 ⟨k, e, q⟩ t3 r3 s3 => ?_⟩⟩⟩
  subst e
  refine ⟨k, rel_bl.mp r3, ?_⟩
  have t13 := (t1.trans t2).trans t3
  cases k with
  | true => exact ⟨tx.trans t13, δ, m3, _, rs.tx t13, s3, q, fun d4 m4 v4 H4 h4 t4 r4 s4 => ⟨(tx.trans t13).trans t4, d2, d4, m4, Q', r2.tx (t3.trans t4), r4, s4, h4, le.tx (t13.trans t4)⟩⟩
  | false => exact le _ m3 _ H3 q t13 gb s3
theorem de_chain {op op' : CmpOp} {r r' : DR2} (ho : OpR X (compareOp op) (upR T0 r)) (ho' : OpR X (compareOp op') (upR T0 r')) (ha : DE T0 X a ta) (hb : DE T0 X b tb) (hc : DE T0 X c tc)
    (hm : lastMarks [op, op'] [b, c] = false := by with_unfolding_all rfl) : DE T0 X (.Compare a [op, op'] [b, c] pos) (dChain r r' ta tb tc) := pe_imp (pe_chain ho ho' ha hb hc hm) fun σ H Q h => chain_up h
theorem dt_chain {op op' : CmpOp} {r r' : DR2} (ho : OpR X (compareOp op) (upR T0 r)) (ho' : OpR X (compareOp op') (upR T0 r')) (ha : DE T0 X a ta) (hb : DE T0 X b tb) (hc : DE T0 X c tc)
    (hm : lastMarks [op, op'] [b, c] = false := by with_unfolding_all rfl) : DT T0 X (.Compare a [op, op'] [b, c] pos) (dTest (dChain r r' ta tb tc)) :=
  pt_imp (pt_chain ho ho' ha hb hc hm) fun σ H Q ⟨tx, δ, m, Q', rs, sm, h, le⟩ => chain_up ⟨tx, δ, m, _, rs, sm, h, fun d m1 v H1 ⟨b, e, q⟩ t1 r1 s1 => by
    subst e
    exact ⟨b, rel_bl.mp r1, le b m1 H1 q t1 s1⟩⟩
/-! more operators -/
theorem o_fdivW : OpR X (binaryOp .FloorDiv) (upR T0 (dI CDivW fun i j => .int (i / j))) := up_I op_fdivW fun _ _ _ => gi
theorem o_mulW : OpR X (binaryOp .Mult) (upR T0 (dI CMulW fun i j => .int (i * j))) := up_I op_mulW fun _ _ _ => gi
theorem o_shlW : OpR X (binaryOp .LShift) (upR T0 (dI CShl fun i j => .int (i * 2 ^ j.toNat))) := up_I op_shlW fun _ _ _ => gi
theorem n_add : InOp X .Add (upR T0 (dI0 fun i j => .int (i + j))) := fun pins s σ H x y v u Q I rx ry ⟨_, d, e, m, Q', r1, r2, sm, ⟨i, j, e1, e2, q⟩, le⟩ => by
  subst e1 e2
  exact in_add pins s σ H x y v u Q I rx ry ⟨i, j, rel_int.mp r1, rel_int.mp r2, le _ m _ H q (Tx.refl H) gi sm⟩
theorem n_sub : InOp X .Sub (upR T0 (dI0 fun i j => .int (i - j))) := fun pins s σ H x y v u Q I rx ry ⟨_, d, e, m, Q', r1, r2, sm, ⟨i, j, e1, e2, q⟩, le⟩ => by
  subst e1 e2
  exact in_sub pins s σ H x y v u Q I rx ry ⟨i, j, rel_int.mp r1, rel_int.mp r2, le _ m _ H q (Tx.refl H) gi sm⟩
def flatN {α : Type} (n : Nat) (xs : List α) : List α := (List.replicate n xs).flatten
theorem RelDs.rep {H : Hp} {ds : List D} {vs : List V} (r : RelDs H ds vs) : ∀ n : Nat, RelDs H (flatN n ds) (flatN n vs)
  | 0 => .nil
  | n + 1 => by
    unfold flatN
    rw [List.replicate_succ, List.replicate_succ, List.flatten_cons, List.flatten_cons]
    exact r.app (RelDs.rep r n)
def dRepL : DR2 := fun x y m Q => ∃ l k xs, x = .ref l ∧ y = .int k ∧ m l = some (.lst xs) ∧ -(2 ^ 63) ≤ k ∧ k < 2 ^ 63 ∧ xs.length * k.toNat ≤ sizeLine ∧ ∀ p, m p = none → Q (.ref p) (put m p (.lst (flatN k.toNat xs)))
theorem o_rep : OpR X (binaryOp .Mult) (upR T0 dRepL) := opR_up op_rep fun x y H Q d e m Q' r1 r2 sm ⟨l, k, xs, e1, e2, e3, h1, h2, h3, q⟩ le => by
  subst e1 e2
  cases rel_ref.mp r1
  cases rel_int.mp r2
  obtain ⟨vs, h4, rv⟩ := sm l _ e3
  exact ⟨l, k, vs, rfl, rfl, h4, h1, h2, by rw [← rv.length]; exact h3, fun p np => le _ _ _ _ (q p (sm.nil np)) (Tx.new np) gr (Sm.new (o := .lst (flatN k.toNat xs)) sm np ⟨_, upd_same, (rv.rep k.toNat).tx (Tx.new np)⟩)⟩
/-! calls -/
def dAbs : List D → M → DK → Prop := fun ds m Q => ∃ i, ds = [.int i] ∧ Q (.int (if i < 0 then -i else i)) m
theorem c_abs : CallR X (.builtin "abs") (upC T0 dAbs) := callR_up call_abs fun xs H Q ds m Q' r sm ⟨i, e, q⟩ le => by
  subst e
  exact ⟨i, ints1 r, le _ m _ H q (Tx.refl H) gi sm⟩
def dMax2 : List D → M → DK → Prop := fun ds m Q => ∃ i j, ds = [.int i, .int j] ∧ Q (.int (if j > i then j else i)) m
theorem c_max2 (hc : X.calm = true) : CallR X (.builtin "max") (upC T0 dMax2) := callR_up (call_max2 hc) fun xs H Q ds m Q' r sm ⟨i, j, e, q⟩ le => by
  subst e
  exact ⟨i, j, ints2 r, le _ m _ H q (Tx.refl H) gi sm⟩
def dMin2 : List D → M → DK → Prop := fun ds m Q => ∃ i j, ds = [.int i, .int j] ∧ Q (.int (if j < i then j else i)) m
theorem c_min2 (hc : X.calm = true) : CallR X (.builtin "min") (upC T0 dMin2) := callR_up (call_min2 hc) fun xs H Q ds m Q' r sm ⟨i, j, e, q⟩ le => by
  subst e
  exact ⟨i, j, ints2 r, le _ m _ H q (Tx.refl H) gi sm⟩
theorem ints_of {H : Hp} : ∀ {ns : List Int} {vs : List V}, RelDs H (ns.map D.int) vs → vs = ns.map V.int
  | [], vs, r => r.inv0
  | n :: ns, vs, r => by
    obtain ⟨v, r', rfl, h1, h2⟩ := r.inv
    cases rel_int.mp h1
    rw [ints_of h2]; rfl
def dSum : List D → M → DK → Prop := fun ds m Q => ∃ (a : Addr) (ns : List Int), ds = [.ref a] ∧ m a = some (.lst (ns.map D.int)) ∧ Q (.int ns.sum) m
theorem c_sum (hc : X.calm = true) : CallR X (.builtin "sum") (upC T0 dSum) := callR_up (cr_sum hc) fun xs H Q ds m Q' r sm ⟨a, ns, e, ea, q⟩ le => by
  subst e
  obtain ⟨vs, h1, rv⟩ := sm a _ ea
  cases ints_of rv
  exact ⟨a, ns, refs1 r, SqL.of h1, le _ m _ H q (Tx.refl H) gi sm⟩
def dMaxL : List D → M → DK → Prop := fun ds m Q => ∃ (a : Addr) (ns : List Int), ds = [.ref a] ∧ m a = some (.lst (ns.map D.int)) ∧ 0 < ns.length ∧ ∀ n, n ∈ ns → (∀ y, y ∈ ns → y ≤ n) → Q (.int n) m
theorem c_maxL (hc : X.calm = true) : CallR X (.builtin "max") (upC T0 dMaxL) := callR_up (cr_max hc) fun xs H Q ds m Q' r sm ⟨a, ns, e, ea, hl, q⟩ le => by
  subst e
  obtain ⟨vs, h1, rv⟩ := sm a _ ea
  cases ints_of rv
  exact ⟨a, ns, refs1 r, SqL.of h1, hl, fun n h2 h3 => le _ m _ H (q n h2 h3) (Tx.refl H) gi sm⟩
def dMinL : List D → M → DK → Prop := fun ds m Q => ∃ (a : Addr) (ns : List Int), ds = [.ref a] ∧ m a = some (.lst (ns.map D.int)) ∧ 0 < ns.length ∧ ∀ n, n ∈ ns → (∀ y, y ∈ ns → n ≤ y) → Q (.int n) m
theorem c_minL (hc : X.calm = true) : CallR X (.builtin "min") (upC T0 dMinL) := callR_up (cr_min hc) fun xs H Q ds m Q' r sm ⟨a, ns, e, ea, hl, q⟩ le => by
  subst e
  obtain ⟨vs, h1, rv⟩ := sm a _ ea
  cases ints_of rv
  exact ⟨a, ns, refs1 r, SqL.of h1, hl, fun n h2 h3 => le _ m _ H (q n h2 h3) (Tx.refl H) gi sm⟩
def dListOf : List D → M → DK → Prop
  | [.ref a], m, Q => ∃ xs, (m a = some (.lst xs) ∨ m a = some (.kl xs)) ∧ ∀ p, m p = none → Q (.ref p) (put m p (.lst xs))
  | [.tup xs], m, Q => ∀ p, m p = none → Q (.ref p) (put m p (.lst xs))
  | _, _, _ => False
theorem c_listOf : CallR X (.type "list") (upC T0 dListOf) := callR_up call_list_of fun xs H Q ds m Q' r sm h le => by
  match ds, h with
  | [.ref a], ⟨ys, h0, q⟩ =>
    rcases h0 with h0 | h0
    · obtain ⟨vs, h1, rv⟩ := sm a _ h0
      exact ⟨a, vs, refs1 r, .inl (SqL.of h1), fun p np => le _ _ _ _ (q p (sm.nil np)) (Tx.new np) gr (Sm.new (o := .lst ys) sm np ⟨_, upd_same, rv.tx (Tx.new np)⟩)⟩
    · obtain ⟨o, vs, h1, rv⟩ := sm a _ h0
      exact ⟨a, vs, refs1 r, .inl (.inl (.inr ⟨o, h1⟩)), fun p np => le _ _ _ _ (q p (sm.nil np)) (Tx.new np) gr (Sm.new (o := .lst ys) sm np ⟨_, upd_same, rv.tx (Tx.new np)⟩)⟩
  | [.tup ys], q =>
    obtain ⟨v, e, r1⟩ := rel1 r
    subst e
    obtain ⟨a, vs, ev, h1, rv⟩ := rel_tup.mp r1
    subst ev
    exact ⟨a, vs, rfl, .inr (SqT.of h1), fun p np => le _ _ _ _ (q p (sm.nil np)) (Tx.new np) gr (Sm.new (o := .lst ys) sm np ⟨_, upd_same, rv.tx (Tx.new np)⟩)⟩
def dTupOf : List D → M → DK → Prop
  | [.ref a], m, Q => ∃ xs, (m a = some (.lst xs) ∨ m a = some (.kl xs)) ∧ Q (.tup xs) m
  | [.tup xs], m, Q => Q (.tup xs) m
  | _, _, _ => False
theorem c_tupOf : CallR X (.type "tuple") (upC T0 dTupOf) := callR_up call_tuple_of fun xs H Q ds m Q' r sm h le => by
  match ds, h with
  | [.ref a], ⟨ys, h0, q⟩ =>
    rcases h0 with h0 | h0
    · obtain ⟨vs, h1, rv⟩ := sm a _ h0
      exact ⟨a, vs, refs1 r, .inl ⟨SqL.of h1, fun p np => le _ _ _ _ q (Tx.new np) (rel_new np rv) (sm.skip np)⟩⟩
    · obtain ⟨o, vs, h1, rv⟩ := sm a _ h0
      exact ⟨a, vs, refs1 r, .inl ⟨.inl (.inr ⟨o, h1⟩), fun p np => le _ _ _ _ q (Tx.new np) (rel_new np rv) (sm.skip np)⟩⟩
  | [.tup ys], q =>
    obtain ⟨v, e, r1⟩ := rel1 r
    subst e
    obtain ⟨a, vs, ev, h1, rv⟩ := rel_tup.mp r1
    subst ev
    exact ⟨a, vs, rfl, .inr ⟨SqT.of h1, le _ _ _ _ q (Tx.refl H) r1 sm⟩⟩
def dExtend : D → List D → M → DK → Prop := fun x vs m Q => ∃ l b xs zs, x = .ref l ∧ vs = [.ref b] ∧ m l = some (.lst xs) ∧ m b = some (.lst zs) ∧ xs.length + zs.length ≤ sizeLine ∧ Q .non (put m l (.lst (xs ++ zs)))
theorem m_extend : MtR X "list.extend" (upM T0 dExtend) := mtR_up mt_extend fun x xs H Q d ds m Q' r1 r2 sm ⟨l, b, ys, zs, e1, e2, e3, e4, hl, q⟩ le => by
  subst e1 e2
  cases rel_ref.mp r1
  cases refs1 r2
  obtain ⟨vs, h1, h2⟩ := sm l _ e3
  obtain ⟨us, h3, h4⟩ := sm b _ e4
  exact ⟨l, b, vs, us, rfl, rfl, h1, h3, by rw [← h2.length, ← h4.length]; exact hl, le_setL (xs := ys) le sm h1 (h2.app h4) gn q⟩
def dClear : D → List D → M → DK → Prop := fun x vs m Q => ∃ l xs, x = .ref l ∧ vs = [] ∧ m l = some (.lst xs) ∧ Q .non (put m l (.lst []))
theorem m_clear : MtR X "list.clear" (upM T0 dClear) := mtR_up mt_clear fun x xs H Q d ds m Q' r1 r2 sm ⟨l, ys, e1, e2, e3, q⟩ le => by
  subst e1 e2
  cases rel_ref.mp r1
  cases r2.inv0
  obtain ⟨vs, h1, h2⟩ := sm l _ e3
  exact ⟨l, vs, rfl, rfl, h1, le_setL (xs := ys) (ys := []) le sm h1 .nil gn q⟩
end
end G
namespace G
open PySem PySem.Spec PyProof.Rows L2 NdefX LamX
/-! ### the head, with tables of code objects -/
def cdA (K : PySem.W.Frag) (p : Str × Option Str) : Addr := match K.lookup (He.fAd K p) with
  | some ⟨_, _, .func fd, _⟩ => (match fd.code with | .ref c => c | _ => 0)
  | _ => 0
def tbA (K : PySem.W.Frag) (p : Str × Option Str) : Addr := match K.lookup (cdA K p) with
  | some ⟨_, _, .fields vs, _⟩ => (match vs.getD 11 .none with | .ref P => P | _ => 0)
  | _ => 0
theorem code_of {K : PySem.W.Frag} {p : Str × Option Str} {x qual : Str} {params : Arguments} {body : List Stmt} {scope : Scope} {dvs : List V} {kws : List (Str × V)} {fd : FuncData} (F : FunD K x qual params body scope dvs kws (He.fAd K p) fd) : fd.code = .ref (cdA K p) := by
  obtain ⟨oc, od, dV, kV, doc, pm, an, cdv, ct, osl, rfl, lk, hcd, _, _⟩ := F.ex
  unfold cdA
  rw [lk]
  show cdv = _
  unfold PySem.W.codeIn at hcd
  split at hcd
  · rfl
  · cases hcd
def keepO (p : Addr × Obj) : Bool := match p.2.cls, p.2.data with
  | .type n, _ => n != "list"
  | .none, .fields vs => vs.size != 0
  | _, _ => true
def frT (g : Addr → Option Obj) (as : List Addr) : PySem.W.Frag := (He.frG g as).filter keepO
theorem frG_mem {g : Addr → Option Obj} {p : Addr × Obj} : ∀ {as : List Addr}, p ∈ He.frG g as → g p.1 = some p.2 := fun {as} h => by
  unfold He.frG at h
  obtain ⟨a, _, e⟩ := List.mem_filterMap.mp h
  cases q : g a with
  | none => rw [q] at e; cases e
  | some o => rw [q] at e; cases e; exact q
theorem lookup_mem {β : Type} {a : Addr} {o : β} : ∀ {l : List (Addr × β)}, l.lookup a = some o → (a, o) ∈ l
  | (b, u) :: l, e => by
    rw [List.lookup_cons] at e
    by_cases h : a = b
    · subst h
      simp at e
      subst e
      exact List.mem_cons_self
    · have : (a == b) = false := by simpa using h
      rw [this] at e
      exact List.mem_cons_of_mem _ (lookup_mem e)
theorem frT_at {g : Addr → Option Obj} {as : List Addr} {a : Addr} {o : Obj} (e : (frT g as).lookup a = some o) : g a = some o ∧ keepO (a, o) = true := by
  have h := lookup_mem e
  obtain ⟨h1, h2⟩ := List.mem_filter.mp h
  exact ⟨frG_mem h1, h2⟩
def NoL (K : PySem.W.Frag) : Prop := ∀ a o, K.lookup a = some o → o.cls ≠ .type "list"
theorem keepO_nl {a : Addr} {o : Obj} (h : keepO (a, o) = true) : o.cls ≠ .type "list" := fun e => by
  unfold keepO at h
  rw [show (a, o).2.cls = Value.type "list" from e] at h
  simp at h
structure TabOk (h : Heap) (K : PySem.W.Frag) (p : Str × Option Str) : Prop where
  hd : PySem.W.CodeHd h (cdA K p) (tbA K p)
  at_ : h.get? (tbA K p) = some { cls := .none, data := .fields #[] }
  no : K.lookup (tbA K p) = none
theorem TabOk.keeps {h h' : Heap} {K : PySem.W.Frag} {p : Str × Option Str} (x : TabOk h K p) (k : ∀ b o, h.get? b = some o → h'.get? b = some o) : TabOk h' K p := ⟨x.hd.keeps k, k _ _ x.at_, x.no⟩
def codeB (o : Obj) (c P : Addr) : Bool := match o.data with
  | .fields vs => (o.cls == .type "code") && (vs[11]? == some (.ref P)) && (match vs.getD 18 .none with | .str _ _ => true | _ => false) && (match vs.getD 7 .none with | .int _ _ => true | _ => false) && (match vs.getD 9 .none with | .bool _ => true | _ => false) && (match vs.getD 10 .none with | .int _ _ => true | _ => false) && decide (c ≠ P)
  | _ => false
def tabB (g : Addr → Option Obj) (K : PySem.W.Frag) (p : Str × Option Str) : Bool :=
  (match K.lookup (cdA K p) with | some o => codeB o (cdA K p) (tbA K p) | none => false) &&
  (match g (tbA K p) with | some ⟨.none, none, .fields ⟨[]⟩, ⟨[]⟩⟩ => true | _ => false) && (K.lookup (tbA K p)).isNone
theorem codeB_ok {h : Heap} {o : Obj} {c P : Addr} (e : h.get? c = some o) (b : codeB o c P = true) : PySem.W.CodeHd h c P := by
  unfold codeB at b
  split at b
  · rename_i vs hd
    simp only [Bool.and_eq_true, decide_eq_true_eq, beq_iff_eq] at b
    obtain ⟨⟨⟨⟨⟨⟨b1, b2⟩, b3⟩, b4⟩, b5⟩, b6⟩, b7⟩ := b
    have g11 : vs.getD 11 .none = .ref P := by
      rw [Array.getD_eq_getD_getElem?, b2]; rfl
    split at b3
    · rename_i f1 f2 e18
      split at b4
      · rename_i i1 i2 e7
        split at b5
        · rename_i q1 e9
          split at b6
          · rename_i j1 j2 e10
            exact ⟨o, vs, f1, f2, i1, i2, q1, j1, j2, e, b1, hd, b2, g11, e18, e7, e9, e10, b7⟩
          · cases b6
        · cases b5
      · cases b4
    · cases b3
  · cases b
theorem tabB_ok {h : Heap} {K : PySem.W.Frag} {p : Str × Option Str} (X : K.In h) (b : tabB h.get? K p = true) : TabOk h K p := by
  unfold tabB at b
  simp only [Bool.and_eq_true, Option.isNone_iff_eq_none] at b
  obtain ⟨⟨b1, b2⟩, b3⟩ := b
  refine ⟨?_, ?_, b3⟩
  · split at b1
    · rename_i o e
      exact codeB_ok (X _ _ e) b1
    · cases b1
  · split at b2
    · rename_i e
      exact e
    · cases b2
abbrev AlT : Type := Bool × He.AlD
def obsT (n : Nat) (fa : List Fx) (fn : List He.DefD) (tb : List (Str × Option Str)) (g : Addr → Option Obj) : AlT :=
  let K := frT g (cStatics :: He.asD g n)
  (tb.all (fun p => tabB g K p) && decide (tb.map (tbA K)).Nodup, obsX fa fn K)
structure SaysT (fa : List Fx) (fn : List He.DefD) (tb : List (Str × Option Str)) (h : Heap) (K : PySem.W.Frag) : Prop where
  kin : K.In h
  c : SaysX fa fn K
  nl : NoL K
  nd : (tb.map (tbA K)).Nodup
  tab : ∀ p ∈ tb, TabOk h K p
def hookT (n : Nat) (fa : List Fx) (fn : List He.DefD) (tb : List (Str × Option Str)) : PySem.W.Hook where
  α := AlT
  obs := fun s => obsT n fa fn tb s.heap.get?
  val := fun _ => (true, He.valD fn)
  says := fun _ h => ∃ K : PySem.W.Frag, SaysT fa fn tb h K
  of := fun _ s e => by
    have e1 : (tb.all (fun p => tabB s.heap.get? (frT s.heap.get? (cStatics :: He.asD s.heap.get? n)) p) && decide (tb.map (tbA (frT s.heap.get? (cStatics :: He.asD s.heap.get? n)))).Nodup) = true := congrArg (fun z : AlT => z.1) e
    have e2 : obsX fa fn (frT s.heap.get? (cStatics :: He.asD s.heap.get? n)) = He.valD fn := congrArg (fun z : AlT => z.2) e
    simp only [Bool.and_eq_true, decide_eq_true_eq, List.all_eq_true] at e1
    have hk : (frT s.heap.get? (cStatics :: He.asD s.heap.get? n)).In s.heap := fun a o q => (frT_at q).1
    exact ⟨_, hk, e2, fun a o q => keepO_nl (frT_at q).2, e1.2, fun p hp => tabB_ok hk (e1.1 p hp)⟩
  keeps := fun _ _ _ ⟨K, x⟩ k => ⟨K, PySem.W.Frag.In.keeps x.kin k, x.c, x.nl, x.nd, fun p hp => (x.tab p hp).keeps k⟩
theorem obsT_eq {n : Nat} {fa : List Fx} {fn : List He.DefD} {tb : List (Str × Option Str)} {g : Addr → Option Obj} {s : Shared} (h : ∀ a, g a = s.heap.get? a) : obsT n fa fn tb g = (hookT n fa fn tb).obs s := by
  have e : g = s.heap.get? := funext h
  rw [e] <;> rfl
/-- the heap at the law's entry -/
def mAt (K : PySem.W.Frag) (tb : List ((Str × Option Str) × (Nat → Nat → Str))) : M := fun b => (tb.find? fun p => decide (tbA K p.1 = b)).map fun p => .tab p.2
theorem mAt_get {K : PySem.W.Frag} : ∀ {tb : List ((Str × Option Str) × (Nat → Nat → Str))} (nd : (tb.map (fun p => tbA K p.1)).Nodup) {p : (Str × Option Str) × (Nat → Nat → Str)}, p ∈ tb → mAt K tb (tbA K p.1) = some (.tab p.2)
  | q :: tb, nd, p, hp => by
    unfold mAt
    rw [List.find?_cons]
    by_cases e : tbA K q.1 = tbA K p.1
    · rw [decide_eq_true e]
      rcases List.mem_cons.mp hp with z | z
      · rw [z]; rfl
      · rw [List.map_cons, List.nodup_cons] at nd
        exact absurd (List.mem_map.mpr ⟨p, z, e.symm⟩) nd.1
    · rw [decide_eq_false e]
      rcases List.mem_cons.mp hp with z | z
      · rw [z] at e; exact absurd rfl e
      · rw [List.map_cons, List.nodup_cons] at nd
        exact mAt_get nd.2 z
theorem mAt_of {K : PySem.W.Frag} {tb : List ((Str × Option Str) × (Nat → Nat → Str))} {b : Addr} {o : O} (h : mAt K tb b = some o) : ∃ p ∈ tb, tbA K p.1 = b ∧ o = .tab p.2 := by
  unfold mAt at h
  obtain ⟨p, h1, h2⟩ := Option.map_eq_some_iff.mp h
  exact ⟨p, List.mem_of_find?_eq_some h1, by simpa using List.find?_some h1, h2.symm⟩
theorem walk_ofD {l : PySem.W.OpenLaw} {n k : Nat} {q : Program} {loose : List Str} {XP : (Str → Option Value) → Heap → Prop} {YP : World → Heap → Prop} {d : DefRec} {x : Str}
    (hn : l.most = some n) (hn2 : n ≤ sizeLine) (hdf : d.params.defaults = []) (hr : Room k callerA)
    (F : ∀ (w : World) (mg : Str → Option Value) (fa : Addr) (h : Heap), YP w h → h.Ns mainGlobals mg → mg d.name = some (.ref fa) →
      ∃ (K : PySem.W.Frag) (fd : FuncData) (tb : List ((Str × Option Str) × (Nat → Nat → Str))) (sp : DSp), K.In h ∧ NoL K ∧ (tb.map (fun p => tbA K p.1)).Nodup ∧ (∀ p ∈ tb, TabOk h K p.1) ∧ (∀ (s : Shared) (u : Value), BindsTo s fd ⟨[u], []⟩ [(x, u)]) ∧
        (∀ (m : M) (a : Addr) (ns : List Int), ns.length ≤ n → (∀ z ∈ ns, Builtin.Int.intBits z ≤ 1048576) → (∀ p ∈ tb, m (tbA K p.1) = some (.tab p.2)) → (m a = some (.lst (ns.map D.int)) ∨ m a = some (.kl (ns.map D.int))) → sp [.ref a] m (fun v _ => v = .bl true) fun _ _ _ => False) ∧
        ∀ base : Heap, K.In base → base.Ns mainGlobals mg → (∀ p ∈ tb, TabB base mg (cdA K p.1) (tbA K p.1)) → FnG l.prog w K mg base false k fa fd [x] (upSp sp)) :
    PySem.W.WalkO q loose XP YP l.row.toRowW d [] (fun f vs => PySem.call f vs) := by
  refine Att.attach_callB hn hdf fun w s₀ s₁ mg mb fa o pm cd doc a vs ns G Y ho hd hcd hmg hobj hints hlen hbits hg => ?_
  obtain ⟨K, fd, tb, sp, KX, NL, ND, TB, hb, hsp, hF⟩ := F w mg fa _ Y G.T.g hmg
  refine law_callTs (cs := tb.map fun p => (cdA K p.1, tbA K p.1)) KX G.T.g G.T.b G.T.builtins G.T.nolimit hg ?_ ?_ ?_ G.T.bmain hobj hints (Nat.le_trans hlen hn2) hr (fun base hk hns ht => (hF base hk hns fun p hp => ht _ (List.mem_map.mpr ⟨p, hp, rfl⟩)).to) hb (fun H hH hS => ?_) fun H e s' h => ?_
  · intro p hp
    obtain ⟨r, hr', rfl⟩ := List.mem_map.mp hp
    exact (TB r hr').at_
  · intro p hp
    obtain ⟨r, hr', rfl⟩ := List.mem_map.mp hp
    exact (TB r hr').no
  · intro p hp
    obtain ⟨r, hr', rfl⟩ := List.mem_map.mp hp
    exact (TB r hr').hd
  · have tabs : ∀ p ∈ tb, TabN H (tbA K p.1) p.2 := fun p hp => TabN.nil (hH _ (List.mem_map.mpr ⟨p, hp, rfl⟩))
    have hR : (H a = some (.lst (ns.map V.int))) ∨ ∃ o, H a = some (.frz o (.lst (ns.map V.int))) := by
      rcases hS with h | ⟨o, its, n', hk, hc, _⟩
      · exact h
      · exact absurd hc (NL a o hk)
    have hna : ∀ p ∈ tb, tbA K p.1 ≠ a := fun p hp e => by
      have h1 := hH _ (List.mem_map.mpr ⟨p, hp, rfl⟩)
      rw [show ((fun p : (Str × Option Str) × (Nat → Nat → Str) => (cdA K p.1, tbA K p.1)) p).2 = a from e] at h1
      rcases hR with h2 | ⟨o, h2⟩ <;> rw [h1] at h2 <;> cases h2
    have key : ∀ oa : O, OOk H a oa → Sm (put (mAt K tb) a oa) H := fun oa hoa b o e => by
      by_cases hb : b = a
      · subst hb
        rw [put_same] at e
        cases e
        exact hoa
      · rw [put_ne hb] at e
        obtain ⟨p, hp, e1, rfl⟩ := mAt_of e
        rw [← e1]
        exact tabs p hp
    have tg : ∀ oa : O, ∀ p ∈ tb, put (mAt K tb) a oa (tbA K p.1) = some (.tab p.2) := fun oa p hp => by
      rw [put_ne (hna p hp)]
      exact mAt_get ND hp
    rcases hR with h2 | ⟨o, h2⟩
    · exact ⟨[.ref a], _, _, _, .cons gr .nil, key (.lst (ns.map D.int)) ⟨_, h2, rel_ints ns⟩, hsp _ a ns hlen hbits (tg _) (.inl put_same), fun d m' v H' e t r s => by subst e; exact rel_bl.mp r, fun _ _ _ _ z => z.elim⟩
    · exact ⟨[.ref a], _, _, _, .cons gr .nil, key (.kl (ns.map D.int)) ⟨o, _, h2, rel_ints ns⟩, hsp _ a ns hlen hbits (tg _) (.inr put_same), fun d m' v H' e t r s => by subst e; exact rel_bl.mp r, fun _ _ _ _ z => z.elim⟩
  · obtain ⟨_, _, _, _, _, _, _, _, _, _, _, _, z⟩ := h
    exact z
/-! how calls bind -/
section
variable {K : PySem.W.Frag} {x qual : Str} {params : Arguments} {body : List Stmt} {scope : Scope} {dvs : List V} {kws : List (Str × V)} {f : Addr} {fd : FuncData} {ps ks : List Str} {n : Nat}
theorem BindD.p0 (F : FunD K x qual params body scope [] kws f fd)
    (h : ∀ (kV doc pm : Value) (an : Option Addr) (cdv ct : Value) (us : List Value), us.length = ps.length → bindArgs (PySem.W.fnOf x qual params body scope .none kV doc pm an cdv ct) ⟨us, []⟩ = pure (ps.zip us)) : BindD K fd ps ps.length [] (fun ds _ => ds) := by
  intro H s us ws vs zs ds es hk r1 r2 r3 r4 l1 l2
  have hb := F.bindsN h
  have l3 : us.length = ps.length := by rw [← Paired.length r2, ← r1.length]; exact l1
  refine ⟨us, vs, ?_, r2, r1⟩
  have := hb s us hk (by rw [List.append_nil]; exact l3)
  rw [List.append_nil] at this
  exact this
theorem BindD.k0 (F : FunD K x qual params body scope [] kws f fd)
    (h : ∀ (kV doc pm : Value) (an : Option Addr) (cdv ct : Value) (us ws : List Value), us.length = n → ws.length = ks.length → bindArgs (PySem.W.fnOf x qual params body scope .none kV doc pm an cdv ct) ⟨us, ks.zip ws⟩ = pure (ps.zip (us ++ ws))) : BindD K fd ps n ks (fun ds es => ds ++ es) := by
  intro H s us ws vs zs ds es hk r1 r2 r3 r4 l1 l2
  obtain ⟨oc, od, dV, kV, doc, pm, an, cdv, ct, osl, rfl, lk, hcd, hD, hK⟩ := F.ex
  rcases hD with ⟨_, rfl⟩ | ⟨e, _⟩
  · refine ⟨us ++ ws, vs ++ zs, .of_eq (h kV doc pm an cdv ct us ws ?_ ?_), r2.append r4, r1.app r3⟩
    · rw [← Paired.length r2, ← r1.length]; exact l1
    · rw [← Paired.length r4, ← r3.length]; exact l2
  · exact absurd rfl e
end
end G
namespace G
open PySem PySem.Spec PyProof.Rows L2 NdefX LamX
/-! ### facts -/
def fDC (x y : Str) : Fx := fun K => PySem.W.readsIn K (He.ga K x) (.type "type") && (PySem.W.specialIn K (.ref (He.ga K x)) "__getattribute__" == some (some (.builtin "type.__getattribute__"))) && (match PySem.W.findCls K (.ref (He.ga K x)) (.type "type") y with | some (.val (.ref g)) => decide (g = He.fAd K (x, some y)) | _ => false) && PySem.W.keepIn K (.ref (He.fAd K (x, some y)))
theorem dc_ok {K : PySem.W.Frag} {x y : Str} (c : fDC x y K = true) : PySem.W.readsIn K (He.ga K x) (.type "type") = true ∧ PySem.W.specialIn K (.ref (He.ga K x)) "__getattribute__" = some (some (.builtin "type.__getattribute__")) ∧ PySem.W.findCls K (.ref (He.ga K x)) (.type "type") y = some (.val (.ref (He.fAd K (x, some y)))) ∧ PySem.W.keepIn K (.ref (He.fAd K (x, some y))) = true := by
  unfold fDC at c
  simp only [Bool.and_eq_true, beq_iff_eq] at c
  obtain ⟨⟨⟨c1, c2⟩, c3⟩, c4⟩ := c
  refine ⟨c1, c2, ?_, c4⟩
  split at c3
  · rename_i g e
    rw [e, of_decide_eq_true c3]
  · cases c3
def fMethC (C m c : Str) : Fx := fun K => (He.Fa.meth C m).ok K && decide (He.ma K (He.ga K C) m = He.fAd K (c, some m))
theorem methC_ok {K : PySem.W.Frag} {C m c : Str} (h : fMethC C m c K = true) : Meth K (He.ga K C) m (He.fAd K (c, some m)) := by
  unfold fMethC at h
  simp only [Bool.and_eq_true, decide_eq_true_eq] at h
  rw [← h.2]
  exact He.meth_ok h.1
def fMkrC (C c : Str) : Fx := fun K => (He.Fa.mkr C).ok K && decide (He.ma K (He.ga K C) "__init__" = He.fAd K (c, some "__init__"))
theorem mkrC_ok {K : PySem.W.Frag} {C c : Str} (h : fMkrC C c K = true) : Mk K (He.ga K C) (He.fAd K (c, some "__init__")) := by
  unfold fMkrC at h
  simp only [Bool.and_eq_true, decide_eq_true_eq] at h
  rw [← h.2]
  exact He.mkr_ok h.1
theorem len1 {α : Type} {l : List α} (h : l.length = 1) : ∃ a, l = [a] := match l, h with | [a], _ => ⟨a, rfl⟩
theorem len2 {α : Type} {l : List α} (h : l.length = 2) : ∃ a b, l = [a, b] := match l, h with | [a, b], _ => ⟨a, b, rfl⟩
theorem len3 {α : Type} {l : List α} (h : l.length = 3) : ∃ a b c, l = [a, b, c] := match l, h with | [a, b, c], _ => ⟨a, b, c, rfl⟩
theorem len4 {α : Type} {l : List α} (h : l.length = 4) : ∃ a b c d, l = [a, b, c, d] := match l, h with | [a, b, c, d], _ => ⟨a, b, c, d, rfl⟩
theorem len5 {α : Type} {l : List α} (h : l.length = 5) : ∃ a b c d e, l = [a, b, c, d, e] := match l, h with | [a, b, c, d, e], _ => ⟨a, b, c, d, e, rfl⟩
theorem len6 {α : Type} {l : List α} (h : l.length = 6) : ∃ a b c d e f, l = [a, b, c, d, e, f] := match l, h with | [a, b, c, d, e, f], _ => ⟨a, b, c, d, e, f, rfl⟩
theorem xc_sub {X : Cx} {cs cs' : List (Nat × Addr)} (xc : XC X cs) (h : ∀ p ∈ cs', p ∈ cs := by simp) (nd : (cs'.map (·.1)).Nodup := by simp) : XC X cs' := ⟨fun pins σ H s I p hp => xc.at_ pins σ H s I p (h p hp), fun pins σ H s I p hp => xc.nb pins σ H s I p (h p hp), fun pins σ H s I p hp => xc.nf pins σ H s I p (h p hp), nd, xc.hN⟩
theorem xc_blk {X : Cx} (hN : X.N.Nodup) : XC X [] := xc_nil hN
section
variable {T0 : Hp} {X : Cx} {o i : Expr} {pos : Pos} {to ti : DTE}
theorem dt_din (hu : X.A.units + 1 < cLine) (hi : DE T0 X i ti) (ho : DE T0 X o to) (hm : behindInMarks .In o = false := by rfl) : DT T0 X (.Compare i [.In] [o] pos) (dTest (dOp dDIn ti to)) :=
  pt_imp (pt_cmp (pc_din hu hi ho) hm) fun σ H Q ⟨tx, δ, m, Q', rs, sm, h, le⟩ => ⟨tx, δ, m, _, rs, sm, h, fun d m1 v H1 h1 t1 r1 s1 => ⟨tx.trans t1, δ, m1, _, rs.tx t1, s1, h1, fun d2 m2 v2 H2 ⟨a, kvs, k, e1, e2, e3, b, eb, q⟩ t2 r2 s2 => by
    subst e1
    cases eb
    cases rel_ref.mp r2
    cases keyOf_rel e2 (r1.tx t2)
    obtain ⟨ws, h2, pk⟩ := s2 a _ e3
    exact ⟨a, _, rfl, DGet.k h2, _, rfl, by rw [← valV_isSome pk k]; exact le _ m2 H2 q (t1.trans t2) s2⟩⟩⟩
theorem dt_dnotin (hu : X.A.units + 1 < cLine) (hi : DE T0 X i ti) (ho : DE T0 X o to) (hm : behindInMarks .NotIn o = false := by rfl) : DT T0 X (.Compare i [.NotIn] [o] pos) (dTest (dOp dDNotIn ti to)) :=
  pt_imp (pt_cmp (pc_dnotin hu hi ho) hm) fun σ H Q ⟨tx, δ, m, Q', rs, sm, h, le⟩ => ⟨tx, δ, m, _, rs, sm, h, fun d m1 v H1 h1 t1 r1 s1 => ⟨tx.trans t1, δ, m1, _, rs.tx t1, s1, h1, fun d2 m2 v2 H2 ⟨a, kvs, k, e1, e2, e3, b, eb, q⟩ t2 r2 s2 => by
    subst e1
    cases eb
    cases rel_ref.mp r2
    cases keyOf_rel e2 (r1.tx t2)
    obtain ⟨ws, h2, pk⟩ := s2 a _ e3
    exact ⟨a, _, rfl, DGet.k h2, _, rfl, by rw [← valV_isSome pk k]; exact le _ m2 H2 q (t1.trans t2) s2⟩⟩⟩
end
/-! ### exceptions -/
theorem mk_up {T0 : Hp} {X : Cx} {e : Expr} {C : Addr} (h : PMk X e (fun _ H Q => Q (.ref C) none H)) : PMk X e (upMk T0 fun _ m E => E (.ref C) none m) := fun pins s σ H Q I ⟨tx, δ, m, E', rs, sm, q, le⟩ => h pins s σ H Q I (le _ _ m H q (Tx.refl H) sm)
/-! ### heaps -/
theorem put_old {m : M} {a b : Addr} {o u : O} (n : m b = none) (h : m a = some o) : put m b u a = some o := by
  rw [put_ne (fun z => by rw [z, n] at h; cases h)]
  exact h
theorem put_at {m : M} {a b : Addr} {o u : O} (n : a ≠ b) (h : m a = some o) : put m b u a = some o := by rw [put_ne n]; exact h
theorem put_free {m : M} {a b : Addr} {u : O} (h : put m b u a = none) : m a = none ∧ a ≠ b := by
  by_cases e : a = b
  · subst e; rw [put_same] at h; cases h
  · rw [put_ne e] at h; exact ⟨h, e⟩
theorem ne_of_o {m : M} {a b : Addr} {o u : O} (h1 : m a = some o) (h2 : m b = some u) (n : o ≠ u) : a ≠ b := fun e => by
  rw [e, h2] at h1
  cases h1
  exact n rfl
theorem ne_free {m : M} {a b : Addr} {o : O} (h1 : m a = some o) (h2 : m b = none) : a ≠ b := fun e => by rw [e, h2] at h1; cases h1
theorem ne_fr {m : M} {a b : Addr} {o : O} (h2 : m b = none) (h1 : m a = some o) : a ≠ b := ne_free h1 h2
theorem putD_nil {f : Str} {d : D} : putD f d [] = [(f, d)] := rfl
theorem putD_same {f : Str} {d x : D} {r : List (Str × D)} : putD f d ((f, x) :: r) = (f, d) :: r := by unfold putD; rw [if_pos rfl]
theorem putD_ne {f k : Str} {d x : D} {r : List (Str × D)} (h : (k == f) = false) : putD f d ((k, x) :: r) = (k, x) :: putD f d r := by
  rw [putD, if_neg (by simpa using h)]
theorem lk_nil {f : Str} : List.lookup f ([] : List (Str × D)) = none := rfl
theorem lk_same {f : Str} {x : D} {r : List (Str × D)} : List.lookup f ((f, x) :: r) = some x := by simp [List.lookup]
theorem lk_ne {f k : Str} {x : D} {r : List (Str × D)} (h : (k == f) = false) : List.lookup f ((k, x) :: r) = List.lookup f r := by
  rw [List.lookup_cons]
  have : (f == k) = false := by rw [beq_eq_false_iff_ne] at h ⊢; exact Ne.symm h
  rw [this]
theorem Sub.of_eq {m m' : M} (h : m = m') : Sub m m' := by rw [h]; exact Sub.refl _
end G
namespace G
open PySem PySem.Spec PyProof.Rows L2 NdefX LamX
section
variable {T0 : Hp} {X : Cx} {e o value : Expr} {pos pos' tpos : Pos} {te ta tv : DTE} {f : Str}
theorem de_fk (K : PySem.W.Frag) (he : DE T0 X e te) (hK : X.K = K := by rfl) (hb : attributeBase e f X.env (eval e X.env) = eval e X.env := by rfl) : DE T0 X (.Attribute e f pos) (dFld K te f) := by
  subst hK
  exact de_fld he hb
theorem ds_fk (K : PySem.W.Frag) (ha : DE T0 X o ta) (hv : DE T0 X value tv) (hK : X.K = K := by rfl) (hs : swapsWith value (some (.Attribute o f pos')) pos.line X.env = pure false := by rfl) : DS T0 X (.Assign [.Attribute o f pos'] value pos) (sFldD K ta tv f) := by
  subst hK
  exact ds_fld ha hv hs
theorem ds_fka (K : PySem.W.Frag) {op : Operator} {rd : DR2} (ha : DE T0 X o ta) (hv : DE T0 X value tv) (hop : InOp X op (upR T0 rd)) (hK : X.K = K := by rfl) : DS T0 X (.AugAssign (.Attribute o f tpos) op value pos) (sFldAugD K ta tv rd f) := by
  subst hK
  exact ds_fldaug ha hv hop
end
theorem del_at {m : M} {a b : Addr} {o : O} (n : a ≠ b) (h : m a = some o) : del m b a = some o := by rw [del_ne n]; exact h
theorem put_nn {m : M} {a b : Addr} {u : O} (n : a ≠ b) (h : m a = none) : put m b u a = none := by rw [put_ne n]; exact h
theorem del_nn {m : M} {a b : Addr} (h : m a = none) : del m b a = none := by unfold del; split <;> first | rfl | exact h
theorem del_ns {m : M} {a : Addr} : del m a a = none := del_same
theorem Sub.del {m m' : M} {a : Addr} (x : Sub m m') (n : m a = none) : Sub m (G.del m' a) := fun b u e => by
  rw [del_ne (fun z => by rw [z, n] at e; cases e)]
  exact x b u e
theorem Sub.dell {m : M} {a : Addr} : Sub (G.del m a) m := fun b u e => by
  unfold G.del at e
  split at e
  · cases e
  · exact e
theorem Sub.get {m m' : M} {a : Addr} {o : O} (x : Sub m m') (h : m a = some o) : m' a = some o := x a o h
theorem KeepD.sub {K : PySem.W.Frag} {m m' : M} {d : D} (k : KeepD K m d) (s : Sub m m') : KeepD K m' d := by
  obtain ⟨f, e, k⟩ := k
  refine ⟨f, e, ?_⟩
  rcases k with k | ⟨F, k⟩ | ⟨F, k⟩
  · exact .inl k
  · exact .inr (.inl ⟨F, s _ _ k⟩)
  · exact .inr (.inr ⟨F, s _ _ k⟩)
theorem hol1 {m : M} {a : Addr} {x : D} (h1 : m a = some (.cel x)) : Holds m [a] [x] := ⟨h1, trivial⟩
theorem hol2 {m : M} {a b : Addr} {x y : D} (h1 : m a = some (.cel x)) (h2 : m b = some (.cel y)) : Holds m [a, b] [x, y] := ⟨h1, h2, trivial⟩
theorem hol3 {m : M} {a b c : Addr} {x y z : D} (h1 : m a = some (.cel x)) (h2 : m b = some (.cel y)) (h3 : m c = some (.cel z)) : Holds m [a, b, c] [x, y, z] := ⟨h1, h2, h3, trivial⟩
theorem hol4 {m : M} {a b c d : Addr} {x y z u : D} (h1 : m a = some (.cel x)) (h2 : m b = some (.cel y)) (h3 : m c = some (.cel z)) (h4 : m d = some (.cel u)) : Holds m [a, b, c, d] [x, y, z, u] := ⟨h1, h2, h3, h4, trivial⟩
end G
namespace G
open PySem PySem.Spec PyProof.Rows L2 NdefX LamX
section
variable {T0 : Hp} {X : Cx}
/-- xs == [] -/
def rEqE (K : PySem.W.Frag) (neg : Bool) : R2 := fun x y H Q => ∃ a b xs, x = V.ref a ∧ y = V.ref b ∧ SqL K H a xs ∧ SqL K H b [] ∧ Q (.bl (if neg then !xs.isEmpty else xs.isEmpty)) H
theorem isl_of {pins : List (Addr × Obj)} {σ : L2.St} {H : Hp} {s : Shared} {a : Addr} {xs : List V} (I : Inv X pins σ H s) (h : SqL X.K H a xs) : ∃ its : List Value, Vals xs its ∧ s.heap.IsList a its.toArray := by
  obtain ⟨its, r, p, _⟩ := I.list h
  exact ⟨its, r, p.isList⟩
theorem op_eqE (hu : X.A.units < cLine) : OpR X (compareOp .Eq) (rEqE X.K false) := by
  intro pins s σ H x y v u Q I rx ry h
  obtain ⟨a, b, xs, rfl, rfl, ha, hb, q⟩ := h
  obtain rfl : v = Value.ref a := rx
  obtain rfl : u = Value.ref b := ry
  obtain ⟨its, r1, l1⟩ := isl_of I ha
  obtain ⟨jts, r2, l2⟩ := isl_of I hb
  cases r2
  cases its with
  | nil =>
    cases r1
    exact SeqAt.RcAt.lists (e := fun _ => true) l1 l2 rfl hu (fun j h1 => absurd h1 (by simp)) _ _ _ _ ⟨.bl true, H, I, rfl, q⟩
  | cons z zs =>
    cases r1
    exact SeqAt.RcAt.lists_lengths l1 l2 (by simp) hu _ _ _ _ ⟨.bl false, H, I, rfl, q⟩
theorem op_neE (hu : X.A.units < cLine) : OpR X (compareOp .NotEq) (rEqE X.K true) := by
  intro pins s σ H x y v u Q I rx ry h
  obtain ⟨a, b, xs, rfl, rfl, ha, hb, q⟩ := h
  obtain rfl : v = Value.ref a := rx
  obtain rfl : u = Value.ref b := ry
  obtain ⟨its, r1, l1⟩ := isl_of I ha
  obtain ⟨jts, r2, l2⟩ := isl_of I hb
  cases r2
  cases its with
  | nil =>
    cases r1
    exact SeqAt.RcNeAt.lists (e := fun _ => true) l1 l2 rfl hu (fun j h1 => absurd h1 (by simp)) _ _ _ _ ⟨.bl false, H, I, rfl, q⟩
  | cons z zs =>
    cases r1
    exact SeqAt.RcNeAt.lists_lengths l1 l2 (by simp) hu _ _ _ _ ⟨.bl true, H, I, rfl, q⟩
def dEqE : DR2 := fun d e m Q => ∃ a b xs, d = .ref a ∧ e = .ref b ∧ m a = some (.lst xs) ∧ m b = some (.lst []) ∧ Q (.bl xs.isEmpty) m
def dNeE : DR2 := fun d e m Q => ∃ a b xs, d = .ref a ∧ e = .ref b ∧ m a = some (.lst xs) ∧ m b = some (.lst []) ∧ Q (.bl (!xs.isEmpty)) m
theorem o_eqE (hu : X.A.units < cLine) : OpR X (compareOp .Eq) (upR T0 dEqE) := opR_up (op_eqE hu) fun x y H Q d e m Q' r1 r2 sm ⟨a, b, xs, e1, e2, e3, e4, q⟩ le => by
  subst e1 e2
  cases rel_ref.mp r1
  cases rel_ref.mp r2
  obtain ⟨vs, h1, rv⟩ := sm a _ e3
  obtain ⟨us, h2, ru⟩ := sm b _ e4
  cases ru.inv0
  refine ⟨a, b, vs, rfl, rfl, SqL.of h1, SqL.of h2, ?_⟩
  rw [if_neg (by decide), ← emp_of (relDs_iff.mp rv)]
  exact le _ m _ H q (Tx.refl H) gb sm
theorem o_neE (hu : X.A.units < cLine) : OpR X (compareOp .NotEq) (upR T0 dNeE) := opR_up (op_neE hu) fun x y H Q d e m Q' r1 r2 sm ⟨a, b, xs, e1, e2, e3, e4, q⟩ le => by
  subst e1 e2
  cases rel_ref.mp r1
  cases rel_ref.mp r2
  obtain ⟨vs, h1, rv⟩ := sm a _ e3
  obtain ⟨us, h2, ru⟩ := sm b _ e4
  cases ru.inv0
  refine ⟨a, b, vs, rfl, rfl, SqL.of h1, SqL.of h2, ?_⟩
  rw [if_pos rfl, ← emp_of (relDs_iff.mp rv)]
  exact le _ m _ H q (Tx.refl H) gb sm
def dUI (g : Int → Int) : D → M → DK → Prop := fun x m Q => ∃ i, x = .int i ∧ Q (.int (g i)) m
theorem u_neg : UnR X (unaryOp .USub) (upR1 T0 (dUI fun i => -i)) := fun pins s σ H x v Q I rx ⟨_, d, m, Q', r1, sm, ⟨i, e, q⟩, le⟩ => by
  subst e
  exact un_neg pins s σ H x v Q I rx ⟨i, rel_int.mp r1, le _ m _ H q (Tx.refl H) gi sm⟩
/-! rules of one kind each -/
theorem op_imp {f : Value → Value → Sem Value} {r r' : DR2} (h : OpR X f (upR T0 r)) (i : ∀ d e m Q, r' d e m Q → r d e m Q) : OpR X f (upR T0 r') := fun pins s σ H x y v u Q I rx ry ⟨tx, d, e, m, Q', r1, r2, sm, q, le⟩ => h pins s σ H x y v u Q I rx ry ⟨tx, d, e, m, Q', r1, r2, sm, i _ _ _ _ q, le⟩
theorem ix_imp {r r' : DR2} (h : IxR X (upR T0 r)) (i : ∀ d e m Q, r' d e m Q → r d e m Q) : IxR X (upR T0 r') := fun value slice pins s σ H x y v u Q I rx ry ⟨tx, d, e, m, Q', r1, r2, sm, q, le⟩ hs => h value slice pins s σ H x y v u Q I rx ry ⟨tx, d, e, m, Q', r1, r2, sm, i _ _ _ _ q, le⟩ hs
theorem cl_imp {f : Value} {r r' : List D → M → DK → Prop} (h : CallR X f (upC T0 r)) (i : ∀ ds m Q, r' ds m Q → r ds m Q) : CallR X f (upC T0 r') := fun pins s σ H xs us Q I rx ⟨tx, ds, m, Q', r1, sm, q, le⟩ => h pins s σ H xs us Q I rx ⟨tx, ds, m, Q', r1, sm, i _ _ _ q, le⟩
def dIxT : DR2 := fun d e m Q => ∃ xs i v, d = .tup xs ∧ e = .int i ∧ atI xs i = some v ∧ Q v m
def dIxL : DR2 := fun d e m Q => ∃ a xs i v, d = .ref a ∧ e = .int i ∧ m a = some (.lst xs) ∧ atI xs i = some v ∧ Q v m
def dIxK : DR2 := fun d e m Q => ∃ a xs i v, d = .ref a ∧ e = .int i ∧ (m a = some (.lst xs) ∨ m a = some (.kl xs)) ∧ atI xs i = some v ∧ Q v m
theorem x_ixT : IxR X (upR T0 dIxT) := ix_imp x_ix fun d e m Q ⟨xs, i, v, e1, e2, h, q⟩ => by subst e1 e2; exact ⟨v, h, q⟩
theorem x_ixL : IxR X (upR T0 dIxL) := ix_imp x_ix fun d e m Q ⟨a, xs, i, v, e1, e2, h1, h, q⟩ => by subst e1 e2; exact ⟨xs, v, .inl h1, h, q⟩
theorem x_ixK : IxR X (upR T0 dIxK) := ix_imp x_ix fun d e m Q ⟨a, xs, i, v, e1, e2, h1, h, q⟩ => by subst e1 e2; exact ⟨xs, v, h1, h, q⟩
def dAddI : DR2 := dI0 fun i j => .int (i + j)
def dAddS : DR2 := fun d e m Q => ∃ x y, d = .str x ∧ e = .str y ∧ x.length + y.length ≤ sizeLine ∧ Q (.str (x ++ y)) m
def dAddT : DR2 := fun d e m Q => ∃ xs ys, d = .tup xs ∧ e = .tup ys ∧ xs ≠ [] ∧ xs.length + ys.length ≤ sizeLine ∧ Q (.tup (xs ++ ys)) m
def dAddL : DR2 := fun d e m Q => ∃ a b xs ys, d = .ref a ∧ e = .ref b ∧ m a = some (.lst xs) ∧ m b = some (.lst ys) ∧ xs.length + ys.length ≤ sizeLine ∧ ∀ p, m p = none → Q (.ref p) (put m p (.lst (xs ++ ys)))
theorem o_addI : OpR X (binaryOp .Add) (upR T0 (dI0 fun i j => .int (i + j))) := op_imp o_add fun d e m Q ⟨i, j, e1, e2, q⟩ => by subst e1 e2; exact q
theorem o_addS : OpR X (binaryOp .Add) (upR T0 dAddS) := op_imp o_add fun d e m Q ⟨i, j, e1, e2, hl, q⟩ => by subst e1 e2; exact ⟨hl, q⟩
theorem o_addT : OpR X (binaryOp .Add) (upR T0 dAddT) := op_imp o_add fun d e m Q ⟨i, j, e1, e2, hn, hl, q⟩ => by subst e1 e2; exact ⟨hn, hl, q⟩
theorem o_addL : OpR X (binaryOp .Add) (upR T0 dAddL) := op_imp o_add fun d e m Q ⟨a, b, xs, ys, e1, e2, h1, h2, hl, q⟩ => by subst e1 e2; exact ⟨xs, ys, h1, h2, hl, q⟩
theorem o_eqI : OpR X (compareOp .Eq) (upR T0 (dI0 fun i j => .bl (decide (i = j)))) := op_imp o_eqS fun d e m Q ⟨i, j, e1, e2, q⟩ => by
  subst e1 e2
  refine ⟨rfl, rfl, rfl, ?_⟩
  have : decide (toV (.int i) = toV (.int j)) = decide (i = j) := decide_eq_decide.mpr ⟨fun z => V.int.inj z, fun z => by rw [z]⟩
  rw [this]; exact q
theorem o_neI : OpR X (compareOp .NotEq) (upR T0 (dI0 fun i j => .bl (!decide (i = j)))) := op_imp o_neS fun d e m Q ⟨i, j, e1, e2, q⟩ => by
  subst e1 e2
  refine ⟨rfl, rfl, rfl, ?_⟩
  have : decide (toV (.int i) = toV (.int j)) = decide (i = j) := decide_eq_decide.mpr ⟨fun z => V.int.inj z, fun z => by rw [z]⟩
  rw [this]; exact q
def dEqT : DR2 := fun d e m Q => ∃ i j, d = .str i ∧ e = .str j ∧ Q (.bl (decide (i = j))) m
def dNeT : DR2 := fun d e m Q => ∃ i j, d = .str i ∧ e = .str j ∧ Q (.bl (!decide (i = j))) m
theorem o_eqT : OpR X (compareOp .Eq) (upR T0 dEqT) := op_imp o_eqS fun d e m Q ⟨i, j, e1, e2, q⟩ => by
  subst e1 e2
  refine ⟨rfl, rfl, rfl, ?_⟩
  have : decide (toV (.str i) = toV (.str j)) = decide (i = j) := decide_eq_decide.mpr ⟨fun z => V.str.inj z, fun z => by rw [z]⟩
  rw [this]; exact q
theorem o_neT : OpR X (compareOp .NotEq) (upR T0 dNeT) := op_imp o_neS fun d e m Q ⟨i, j, e1, e2, q⟩ => by
  subst e1 e2
  refine ⟨rfl, rfl, rfl, ?_⟩
  have : decide (toV (.str i) = toV (.str j)) = decide (i = j) := decide_eq_decide.mpr ⟨fun z => V.str.inj z, fun z => by rw [z]⟩
  rw [this]; exact q
def dLenL : List D → M → DK → Prop := fun ds m Q => ∃ a xs, ds = [.ref a] ∧ m a = some (.lst xs) ∧ Q (.int (xs.length : Nat)) m
def dLenK : List D → M → DK → Prop := fun ds m Q => ∃ a xs, ds = [.ref a] ∧ (m a = some (.lst xs) ∨ m a = some (.kl xs)) ∧ Q (.int (xs.length : Nat)) m
def dLenT : List D → M → DK → Prop := fun ds m Q => ∃ xs, ds = [.tup xs] ∧ Q (.int (xs.length : Nat)) m
theorem c_lenL : CallR X (.builtin "len") (upC T0 dLenL) := cl_imp c_len fun ds m Q ⟨a, xs, e, h, q⟩ => by subst e; exact ⟨xs, .inl h, q⟩
theorem c_lenK : CallR X (.builtin "len") (upC T0 dLenK) := cl_imp c_len fun ds m Q ⟨a, xs, e, h, q⟩ => by subst e; exact ⟨xs, h, q⟩
theorem c_lenT : CallR X (.builtin "len") (upC T0 dLenT) := cl_imp c_len fun ds m Q ⟨xs, e, q⟩ => by subst e; exact q
def dListL : List D → M → DK → Prop := fun ds m Q => ∃ a xs, ds = [.ref a] ∧ m a = some (.lst xs) ∧ ∀ p, m p = none → Q (.ref p) (put m p (.lst xs))
def dListT : List D → M → DK → Prop := fun ds m Q => ∃ xs, ds = [.tup xs] ∧ ∀ p, m p = none → Q (.ref p) (put m p (.lst xs))
theorem c_listL : CallR X (.type "list") (upC T0 dListL) := cl_imp c_listOf fun ds m Q ⟨a, xs, e, h, q⟩ => by subst e; exact ⟨xs, .inl h, q⟩
theorem c_listT : CallR X (.type "list") (upC T0 dListT) := cl_imp c_listOf fun ds m Q ⟨xs, e, q⟩ => by subst e; exact q
def dTupL : List D → M → DK → Prop := fun ds m Q => ∃ a xs, ds = [.ref a] ∧ m a = some (.lst xs) ∧ Q (.tup xs) m
theorem c_tupL : CallR X (.type "tuple") (upC T0 dTupL) := cl_imp c_tupOf fun ds m Q ⟨a, xs, e, h, q⟩ => by subst e; exact ⟨xs, .inl h, q⟩
end
/-! statements one by one -/
theorem seqL {t u : DTS} {N : DEnds} {δ : DSt} {m : M} (h : ∀ K : DSt → M → Prop, (∀ δ m, u N δ m → K δ m) → t { N with nx := K } δ m) : sSeq t u N δ m := h (u N) fun _ _ z => z
theorem seqJ {t u : DTS} {N : DEnds} {δ : DSt} {m : M} (J : DSt → M → Prop) (h : ∀ K : DSt → M → Prop, (∀ δ m, J δ m → K δ m) → t { N with nx := K } δ m) (h2 : ∀ δ m, J δ m → u N δ m) : sSeq t u N δ m := h (u N) h2
end G
/-! loops read by an invariant -/
namespace G
open PySem PySem.Spec PyProof.Rows L2 NdefX LamX
theorem forI {ok : M → Prop} {g : DTG} {tb : DTS} {N : DEnds} (P : List D → DSt → M → Prop) (hn : ∀ δ m, P [] δ m → ok m ∧ N.nx δ m)
    (hc : ∀ x r δ m, P (x :: r) δ m → ok m ∧ ∀ K : DSt → M → Prop, (∀ δ m, P r δ m → K δ m) → g x δ m fun δ2 m2 => tb { N with nx := K, ct := K, bk := N.nx } δ2 m2) : ∀ (items : List D) (δ : DSt) (m : M), P items δ m → forR ok g tb N items δ m
  | [], δ, m, h => hn δ m h
  | x :: r, δ, m, h => by
    obtain ⟨h1, h2⟩ := hc x r δ m h
    exact ⟨h1, h2 _ fun δ m z => forI P hn hc r δ m z⟩
theorem whileI {c : DTT} {tb : DTS} {N : DEnds} (W : Nat → DSt → M → Prop) {n0 : Nat} {δ : DSt} {m : M} (h0 : W n0 δ m)
    (ht : ∀ n δ m, W n δ m → ∀ K : DSt → M → Prop, (∀ n' δ' m', n' < n → W n' δ' m' → K δ' m') → c δ m fun b m1 => if b = true then tb { N with nx := K, ct := K, bk := N.nx } δ m1 else N.nx δ m1) : sWhile c tb N δ m :=
  ⟨W, ⟨n0, h0⟩, fun n δ m w => ht n δ m w (fun δ' m' => ∃ n', n' < n ∧ W n' δ' m') fun n' δ' m' h1 h2 => ⟨n', h1, h2⟩⟩
theorem lcJ {ok : M → Prop} {tg : Tg} {tt : DTT} {te : DTE} {vs : List Nat} {δ : DSt} {b : Addr} {Q : DK} (P : List D → List D → M → Prop) (hn : ∀ acc m, P [] acc m → ok m ∧ m b = some (.lst acc) ∧ Q (.ref b) m)
    (hc : ∀ x r acc m, P (x :: r) acc m → ok m ∧ ∀ K : List D → M → Prop, (∀ acc m, P r acc m → K acc m) → eTg tg x (dwipe δ vs) fun δ2 => tt δ2 m fun c m3 => if c = true then te δ2 m3 fun y m4 => m4 b = some (.lst acc) ∧ acc.length < sizeLine ∧ K (acc ++ [y]) (put m4 b (.lst (acc ++ [y]))) else K acc m3) :
    ∀ (items acc : List D) (m : M), P items acc m → lcR ok tg tt te vs δ b Q items acc m
  | [], acc, m, h => hn acc m h
  | x :: r, acc, m, h => by
    obtain ⟨h1, h2⟩ := hc x r acc m h
    exact ⟨h1, h2 (fun acc m => lcR ok tg tt te vs δ b Q r acc m) fun acc m z => lcJ P hn hc r acc m z⟩
theorem flatN_map {α β : Type} {f : α → β} {xs : List α} : ∀ n : Nat, flatN n (xs.map f) = (flatN n xs).map f := fun n => by unfold flatN; simp
theorem flatN_len {α : Type} {xs : List α} (n : Nat) : (flatN n xs).length = n * xs.length := by unfold flatN; simp
theorem flatN_mem {α : Type} {xs : List α} {n : Nat} {x : α} (h : x ∈ flatN n xs) : x ∈ xs := by
  unfold flatN at h
  rw [List.mem_flatten] at h
  obtain ⟨l, h1, h2⟩ := h
  rw [(List.mem_replicate.mp h1).2] at h2
  exact h2
theorem ifI {c : DTT} {t u : DTS} {N : DEnds} {δ : DSt} {m : M} (R : Bool → M → Prop) (hc : ∀ K : Bool → M → Prop, (∀ b m, R b m → K b m) → c δ m K) (ht : ∀ m, R true m → t N δ m) (hu : ∀ m, R false m → u N δ m) : sIf c t u N δ m :=
  hc _ fun b m r => by
    cases b with
    | true => exact (if_pos rfl).mpr (ht m r)
    | false => exact (if_neg (by decide)).mpr (hu m r)
end G
/-! sums of a queue, as the program's defs compute them -/
namespace Sms
open PySem PySem.Spec PyProof.Rows L2 G NdefX LamX
structure S3 where
  f : Int
  e : Int
  v : D
def S3.d (s : S3) : D := .tup [.int s.f, .int s.e, s.v]
def oD : Option S3 → D
  | none => .non
  | some s => s.d
theorem oD_none : oD none = .non := rfl
theorem oD_some {s : S3} : oD (some s) = s.d := rfl
abbrev ER := Except (Value × Option Addr)
structure ES where
  front : List S3
  back : Option S3
  fresh : Option (List S3)
  later : Option S3
def Av (F : M) (foot : Addr → Prop) : Prop := ∀ b, foot b → F b = none
section
variable {S : Type}
/-- a function that joins two sums -/
structure JB (W : Wo) (jd : D) (rep : S → M → Prop) (foot : Addr → Prop) (lim : S → S3 → S3 → Prop) (J : S → S3 → S3 → S × ER S3) : Prop where
  keep : ∀ s m, rep s m → KeepD W.K m jd
  mono : ∀ s m m', rep s m → Sub m m' → rep s m'
  dom : ∀ s m b, rep s m → foot b → m b ≠ none
  run : ∀ s m x y F Q E, rep s m → lim s x y → Sub F m → Av F foot → (∀ s' z m', J s x y = (s', .ok z) → rep s' m' → Sub F m' → Q z.d m') → (∀ s' c d m', J s x y = (s', .error (c, d)) → rep s' m' → Sub F m' → E c d m') → DAct W 16 jd [x.d, y.d] [] [] m Q E
def growJ (J : S → S3 → S3 → S × ER S3) (b : Option S3) (n : S3) (s : S) : S × ER S3 := match b with
  | none => (s, .ok n)
  | some b => J s b n
def sngl (kept : List (Key × D)) (n : Int) : S3 := ⟨n, n + 1, (valD kept (.inl n)).getD .non⟩
def oldest (st : ES) : Int := match st.front.getLast? with
  | some x => x.f
  | none => match st.back with | some b => b.f | none => 0
def lastf (l : List S3) : Int := match l.getLast? with | some z => z.f | none => 0
def finS (st : ES) (l : List S3) : ES := if oldest st < lastf l then { st with fresh := some l } else ⟨l, st.later, none, none⟩
def idle (st : ES) : Bool := st.fresh.isNone && (match st.back with | none => true | some b => decide (b.e - b.f ≤ st.front.length))
def firstS (kept : List (Key × D)) (b : S3) (new : Option S3) : S3 := match new with
  | some w => if w.f = b.e - 1 then w else sngl kept (b.e - 1)
  | none => sngl kept (b.e - 1)
def stepJ (J : S → S3 → S3 → S × ER S3) (kept : List (Key × D)) (st : ES) (new : Option S3) (s : S) : S × ER ES :=
  if idle st then (s, .ok st) else match st.fresh with
    | none => (match st.back with | some b => (s, .ok (finS st [firstS kept b new])) | none => (s, .ok st))
    | some l => (match l.getLast? with
      | some z => if oldest st < z.f then (match J s (sngl kept (z.f - 1)) z with
          | (s', .ok y) => (s', .ok (finS st (l ++ [y])))
          | (s', .error e) => (s', .error e)) else (s, .ok (finS st l))
      | none => (s, .ok st))
/-- where the state lies -/
def StAt (m : M) (foot : Addr → Prop) (st : ES) (d : D) : Prop := ∃ p fq, d = .tup [.ref p, oD st.back, fq, oD st.later] ∧ m p = some (.lst (st.front.map S3.d)) ∧ ¬ foot p ∧ (match st.fresh with | none => fq = .non | some l => ∃ q, fq = .ref q ∧ m q = some (.lst (l.map S3.d)) ∧ ¬ foot q)
theorem StAt.sub {m m' : M} {foot : Addr → Prop} {st : ES} {d : D} (x : StAt m foot st d) (s : Sub m m') : StAt m' foot st d := by
  obtain ⟨p, fq, h1, h2, h3, h4⟩ := x
  refine ⟨p, fq, h1, s _ _ h2, h3, ?_⟩
  cases hf : st.fresh with
  | none => rw [hf] at h4; exact h4
  | some l => rw [hf] at h4; obtain ⟨q, e1, e2, e3⟩ := h4; exact ⟨q, e1, s _ _ e2, e3⟩
/-- what a step wants -/
structure SPre (kept : List (Key × D)) (st : ES) (new : Option S3) : Prop where
  fr : ∀ l, st.fresh = some l → l ≠ [] ∧ (st.front ≠ [] ∨ st.back ≠ none)
  k1 : ∀ b, st.fresh = none → st.back = some b → ¬ (b.e - b.f ≤ st.front.length) → (∃ w, new = some w ∧ w.f = b.e - 1) ∨ (valD kept (.inl (b.e - 1))).isSome
  k2 : ∀ l z, st.fresh = some l → l.getLast? = some z → oldest st < z.f → (valD kept (.inl (z.f - 1))).isSome
end
theorem atI_last {α : Type} {xs : List α} {z : α} (h : xs.getLast? = some z) : atI xs (-1) = some z := by
  have hn : xs ≠ [] := by intro e; rw [e] at h; cases h
  have hl : 0 < xs.length := List.length_pos_iff.mpr hn
  unfold atI ixN
  rw [List.getLast?_eq_getElem?] at h
  rw [if_neg (by decide), if_pos (by omega)]
  have : ((-1 : Int) + ((xs.length : Nat) : Int)).toNat = xs.length - 1 := by omega
  simp only [this, Option.bind_some]
  exact h
theorem last_map {l : List S3} {z : S3} (h : l.getLast? = some z) : (l.map S3.d).getLast? = some z.d := by rw [List.getLast?_map, h]; rfl
theorem last_ex {α : Type} {l : List α} (h : l ≠ []) : ∃ z, l.getLast? = some z := ⟨_, List.getLast?_eq_some_getLast h⟩
theorem emp_map {α β : Type} {l : List α} {f : α → β} : (l.map f).isEmpty = l.isEmpty := by cases l <;> rfl
theorem stepJ_idle {S : Type} {J : S → S3 → S3 → S × ER S3} {kept : List (Key × D)} {st : ES} {new : Option S3} {s : S} (h : idle st = true) : stepJ J kept st new s = (s, .ok st) := by unfold stepJ; rw [h]; rfl
theorem stepJ_first {S : Type} {J : S → S3 → S3 → S × ER S3} {kept : List (Key × D)} {st : ES} {new : Option S3} {s : S} {b : S3} (h : idle st = false) (h1 : st.fresh = none) (h2 : st.back = some b) : stepJ J kept st new s = (s, .ok (finS st [firstS kept b new])) := by
  unfold stepJ; rw [h, h1, h2]; rfl
theorem stepJ_rest {S : Type} {J : S → S3 → S3 → S × ER S3} {kept : List (Key × D)} {st : ES} {new : Option S3} {s : S} {l : List S3} {z : S3} (h : idle st = false) (h1 : st.fresh = some l) (h2 : l.getLast? = some z) (h3 : ¬ oldest st < z.f) : stepJ J kept st new s = (s, .ok (finS st l)) := by
  unfold stepJ; rw [h, h1]; simp only [h2, if_neg h3]; rfl
theorem stepJ_ok {S : Type} {J : S → S3 → S3 → S × ER S3} {kept : List (Key × D)} {st : ES} {new : Option S3} {s s' : S} {l : List S3} {z y : S3} (h : idle st = false) (h1 : st.fresh = some l) (h2 : l.getLast? = some z) (h3 : oldest st < z.f) (h4 : J s (sngl kept (z.f - 1)) z = (s', .ok y)) : stepJ J kept st new s = (s', .ok (finS st (l ++ [y]))) := by
  unfold stepJ; rw [h, h1]; simp only [h2, if_pos h3, h4]; rfl
theorem stepJ_err {S : Type} {J : S → S3 → S3 → S × ER S3} {kept : List (Key × D)} {st : ES} {new : Option S3} {s s' : S} {l : List S3} {z : S3} {e : Value × Option Addr} (h : idle st = false) (h1 : st.fresh = some l) (h2 : l.getLast? = some z) (h3 : oldest st < z.f) (h4 : J s (sngl kept (z.f - 1)) z = (s', .error e)) : stepJ J kept st new s = (s', .error e) := by
  unfold stepJ; rw [h, h1]; simp only [h2, if_pos h3, h4]; rfl
/-- m without what lies in foot -/
noncomputable def off (foot : Addr → Prop) (m : M) : M := open Classical in fun b => if foot b then none else m b
theorem off_sub {foot : Addr → Prop} {m : M} : Sub (off foot m) m := fun b o e => by
  unfold off at e
  split at e
  · cases e
  · exact e
theorem off_av {foot : Addr → Prop} {m : M} : Av (off foot m) foot := fun b h => by unfold off; exact if_pos h
theorem off_at {foot : Addr → Prop} {m : M} {b : Addr} {o : O} (n : ¬ foot b) (h : m b = some o) : off foot m b = some o := by unfold off; rw [if_neg n]; exact h
theorem StAt.off {m : M} {foot : Addr → Prop} {st : ES} {d : D} (x : StAt m foot st d) : StAt (off foot m) foot st d := by
  obtain ⟨p, fq, h1, h2, h3, h4⟩ := x
  refine ⟨p, fq, h1, off_at h3 h2, h3, ?_⟩
  cases hf : st.fresh with
  | none => rw [hf] at h4; exact h4
  | some l => rw [hf] at h4; obtain ⟨q, e1, e2, e3⟩ := h4; exact ⟨q, e1, off_at e3 e2, e3⟩
def Fr (foot : Addr → Prop) (m m' : M) : Prop := ∀ b o, ¬ foot b → m b = some o → m' b = some o
theorem Fr.of {foot : Addr → Prop} {m m' : M} (h : Sub (Sms.off foot m) m') : Fr foot m m' := fun b o n e => h b o (off_at n e)
theorem Fr.sub {foot : Addr → Prop} {m m' m2 : M} (h : Fr foot m m') (s : Sub m' m2) : Fr foot m m2 := fun b o n e => s b o (h b o n e)
theorem Fr.trans {foot : Addr → Prop} {m m' m2 : M} (h : Fr foot m m') (s : Fr foot m' m2) : Fr foot m m2 := fun b o n e => s b o n (h b o n e)
theorem Fr.of_sub {foot : Addr → Prop} {m m' : M} (h : Sub m m') : Fr foot m m' := fun b o _ e => h b o e
def addJ {S : Type} (J : S → S3 → S3 → S × ER S3) (kept : List (Key × D)) (st : ES) (n : S3) (s : S) : S × ER ES := match st.fresh with
  | none => (match growJ J st.back n s with
    | (s1, .ok b) => stepJ J kept ⟨st.front, some b, none, none⟩ (some n) s1
    | (s1, .error e) => (s1, .error e))
  | some l => (match growJ J st.later n s with
    | (s1, .ok b) => stepJ J kept ⟨st.front, st.back, some l, some b⟩ (some n) s1
    | (s1, .error e) => (s1, .error e))
def remJ {S : Type} (J : S → S3 → S3 → S × ER S3) (kept : List (Key × D)) (st : ES) (s : S) : S × ER ES := stepJ J kept ⟨st.front.dropLast, st.back, st.fresh, st.later⟩ none s
def partsE (st : ES) : List S3 := st.front.getLast?.toList ++ (st.back.toList ++ st.later.toList)
def wholeJ {S : Type} (J : S → S3 → S3 → S × ER S3) : S3 → List S3 → S → S × ER S3
  | x, [], s => (s, .ok x)
  | x, y :: r, s => match J s x y with
    | (s1, .ok z) => wholeJ J z r s1
    | (s1, .error e) => (s1, .error e)
/-- the join of a step is within the line -/
def sLim {S : Type} (lim : S → S3 → S3 → Prop) (kept : List (Key × D)) (st : ES) (s : S) : Prop := ∀ l z, st.fresh = some l → l.getLast? = some z → oldest st < z.f → lim s (sngl kept (z.f - 1)) z
/-- what an addition wants -/
structure APre {S : Type} (J : S → S3 → S3 → S × ER S3) (lim : S → S3 → S3 → Prop) (kept : List (Key × D)) (st : ES) (n : S3) (s : S) : Prop where
  l1 : ∀ b, st.fresh = none → st.back = some b → lim s b n
  l2 : ∀ b l, st.fresh = some l → st.later = some b → lim s b n
  a : ∀ s1 b, st.fresh = none → growJ J st.back n s = (s1, .ok b) → SPre kept ⟨st.front, some b, none, none⟩ (some n) ∧ sLim lim kept ⟨st.front, some b, none, none⟩ s1
  b : ∀ s1 b l, st.fresh = some l → growJ J st.later n s = (s1, .ok b) → SPre kept ⟨st.front, st.back, some l, some b⟩ (some n) ∧ sLim lim kept ⟨st.front, st.back, some l, some b⟩ s1
theorem cut_init {α : Type} {l : List α} : G.cutD l none (some (-1)) = l.dropLast := by
  unfold G.cutD
  have h1 : HT.sIx l.length 0 none = 0 := rfl
  have h2 : HT.sIx l.length l.length (some (-1)) = l.length - 1 := by unfold HT.sIx; simp; omega
  rw [h1, h2, List.drop_zero, Nat.sub_zero, List.dropLast_eq_take]
theorem cut_last {α : Type} {l : List α} : G.cutD l (some (-1)) none = l.getLast?.toList := by
  unfold G.cutD
  have h1 : HT.sIx l.length 0 (some (-1)) = l.length - 1 := by unfold HT.sIx; simp; omega
  have h2 : HT.sIx l.length l.length none = l.length := rfl
  rw [h1, h2]
  rcases List.eq_nil_or_concat l with e | ⟨r, z, e⟩
  · rw [e]; rfl
  · rw [e]
    simp
theorem cut_tail {α : Type} {x : α} {l : List α} : G.cutD (x :: l) (some 1) none = l := by
  unfold G.cutD
  have h1 : HT.sIx (x :: l).length 0 (some 1) = 1 := by unfold HT.sIx; simp
  have h2 : HT.sIx (x :: l).length (x :: l).length none = (x :: l).length := rfl
  rw [h1, h2]
  simp
theorem av_put {F : M} {foot : Addr → Prop} {p : Addr} {o : O} (h : Av F foot) (n : ¬ foot p) : Av (put F p o) foot := fun b hb => by
  have hne : b ≠ p := fun e => n (by rw [← e]; exact hb)
  rw [put_ne hne]; exact h b hb
theorem sub_put2 {F m : M} {p : Addr} {o : O} (h : Sub F m) : Sub (put F p o) (put m p o) := fun b x e => by
  by_cases hb : b = p
  · subst hb; rw [put_same] at e ⊢; exact e
  · rw [put_ne hb] at e ⊢; exact h _ _ e
theorem sub_nil {F m : M} {p : Addr} (h : Sub F m) (n : m p = none) : F p = none := by
  cases e : F p with
  | none => rfl
  | some o => rw [h _ _ e] at n; cases n
theorem lc_nn {ok : M → Prop} {i : Nat} {δ : DSt} (hi : i < δ.length) {b : Addr} {Q : DK} {m0 : M} (hok : ∀ ys, ok (put m0 b (.lst ys))) : ∀ (l : List (Option S3)) (acc : List D), acc.length + l.length < sizeLine → Q (.ref b) (put m0 b (.lst (acc ++ (l.filterMap id).map S3.d))) →
    lcR ok (.one i) (dTest (dOp dNotN (dVar i) (dC D.non))) (dVar i) [i] δ b Q (l.map oD) acc (put m0 b (.lst acc))
  | [], acc, _, q => ⟨hok _, put_same, by simpa using q⟩
  | none :: r, acc, hl, q => by
    refine ⟨hok _, .non, ?_, rfl, _, rfl, ?_⟩
    · show ((dwipe δ [i]).set i _)[i]? = _
      simp [dwipe, hi, oD]
    · show ite ((!G.isNon D.non) = true) _ _
      rw [if_neg (show ¬ (!G.isNon D.non) = true by decide)]
      exact lc_nn hi hok r acc (by simp at hl; omega) (by simpa using q)
  | some x :: r, acc, hl, q => by
    have hx : ((dwipe δ [i]).set i (some (oD (some x))))[i]? = some (some x.d) := by simp [dwipe, hi, oD]
    refine ⟨hok _, x.d, hx, rfl, _, rfl, ?_⟩
    show ite ((!G.isNon x.d) = true) _ _
    rw [if_pos (show (!G.isNon x.d) = true from rfl)]
    refine ⟨x.d, hx, put_same, by simp at hl; omega, ?_⟩
    have e : put (put m0 b (.lst acc)) b (.lst (acc ++ [x.d])) = put m0 b (.lst (acc ++ [x.d])) := by
      funext c
      by_cases hc : c = b
      · subst hc; rw [put_same, put_same]
      · rw [put_ne hc, put_ne hc, put_ne hc]
    rw [e]
    exact lc_nn hi hok r (acc ++ [x.d]) (by simp at hl ⊢; omega) (by simpa using q)
theorem parts_opt {st : ES} : ((st.front.getLast?.toList.map some ++ [st.back, st.later]).filterMap id) = partsE st := by
  unfold partsE
  cases st.front.getLast? <;> cases st.back <;> cases st.later <;> rfl
theorem parts_d {st : ES} : (st.front.getLast?.toList.map some ++ [st.back, st.later]).map oD = G.cutD (st.front.map S3.d) (some (-1)) none ++ [oD st.back, oD st.later] := by
  rw [cut_last, List.getLast?_map]
  cases st.front.getLast? <;> rfl
def wLim {S : Type} (J : S → S3 → S3 → S × ER S3) (lim : S → S3 → S3 → Prop) : S3 → List S3 → S → Prop
  | _, [], _ => True
  | x, y :: r, s => lim s x y ∧ ∀ s1 z, J s x y = (s1, .ok z) → wLim J lim z r s1
/-- a user's function of two arguments -/
structure UB (W : Wo) (ud : D) {U : Type} (urep : U → M → Prop) (ufoot : Addr → Prop) (ulim : U → D → D → Prop) (g : U → D → D → U × ER D) : Prop where
  keep : ∀ u m, urep u m → KeepD W.K m ud
  loc : ∀ u m m', urep u m → (∀ b o, ufoot b → m b = some o → m' b = some o) → urep u m'
  dom : ∀ u m b, urep u m → ufoot b → m b ≠ none
  run : ∀ u m x y F Q E, urep u m → ulim u x y → Sub F m → Av F ufoot → (∀ u' z m', g u x y = (u', .ok z) → urep u' m' → Sub F m' → Q z m') → (∀ u' c d m', g u x y = (u', .error (c, d)) → urep u' m' → Sub F m' → E c d m') → DAct W 10 ud [x, y] [] [] m Q E
def jE (x y : S3) : D := .tup [.str "join", .tup [.int x.f, .int x.e], .tup [.int y.f, .int y.e]]
def JU {U : Type} (g : U → D → D → U × ER D) : U × List D → S3 → S3 → (U × List D) × ER S3 := fun s x y => match g s.1 x.v y.v with
  | (u', .ok v) => ((u', s.2 ++ [jE x y]), .ok ⟨x.f, y.e, v⟩)
  | (u', .error e) => ((u', s.2), .error e)
def limU {U : Type} (ulim : U → D → D → Prop) : U × List D → S3 → S3 → Prop := fun s x y => ulim s.1 x.v y.v ∧ s.2.length < sizeLine
theorem val_some {κ : Type} [DecidableEq κ] : ∀ {kvs : List (κ × D)} {k : κ}, k ∈ kvs.map (·.1) → (valD kvs k).isSome
  | (j, d) :: r, k, h => by
    unfold valD
    by_cases e : j = k
    · rw [if_pos e]; rfl
    · rw [if_neg e]
      refine val_some ?_
      rcases List.mem_cons.mp h with h | h
      · exact absurd h.symm e
      · exact h
theorem cut_to {α : Type} {l : List α} {n : Int} (h : 0 ≤ n) : G.cutD l none (some n) = l.take n.toNat := by
  unfold G.cutD
  have h1 : HT.sIx l.length 0 none = 0 := rfl
  have h2 : HT.sIx l.length l.length (some n) = min n.toNat l.length := by unfold HT.sIx; simp; omega
  rw [h1, h2, List.drop_zero, Nat.sub_zero, ← List.take_take, List.take_length]
end Sms
/-! the plain law of k62: the queue's state stays in order, and a call joins no more than the law allows -/
namespace M62
open PySem PySem.Spec PyProof.Rows L2 G NdefX LamX Sms
/-- the sum of the members from f to e - 1, by sums from the beginning -/
def sm (P : Int → Int) (f e : Int) : S3 := ⟨f, e, .int (P e - P f)⟩
def lad (P : Int → Int) (mid : Int) (n : Nat) : List S3 := (List.range n).map fun j => sm P (mid - 1 - (j : Nat)) mid
theorem lad_succ {P : Int → Int} {mid : Int} {n : Nat} : lad P mid (n + 1) = lad P mid n ++ [sm P (mid - 1 - (n : Nat)) mid] := by
  unfold lad; rw [List.range_succ, List.map_append]; rfl
theorem lad_len {P : Int → Int} {mid : Int} {n : Nat} : (lad P mid n).length = n := by unfold lad; simp
theorem lad_last {P : Int → Int} {mid : Int} {n : Nat} : (lad P mid (n + 1)).getLast? = some (sm P (mid - 1 - (n : Nat)) mid) := by rw [lad_succ]; simp
theorem lad_drop {P : Int → Int} {mid : Int} {n : Nat} : (lad P mid (n + 1)).dropLast = lad P mid n := by rw [lad_succ]; simp
theorem lad_zero {P : Int → Int} {mid : Int} : lad P mid 0 = [] := rfl
theorem lad_one {P : Int → Int} {mid : Int} : lad P mid 1 = [sm P (mid - 1) mid] := by
  rw [lad_succ, lad_zero, show mid - 1 - ((0 : Nat) : Int) = mid - 1 by omega]; rfl
theorem lad_ne {P : Int → Int} {mid : Int} {n : Nat} (h : 1 ≤ n) : lad P mid n ≠ [] := by
  intro z
  have := congrArg List.length z
  rw [lad_len] at this
  simp at this; omega
def oS (P : Int → Int) (f e : Int) : Option S3 := if f = e then none else some (sm P f e)
theorem oS_same {P : Int → Int} {f : Int} : oS P f f = none := if_pos rfl
theorem oS_ne {P : Int → Int} {f e : Int} (h : f ≠ e) : oS P f e = some (sm P f e) := if_neg h
/-- the state between two calls -/
inductive Inv (P : Int → Int) (lo hi : Int) (st : ES) : Prop
  | calm (mid : Int) (F : Nat) (h1 : lo = mid - (F : Nat)) (h2 : st = ⟨lad P mid F, oS P mid hi, none, none⟩) (h3 : mid ≤ hi) (h4 : hi - mid ≤ (F : Nat)) : Inv P lo hi st
  | busy (mid e : Int) (F L : Nat) (h1 : lo = mid - (F : Nat)) (h2 : st = ⟨lad P mid F, some (sm P mid e), some (lad P e L), oS P e hi⟩) (h3 : mid < e) (h4 : e ≤ hi) (h5 : 1 ≤ L) (h6 : 0 < e - (L : Nat) - lo) (h7 : e - (L : Nat) - lo ≤ 2 * (F : Nat)) (h8 : hi - e + 1 ≤ (L : Nat)) : Inv P lo hi st
/-- the state ahead of a step -/
inductive Pre (P : Int → Int) (lo hi : Int) (st : ES) : Prop
  | calm (mid : Int) (F : Nat) (h1 : lo = mid - (F : Nat)) (h2 : st = ⟨lad P mid F, oS P mid hi, none, none⟩) (h3 : mid ≤ hi) (h4 : hi - mid ≤ (F : Nat) + 1) : Pre P lo hi st
  | busy (mid e : Int) (F L : Nat) (h1 : lo = mid - (F : Nat)) (h2 : st = ⟨lad P mid F, some (sm P mid e), some (lad P e L), oS P e hi⟩) (h3 : mid < e) (h4 : e ≤ hi) (h5 : 1 ≤ L) (h6 : 0 ≤ e - (L : Nat) - lo) (h7 : e - (L : Nat) - lo ≤ 2 * (F : Nat) + 1) (h8 : hi - e ≤ (L : Nat)) : Pre P lo hi st
theorem old_lo {P : Int → Int} {lo mid e : Int} {F : Nat} {fs : Option (List S3)} {lt : Option S3} (h : lo = mid - (F : Nat)) : oldest ⟨lad P mid F, some (sm P mid e), fs, lt⟩ = lo := by
  cases F with
  | zero => unfold oldest; rw [lad_zero]; show mid = lo; simp at h; omega
  | succ n => unfold oldest; rw [lad_last]; show mid - 1 - (n : Nat) = lo; omega
/-- how a join acts -/
structure Acts {S : Type} (P : Int → Int) (J : S → S3 → S3 → S × ER S3) (good : S → Prop) (cnt : S → Nat) : Prop where
  j : ∀ s f m e, good s → ∃ s', J s (sm P f m) (sm P m e) = (s', .ok (sm P f e)) ∧ good s' ∧ cnt s' = cnt s + 1
def Has (P : Int → Int) (kept : List (Key × D)) (lo hi : Int) : Prop := ∀ k, lo ≤ k → k < hi → valD kept (.inl k) = some (.int (P (k + 1) - P k))
theorem Has.sngl {P : Int → Int} {kept : List (Key × D)} {lo hi k : Int} (h : Has P kept lo hi) (h1 : lo ≤ k) (h2 : k < hi) : sngl kept k = sm P k (k + 1) := by
  unfold Sms.sngl sm
  rw [h k h1 h2]; rfl
section
variable {S : Type} {P : Int → Int} {J : S → S3 → S3 → S × ER S3} {good : S → Prop} {cnt : S → Nat} {kept : List (Key × D)} {lo hi : Int} {st : ES} {new : Option S3} {s : S}
/-- new, or what is kept, tells the newest member -/
def NewOk (P : Int → Int) (kept : List (Key × D)) (lo hi : Int) (new : Option S3) : Prop := (new = none ∧ Has P kept lo hi) ∨ (new = some (sm P (hi - 1) hi) ∧ Has P kept lo (hi - 1))
theorem NewOk.has (h : NewOk P kept lo hi new) : Has P kept lo (hi - 1) := by
  rcases h with ⟨_, h⟩ | ⟨_, h⟩
  · exact fun k h1 h2 => h k h1 (by omega)
  · exact h
theorem step_pre (h : Pre P lo hi st) (hn : NewOk P kept lo hi new) : SPre kept st new := by
  cases h with
  | calm mid F h1 h2 h3 h4 =>
    subst h2
    refine ⟨fun l z => (by cases z), fun b _ hb hnl => ?_, fun l z z2 => (by cases z2)⟩
    have hb : oS P mid hi = some b := hb
    by_cases hm : mid = hi
    · rw [hm, oS_same] at hb; cases hb
    · rw [oS_ne hm] at hb
      cases hb
      rcases hn with ⟨_, h⟩ | ⟨e, _⟩
      · refine .inr ?_
        show (valD kept (.inl (hi - 1))).isSome
        rw [h (hi - 1) (by omega) (by omega)]; rfl
      · exact .inl ⟨_, e, rfl⟩
  | busy mid e F L h1 h2 h3 h4 h5 h6 h7 h8 =>
    subst h2
    refine ⟨fun l z => ?_, fun b z => (by cases z), fun l z z2 z3 z4 => ?_⟩
    · cases z
      exact ⟨lad_ne h5, .inr (by simp)⟩
    · cases z2
      obtain ⟨n, rfl⟩ : ∃ n, L = n + 1 := ⟨L - 1, by omega⟩
      rw [lad_last] at z3
      cases z3
      rw [old_lo h1] at z4
      have z4 : lo < e - 1 - (n : Nat) := z4
      show (valD kept (.inl (e - 1 - (n : Nat) - 1))).isSome
      rw [hn.has _ (by omega) (by omega)]; rfl
theorem step_ok (A : Acts P J good cnt) (h : Pre P lo hi st) (hn : NewOk P kept lo hi new) (hg : good s) : ∃ s' st', stepJ J kept st new s = (s', .ok st') ∧ Inv P lo hi st' ∧ good s' ∧ cnt s ≤ cnt s' ∧ cnt s' ≤ cnt s + 1 := by
  cases h with
  | calm mid F h1 h2 h3 h4 =>
    subst h2
    by_cases hm : mid = hi
    · subst hm
      refine ⟨s, _, stepJ_idle ?_, .calm mid F h1 rfl (by omega) (by omega), hg, by omega, by omega⟩
      unfold idle; rw [oS_same]; rfl
    · by_cases hl : hi - mid ≤ (F : Nat)
      · refine ⟨s, _, stepJ_idle ?_, .calm mid F h1 rfl h3 hl, hg, by omega, by omega⟩
        unfold idle; rw [oS_ne hm]
        simp only [Option.isNone_none, Bool.true_and, decide_eq_true_eq]
        show hi - mid ≤ _
        rw [lad_len]; exact hl
      · have hid : idle ⟨lad P mid F, oS P mid hi, none, none⟩ = false := by
          unfold idle; rw [oS_ne hm]
          simp only [Option.isNone_none, Bool.true_and, decide_eq_false_iff_not]
          show ¬ (hi - mid ≤ _)
          rw [lad_len]; exact hl
        have hf : firstS kept (sm P mid hi) new = sm P (hi - 1) hi := by
          rcases hn with ⟨e, h⟩ | ⟨e, _⟩
          · subst e
            unfold firstS
            show Sms.sngl kept (hi - 1) = _
            rw [h.sngl (by omega) (by omega), show hi - 1 + 1 = hi by omega]
          · subst e
            unfold firstS
            show (if hi - 1 = hi - 1 then _ else _) = _
            rw [if_pos rfl]
        refine ⟨s, _, stepJ_first (b := sm P mid hi) hid rfl (oS_ne hm), ?_, hg, by omega, by omega⟩
        rw [hf]
        unfold finS
        rw [oS_ne hm, old_lo h1]
        show Inv P lo hi (if lo < hi - 1 then _ else _)
        split
        · rename_i hlt
          refine .busy mid hi F 1 h1 ?_ (by omega) (by omega) (by omega) (by omega) (by omega) (by omega)
          rw [lad_one, oS_same]
        · rename_i hlt
          refine .calm hi 1 (by omega) ?_ (by omega) (by omega)
          rw [lad_one, oS_same]
  | busy mid e F L h1 h2 h3 h4 h5 h6 h7 h8 =>
    subst h2
    obtain ⟨n, rfl⟩ : ∃ n, L = n + 1 := ⟨L - 1, by omega⟩
    have hid : idle ⟨lad P mid F, some (sm P mid e), some (lad P e (n + 1)), oS P e hi⟩ = false := rfl
    by_cases hlt : lo < e - 1 - (n : Nat)
    · obtain ⟨s', e1, g1, c1⟩ := A.j s (e - 1 - (n : Nat) - 1) (e - 1 - (n : Nat)) e hg
      refine ⟨s', _, stepJ_ok hid rfl lad_last (by rw [old_lo h1]; exact hlt) (y := sm P (e - 1 - (n : Nat) - 1) e) ?_, ?_, g1, by omega, by omega⟩
      · show J s (Sms.sngl kept (e - 1 - (n : Nat) - 1)) _ = _
        rw [hn.has.sngl (by omega) (by omega), show e - 1 - (n : Nat) - 1 + 1 = e - 1 - (n : Nat) by omega]
        exact e1
      · have e2 : lad P e (n + 1) ++ [sm P (e - 1 - (n : Nat) - 1) e] = lad P e (n + 2) := by
          rw [lad_succ (n := n + 1), show e - 1 - ((n + 1 : Nat) : Int) = e - 1 - (n : Nat) - 1 by omega]
        rw [e2]
        unfold finS
        rw [old_lo h1]
        have e3 : lastf (lad P e (n + 2)) = e - 1 - (n : Nat) - 1 := by
          unfold lastf; rw [lad_last]; show e - 1 - ((n + 1 : Nat) : Int) = _; omega
        rw [e3]
        split
        · exact .busy mid e F (n + 2) h1 rfl h3 h4 (by omega) (by omega) (by omega) (by omega)
        · exact .calm e (n + 2) (by omega) rfl h4 (by omega)
    · refine ⟨s, _, stepJ_rest hid rfl lad_last (by rw [old_lo h1]; exact hlt), ?_, hg, by omega, by omega⟩
      unfold finS
      have e3 : lastf (lad P e (n + 1)) = e - 1 - (n : Nat) := by unfold lastf; rw [lad_last]; rfl
      rw [old_lo h1, e3, if_neg hlt]
      exact .calm e (n + 1) (by omega) rfl h4 (by omega)
theorem grow_ok (A : Acts P J good cnt) {f h : Int} (hg : good s) : ∃ s', growJ J (oS P f h) (sm P h (h + 1)) s = (s', .ok (sm P f (h + 1))) ∧ good s' ∧ cnt s ≤ cnt s' ∧ cnt s' ≤ cnt s + 1 := by
  by_cases e : f = h
  · subst e
    rw [oS_same]
    exact ⟨s, rfl, hg, by omega, by omega⟩
  · rw [oS_ne e]
    obtain ⟨s', e1, g1, c1⟩ := A.j s f h (h + 1) hg
    exact ⟨s', e1, g1, by omega, by omega⟩
theorem pre_calm {mid : Int} {F : Nat} (h1 : lo = mid - (F : Nat)) (h3 : mid ≤ hi) (h4 : hi - mid ≤ (F : Nat)) : Pre P lo (hi + 1) ⟨lad P mid F, some (sm P mid (hi + 1)), none, none⟩ :=
  .calm mid F h1 (by rw [oS_ne (by omega)]) (by omega) (by omega)
theorem pre_busy {mid e : Int} {F L : Nat} (h1 : lo = mid - (F : Nat)) (h3 : mid < e) (h4 : e ≤ hi) (h5 : 1 ≤ L) (h6 : 0 < e - (L : Nat) - lo) (h7 : e - (L : Nat) - lo ≤ 2 * (F : Nat)) (h8 : hi - e + 1 ≤ (L : Nat)) : Pre P lo (hi + 1) ⟨lad P mid F, some (sm P mid e), some (lad P e L), some (sm P e (hi + 1))⟩ :=
  .busy mid e F L h1 (by rw [oS_ne (by omega)]) h3 (by omega) h5 (by omega) (by omega) (by omega)
theorem new_ok (hk : Has P kept lo hi) : NewOk P kept lo (hi + 1) (some (sm P hi (hi + 1))) := .inr ⟨by rw [show hi + 1 - 1 = hi by omega], by rw [show hi + 1 - 1 = hi by omega]; exact hk⟩
theorem add_ok (A : Acts P J good cnt) (h : Inv P lo hi st) (hk : Has P kept lo hi) (hg : good s) : ∃ s' st', addJ J kept st (sm P hi (hi + 1)) s = (s', .ok st') ∧ Inv P lo (hi + 1) st' ∧ good s' ∧ cnt s ≤ cnt s' ∧ cnt s' ≤ cnt s + 2 := by
  cases h with
  | calm mid F h1 h2 h3 h4 =>
    subst h2
    obtain ⟨s1, e1, g1, c1, c2⟩ := grow_ok A (s := s) (f := mid) (h := hi) hg
    obtain ⟨s2, st2, e2, i2, g2, c3, c4⟩ := step_ok (kept := kept) A (pre_calm (P := P) h1 h3 h4) (new_ok hk) g1
    exact ⟨s2, st2, by unfold addJ; simp only [e1]; exact e2, i2, g2, by omega, by omega⟩
  | busy mid e F L h1 h2 h3 h4 h5 h6 h7 h8 =>
    subst h2
    obtain ⟨s1, e1, g1, c1, c2⟩ := grow_ok A (s := s) (f := e) (h := hi) hg
    obtain ⟨s2, st2, e2, i2, g2, c3, c4⟩ := step_ok (kept := kept) A (pre_busy (P := P) h1 h3 h4 h5 h6 h7 h8) (new_ok hk) g1
    exact ⟨s2, st2, by unfold addJ; simp only [e1]; exact e2, i2, g2, by omega, by omega⟩
theorem rem_pre (h : Inv P lo hi st) (hl : lo < hi) : Pre P (lo + 1) hi ⟨st.front.dropLast, st.back, st.fresh, st.later⟩ := by
  cases h with
  | calm mid F h1 h2 h3 h4 =>
    subst h2
    obtain ⟨n, rfl⟩ : ∃ n, F = n + 1 := ⟨F - 1, by omega⟩
    exact .calm mid n (by omega) (by simp only [lad_drop]) h3 (by omega)
  | busy mid e F L h1 h2 h3 h4 h5 h6 h7 h8 =>
    subst h2
    obtain ⟨n, rfl⟩ : ∃ n, F = n + 1 := ⟨F - 1, by omega⟩
    exact .busy mid e n L (by omega) (by simp only [lad_drop]) h3 h4 h5 (by omega) (by omega) (by omega)
theorem Has.up {a : Int} (h : Has P kept lo hi) (ha : lo ≤ a) : Has P kept a hi := fun k h1 h2 => h k (by omega) h2
theorem rem_ok (A : Acts P J good cnt) (h : Inv P lo hi st) (hl : lo < hi) (hk : Has P kept lo hi) (hg : good s) : ∃ s' st', remJ J kept st s = (s', .ok st') ∧ Inv P (lo + 1) hi st' ∧ good s' ∧ cnt s ≤ cnt s' ∧ cnt s' ≤ cnt s + 1 := by
  obtain ⟨s2, st2, e2, i2, g2, c3, c4⟩ := step_ok (kept := kept) (new := none) A (rem_pre h hl) (.inl ⟨rfl, hk.up (by omega)⟩) hg
  exact ⟨s2, st2, e2, i2, g2, c3, c4⟩
/-- joins are within the line -/
def Lims (P : Int → Int) (lim : S → S3 → S3 → Prop) (good : S → Prop) (cnt : S → Nat) : Prop := ∀ s f m e, good s → cnt s < 100000 → lim s (sm P f m) (sm P m e)
variable {lim : S → S3 → S3 → Prop}
theorem step_lim (hL : Lims P lim good cnt) (h : Pre P lo hi st) (hk : Has P kept lo (hi - 1)) (hg : good s) (hc : cnt s < 100000) : sLim lim kept st s := by
  intro l z hl hz hlt
  cases h with
  | calm mid F h1 h2 h3 h4 => subst h2; cases hl
  | busy mid e F L h1 h2 h3 h4 h5 h6 h7 h8 =>
    subst h2
    cases hl
    obtain ⟨n, rfl⟩ : ∃ n, L = n + 1 := ⟨L - 1, by omega⟩
    rw [lad_last] at hz
    cases hz
    rw [old_lo h1] at hlt
    have hlt : lo < e - 1 - (n : Nat) := hlt
    show lim s (Sms.sngl kept (e - 1 - (n : Nat) - 1)) _
    rw [hk.sngl (by omega) (by omega), show e - 1 - (n : Nat) - 1 + 1 = e - 1 - (n : Nat) by omega]
    exact hL s _ _ _ hg hc
theorem add_pre (A : Acts P J good cnt) (hL : Lims P lim good cnt) (h : Inv P lo hi st) (hk : Has P kept lo hi) (hg : good s) (hc : cnt s < 99999) : APre J lim kept st (sm P hi (hi + 1)) s := by
  have hk2 : Has P kept lo (hi + 1 - 1) := by rw [show hi + 1 - 1 = hi by omega]; exact hk
  cases h with
  | calm mid F h1 h2 h3 h4 =>
    subst h2
    obtain ⟨s1, e1, g1, c1, c2⟩ := grow_ok A (s := s) (f := mid) (h := hi) hg
    refine ⟨fun b _ hb => ?_, fun b l z => (by cases z), fun s2 b _ e => ?_, fun s2 b l z => (by cases z)⟩
    · have hb : oS P mid hi = some b := hb
      by_cases hm : mid = hi
      · rw [hm, oS_same] at hb; cases hb
      · rw [oS_ne hm] at hb; cases hb
        exact hL s _ _ _ hg (by omega)
    · rw [e1] at e
      cases e
      have p := pre_calm (P := P) h1 h3 h4
      exact ⟨step_pre p (new_ok hk), step_lim hL p hk2 g1 (by omega)⟩
  | busy mid e F L h1 h2 h3 h4 h5 h6 h7 h8 =>
    subst h2
    obtain ⟨s1, e1, g1, c1, c2⟩ := grow_ok A (s := s) (f := e) (h := hi) hg
    refine ⟨fun b z => (by cases z), fun b l _ hb => ?_, fun s2 b z => (by cases z), fun s2 b l z e' => ?_⟩
    · have hb : oS P e hi = some b := hb
      by_cases hm : e = hi
      · rw [hm, oS_same] at hb; cases hb
      · rw [oS_ne hm] at hb; cases hb
        exact hL s _ _ _ hg (by omega)
    · cases z
      rw [e1] at e'
      cases e'
      have p := pre_busy (P := P) h1 h3 h4 h5 h6 h7 h8
      exact ⟨step_pre p (new_ok hk), step_lim hL p hk2 g1 (by omega)⟩
theorem rem_lim (hL : Lims P lim good cnt) (h : Inv P lo hi st) (hl : lo < hi) (hk : Has P kept lo hi) (hg : good s) (hc : cnt s < 100000) : SPre kept ⟨st.front.dropLast, st.back, st.fresh, st.later⟩ none ∧ sLim lim kept ⟨st.front.dropLast, st.back, st.fresh, st.later⟩ s :=
  ⟨step_pre (rem_pre h hl) (.inl ⟨rfl, hk.up (by omega)⟩), step_lim hL (rem_pre h hl) (fun k h1 h2 => hk k (by omega) (by omega)) hg hc⟩
theorem fresh_len (h : Inv P lo hi st) : ∀ l, st.fresh = some l → (l.length : Int) ≤ hi - lo := by
  intro l hl
  cases h with
  | calm mid F h1 h2 h3 h4 => subst h2; cases hl
  | busy mid e F L h1 h2 h3 h4 h5 h6 h7 h8 =>
    subst h2; cases hl
    rw [lad_len]; omega
/-- sums that lie side by side -/
inductive Chn (P : Int → Int) : Int → List S3 → Int → Prop
  | nil (f : Int) : Chn P f [] f
  | cons (f m e : Int) (l : List S3) (h : Chn P m l e) : Chn P f (sm P f m :: l) e
theorem Chn.app {f m e : Int} {l r : List S3} (h : Chn P f l m) (k : Chn P m r e) : Chn P f (l ++ r) e := by
  induction h with
  | nil => exact k
  | cons f m _ l _ ih => exact .cons _ _ _ _ (ih k)
theorem oS_chn {f e : Int} : Chn P f (oS P f e).toList e := by
  by_cases h : f = e
  · subst h; rw [oS_same]; exact .nil _
  · rw [oS_ne h]; exact .cons _ _ _ _ (.nil _)
theorem oS_len {f e : Int} : (oS P f e).toList.length ≤ 1 := by unfold oS; split <;> simp
theorem lad_chn {mid : Int} {F : Nat} (h : lo = mid - (F : Nat)) : Chn P lo (lad P mid F).getLast?.toList mid := by
  cases F with
  | zero => rw [show lo = mid by simp at h; exact h]; exact .nil _
  | succ n => rw [lad_last, show mid - 1 - (n : Nat) = lo by omega]; exact .cons _ _ _ _ (.nil _)
theorem parts_ok (h : Inv P lo hi st) : Chn P lo (partsE st) hi ∧ (partsE st).length ≤ 3 := by
  have l1 : ∀ (x : Option S3), x.toList.length ≤ 1 := fun x => by cases x <;> simp
  constructor
  · cases h with
    | calm mid F h1 h2 h3 h4 => subst h2; unfold partsE; exact (lad_chn h1).app (by simpa using oS_chn)
    | busy mid e F L h1 h2 h3 h4 h5 h6 h7 h8 => subst h2; unfold partsE; exact (lad_chn h1).app (.cons _ _ _ _ oS_chn)
  · unfold partsE
    rw [List.length_append, List.length_append]
    have a := l1 st.front.getLast?
    have b := l1 st.back
    have c := l1 st.later
    omega
theorem whole_ok (A : Acts P J good cnt) {f m e : Int} {l : List S3} (h : Chn P m l e) : ∀ {s : S}, good s → ∃ s', wholeJ J (sm P f m) l s = (s', .ok (sm P f e)) ∧ good s' ∧ cnt s' = cnt s + l.length := by
  induction h with
  | nil m => exact fun {s} hg => ⟨s, rfl, hg, rfl⟩
  | cons m m2 e l _ ih =>
    intro s hg
    obtain ⟨s1, e1, g1, c1⟩ := A.j s f m m2 hg
    obtain ⟨s2, e2, g2, c2⟩ := ih g1
    exact ⟨s2, by unfold wholeJ; simp only [e1]; exact e2, g2, by simp; omega⟩
theorem whole_lim (A : Acts P J good cnt) (hL : Lims P lim good cnt) {f m e : Int} {l : List S3} (h : Chn P m l e) : ∀ {s : S}, good s → cnt s + l.length < 100000 → wLim J lim (sm P f m) l s := by
  induction h with
  | nil m => exact fun {s} hg hc => trivial
  | cons m m2 e l _ ih =>
    intro s hg hc
    simp at hc
    refine ⟨hL _ _ _ _ hg (by omega), fun s1 z e1 => ?_⟩
    obtain ⟨s2, e2, g2, c2⟩ := A.j s f m m2 hg
    rw [e2] at e1
    cases e1
    exact ih g2 (by omega)
end
/-- the counting join -/
def gC : Int → D → D → Int × ER D
  | u, .int x, .int y => (u + 1, .ok (.int (x + y)))
  | u, _, _ => (u, .ok .non)
def limC (_ : Int) (x y : D) : Prop := ∃ i j, x = .int i ∧ y = .int j
def goodC (s : Int × List D) : Prop := s.1 = (s.2.length : Nat)
theorem actsC {P : Int → Int} : Acts P (JU gC) goodC (fun s => s.2.length) := ⟨fun s f m e hg => by
  obtain ⟨u, es⟩ := s
  refine ⟨(u + 1, es ++ [jE (sm P f m) (sm P m e)]), ?_, ?_, by simp⟩
  · show ((u + 1, es ++ [jE (sm P f m) (sm P m e)]), Except.ok (S3.mk f e (.int (P m - P f + (P e - P m))))) = _
    unfold sm
    rw [show P m - P f + (P e - P m) = P e - P f by omega]
  · show u + 1 = _
    have : u = (es.length : Nat) := hg
    simp; omega⟩
theorem limsC {P : Int → Int} : Lims P (limU limC) goodC (fun s => s.2.length) := fun s f m e hg hc => ⟨⟨_, _, rfl, rfl⟩, Nat.lt_of_lt_of_le hc (by decide)⟩
end M62
namespace M62
open PySem PySem.Spec PyProof.Rows L2 G NdefX LamX Sms
def pS : Nat → Int
  | 0 => 0
  | n + 1 => pS n + ((n : Int) * (n : Int) + 1)
def PP (k : Int) : Int := pS k.toNat
theorem PP_succ {k : Int} (h : 0 ≤ k) : PP (k + 1) - PP k = k * k + 1 := by
  unfold PP
  rw [show (k + 1).toNat = k.toNat + 1 by omega]
  show pS k.toNat + ((k.toNat : Int) * (k.toNat : Int) + 1) - pS k.toNat = _
  rw [Int.toNat_of_nonneg h]
  omega
def ups : Int → Nat → List Int
  | _, 0 => []
  | a, n + 1 => a :: ups (a + 1) n
theorem ups_snoc : ∀ (n : Nat) (a : Int), ups a (n + 1) = ups a n ++ [a + (n : Nat)]
  | 0, a => by simp [ups]
  | n + 1, a => by
    show a :: ups (a + 1) (n + 1) = a :: (ups (a + 1) n ++ [_])
    rw [ups_snoc n (a + 1), show a + 1 + (n : Nat) = a + ((n + 1 : Nat) : Int) by omega]
theorem ups_len : ∀ (n : Nat) (a : Int), (ups a n).length = n
  | 0, _ => rfl
  | n + 1, a => by simp [ups, ups_len n]
theorem ups_mem : ∀ {n : Nat} {a k : Int}, k ∈ ups a n ↔ a ≤ k ∧ k < a + (n : Nat)
  | 0, a, k => by simp [ups]
  | n + 1, a, k => by
    simp only [ups, List.mem_cons, ups_mem (n := n)]
    omega
def kpt (P : Int → Int) (lo : Int) (n : Nat) : List (Key × D) := (ups lo n).map fun k => (.inl k, .int (P (k + 1) - P k))
def hld (P : Int → Int) (lo : Int) (n : Nat) : List Int := (ups lo n).map fun k => P (k + 1) - P k
theorem kpt_has {P : Int → Int} : ∀ {n : Nat} {lo : Int}, Has P (kpt P lo n) lo (lo + (n : Nat))
  | 0, lo => fun k h1 h2 => by simp at h2; omega
  | n + 1, lo => fun k h1 h2 => by
    show valD ((.inl lo, _) :: kpt P (lo + 1) n) (.inl k) = _
    unfold valD
    by_cases e : lo = k
    · subst e; rw [if_pos rfl]
    · rw [if_neg (fun z => e (Sum.inl.inj z))]
      exact kpt_has k (by omega) (by omega)
theorem putKD_new {κ : Type} [DecidableEq κ] {k : κ} {d : D} : ∀ {l : List (κ × D)}, (∀ kv ∈ l, kv.1 ≠ k) → putKD l k d = l ++ [(k, d)]
  | [], _ => rfl
  | (j, x) :: r, h => by
    unfold putKD
    rw [if_neg (h (j, x) List.mem_cons_self), putKD_new fun kv hkv => h kv (List.mem_cons_of_mem _ hkv)]
    rfl
theorem kpt_put {P : Int → Int} {lo : Int} {n : Nat} : putKD (kpt P lo n) (.inl (lo + (n : Nat))) (.int (P (lo + (n : Nat) + 1) - P (lo + (n : Nat)))) = kpt P lo (n + 1) := by
  rw [putKD_new]
  · unfold kpt; rw [ups_snoc, List.map_append]; rfl
  · intro kv h
    unfold kpt at h
    obtain ⟨k, hk, rfl⟩ := List.mem_map.mp h
    have := ups_mem.mp hk
    intro z
    have z : k = lo + (n : Nat) := Sum.inl.inj z
    omega
theorem kpt_drop {P : Int → Int} {lo : Int} {n : Nat} : dropKD (kpt P lo (n + 1)) (.inl lo) = kpt P (lo + 1) n := by
  show List.filter _ ((.inl lo, _) :: kpt P (lo + 1) n) = _
  rw [List.filter_cons_of_neg (by simp), List.filter_eq_self]
  intro kv h
  unfold kpt at h
  obtain ⟨k, hk, rfl⟩ := List.mem_map.mp h
  have := ups_mem.mp hk
  rw [decide_eq_true_iff]
  intro z
  have z : k = lo := Sum.inl.inj z
  omega
theorem kpt_keys {P : Int → Int} {lo : Int} {n : Nat} : (kpt P lo n).map (·.1) = (ups lo n).map Sum.inl := by unfold kpt; rw [List.map_map]; rfl
theorem kpt_len {P : Int → Int} {lo : Int} {n : Nat} : (kpt P lo n).length = n := by unfold kpt; rw [List.length_map, ups_len]
theorem ups_min {lo k : Int} {n : Nat} (h : k ∈ ups lo (n + 1)) (hm : ∀ j ∈ ups lo (n + 1), k ≤ j) : k = lo := by
  have h1 := ups_mem.mp h
  have h2 := hm lo (by simp [ups])
  omega
theorem hld_snoc {P : Int → Int} {lo : Int} {n : Nat} : hld P lo (n + 1) = hld P lo n ++ [P (lo + (n : Nat) + 1) - P (lo + (n : Nat))] := by unfold hld; rw [ups_snoc, List.map_append]; rfl
theorem hld_cons {P : Int → Int} {lo : Int} {n : Nat} : hld P lo (n + 1) = (P (lo + 1) - P lo) :: hld P (lo + 1) n := rfl
theorem hld_len {P : Int → Int} {lo : Int} {n : Nat} : (hld P lo n).length = n := by unfold hld; rw [List.length_map, ups_len]
theorem hld_sum {P : Int → Int} : ∀ {n : Nat} {lo : Int}, (hld P lo n).sum = P (lo + (n : Nat)) - P lo
  | 0, lo => by simp [hld, ups]
  | n + 1, lo => by
    rw [hld_cons, List.sum_cons, hld_sum, show lo + 1 + (n : Nat) = lo + ((n + 1 : Nat) : Int) by omega]
    omega
end M62
namespace K62
open PySem PySem.Spec PyProof.Rows L2 G NdefX LamX Sms M62
def top (i : Nat) : Stmt := PySem.Challenge.pw_oncebuilt_k62_even_sums_bounds.main.body.getD i (.Pass ⟨0, 0, 0, 0⟩)
def nm_Sums_joined : Nat → Nat → Str := fun _ _ => "Sums.joined.<locals>.<lambda>"
abbrev tb_Sums_joined (W : Wo) : Addr := tbA W.K ("Sums", some "joined")
def nm_Sums_add : Nat → Nat → Str := fun _ _ => "Sums.add.<locals>.<lambda>"
abbrev tb_Sums_add (W : Wo) : Addr := tbA W.K ("Sums", some "add")
def nm_Sums_remove_oldest : Nat → Nat → Str := fun _ _ => "Sums.remove_oldest.<locals>.<lambda>"
abbrev tb_Sums_remove_oldest (W : Wo) : Addr := tbA W.K ("Sums", some "remove_oldest")
def nm_Sums_total : Nat → Nat → Str := fun _ _ => "Sums.total.<locals>.<lambda>"
abbrev tb_Sums_total (W : Wo) : Addr := tbA W.K ("Sums", some "total")
def nm_right : Nat → Nat → Str := fun _ _ => "_law_right.<locals>.<lambda>"
abbrev tb_right (W : Wo) : Addr := tbA W.K ("_law_right", none)
structure Txt (W : Wo) : Prop where
  b_IndexError : W.mg "IndexError" = none
  b_RuntimeError : W.mg "RuntimeError" = none
  b_abs : W.mg "abs" = none
  b_enumerate : W.mg "enumerate" = none
  b_len : W.mg "len" = none
  b_list : W.mg "list" = none
  b_max : W.mg "max" = none
  b_min : W.mg "min" = none
  b_range : W.mg "range" = none
  b_sorted : W.mg "sorted" = none
  b_sum : W.mg "sum" = none
  c_EvenSums : Cls W.K (He.ga W.K "EvenSums")
  g_EvenSums : W.mg "EvenSums" = some (.ref (He.ga W.K "EvenSums"))
  n_EvenSums_kept : NoAttr W.K (He.ga W.K "EvenSums") "kept"
  n_EvenSums_next_number : NoAttr W.K (He.ga W.K "EvenSums") "next_number"
  n_EvenSums_entries : NoAttr W.K (He.ga W.K "EvenSums") "entries"
  n_EvenSums_is_busy : NoAttr W.K (He.ga W.K "EvenSums") "is_busy"
  n_EvenSums_join_call : NoAttr W.K (He.ga W.K "EvenSums") "join_call"
  n_EvenSums_zero : NoAttr W.K (He.ga W.K "EvenSums") "zero"
  n_EvenSums_state : NoAttr W.K (He.ga W.K "EvenSums") "state"
  g_Busy : W.mg "Busy" = some (.ref (He.ga W.K "Busy"))
  x_Busy : ExF W.K (He.ga W.K "Busy") [.type "RuntimeError", .type "Exception", .type "BaseException", .type "object"] "RuntimeError.__new__"
  t_Sums_joined : TabB W.base W.mg (cdA W.K ("Sums", some "joined")) (tbA W.K ("Sums", some "joined"))
  t_Sums_add : TabB W.base W.mg (cdA W.K ("Sums", some "add")) (tbA W.K ("Sums", some "add"))
  t_Sums_remove_oldest : TabB W.base W.mg (cdA W.K ("Sums", some "remove_oldest")) (tbA W.K ("Sums", some "remove_oldest"))
  t_Sums_total : TabB W.base W.mg (cdA W.K ("Sums", some "total")) (tbA W.K ("Sums", some "total"))
  t_right : TabB W.base W.mg (cdA W.K ("_law_right", none)) (tbA W.K ("_law_right", none))
def tabA (W : Wo) (b : Addr) : Prop := b = tb_Sums_joined W ∨ b = tb_Sums_add W ∨ b = tb_Sums_remove_oldest W ∨ b = tb_Sums_total W ∨ b = tb_right W
structure TbM (W : Wo) (m : M) : Prop where
  t_Sums_joined : m (tb_Sums_joined W) = some (.tab nm_Sums_joined)
  t_Sums_add : m (tb_Sums_add W) = some (.tab nm_Sums_add)
  t_Sums_remove_oldest : m (tb_Sums_remove_oldest W) = some (.tab nm_Sums_remove_oldest)
  t_Sums_total : m (tb_Sums_total W) = some (.tab nm_Sums_total)
  t_right : m (tb_right W) = some (.tab nm_right)
theorem TbM.loc {W : Wo} {m m2 : M} (x : TbM W m) (h : ∀ b o, tabA W b → m b = some o → m2 b = some o) : TbM W m2 := ⟨h _ _ (.inl rfl) x.t_Sums_joined, h _ _ (.inr (.inl rfl)) x.t_Sums_add, h _ _ (.inr (.inr (.inl rfl))) x.t_Sums_remove_oldest, h _ _ (.inr (.inr (.inr (.inl rfl)))) x.t_Sums_total, h _ _ (.inr (.inr (.inr (.inr (rfl))))) x.t_right⟩
theorem TbM.tab {W : Wo} {m : M} (x : TbM W m) {b : Addr} (h : tabA W b) : ∃ nm, m b = some (.tab nm) := by
  rcases h with rfl | rfl | rfl | rfl | rfl
  · exact ⟨_, x.t_Sums_joined⟩
  · exact ⟨_, x.t_Sums_add⟩
  · exact ⟨_, x.t_Sums_remove_oldest⟩
  · exact ⟨_, x.t_Sums_total⟩
  · exact ⟨_, x.t_right⟩
def isS (W : Wo) (C : Addr) : Prop := C = He.ga W.K "EvenSums"
structure LC (K : PySem.W.Frag) (C : Addr) : Prop where
  c : Cls K C
  kept : NoAttr K C "kept"
  nn : NoAttr K C "next_number"
  en : NoAttr K C "entries"
  ib : NoAttr K C "is_busy"
  jc : NoAttr K C "join_call"
  ze : NoAttr K C "zero"
  st : NoAttr K C "state"
theorem Txt.lc {W : Wo} (T : Txt W) {C : Addr} (h : isS W C) : LC W.K C := by
  cases h
  exact ⟨T.c_EvenSums, T.n_EvenSums_kept, T.n_EvenSums_next_number, T.n_EvenSums_entries, T.n_EvenSums_is_busy, T.n_EvenSums_join_call, T.n_EvenSums_zero, T.n_EvenSums_state⟩
/-- a collection -/
structure SO where
  a : Addr
  C : Addr
  dx : Addr
  ka : Addr
  ea : Addr
  kept : List (Key × D)
  next : Int
  entries : List D
  busy : Bool
  join : D
  zero : D
  state : D
abbrev SO.fs (o : SO) : List (Str × D) := [("kept", .ref o.ka), ("next_number", .int o.next), ("entries", .ref o.ea), ("is_busy", .bl o.busy), ("join_call", o.join), ("zero", o.zero), ("state", o.state)]
structure SOk (m : M) (o : SO) : Prop where
  ob : m o.a = some (.ins o.C o.dx o.fs)
  ke : m o.ka = some (.dk o.kept)
  en : m o.ea = some (.lst o.entries)
abbrev SO.bz (o : SO) (b : Bool) : SO := { o with busy := b }
abbrev SO.log (o : SO) (e : D) : SO := { o with entries := o.entries ++ [e] }
/-- the fields are written -/
abbrev SO.put (o : SO) (m : M) : M := G.put m o.a (.ins o.C o.dx o.fs)
theorem SOk.ne {m : M} {o : SO} (x : SOk m o) : o.a ≠ o.ka ∧ o.a ≠ o.ea ∧ o.ka ≠ o.ea := ⟨ne_of_o x.ob x.ke (by intro z; cases z), ne_of_o x.ob x.en (by intro z; cases z), ne_of_o x.ke x.en (by intro z; cases z)⟩
theorem SOk.put {m : M} {o o' : SO} (x : SOk m o) (h : o'.a = o.a ∧ o'.ka = o.ka ∧ o'.ea = o.ea ∧ o'.kept = o.kept ∧ o'.entries = o.entries) : SOk (o'.put m) o' := by
  obtain ⟨h1, h2, h3, h4, h5⟩ := h
  obtain ⟨n1, n2, n3⟩ := x.ne
  refine ⟨put_same, ?_, ?_⟩
  · show G.put _ _ _ _ = _
    rw [h2, h4, h1, put_ne (Ne.symm n1)]; exact x.ke
  · show G.put _ _ _ _ = _
    rw [h3, h5, h1, put_ne (Ne.symm n2)]; exact x.en
local macro_rules | `(tactic| walk_at "rd") => `(tactic| simp (decide := true) only [dVar, dC, dOp, dUn, dNil, dCons, dTup, dLst, dFld, dONone, dOSome, dSl, dCallB, dTest, dAnd, dOr, dNot, dAndV, dOrV, dNotV, dIfE, dTru, TruD, sNext, sSeq, sBreak, sCont, sDrop, sRet, sRetN, sIf, sNever, eName, eNil, eCons, eTup, sAsg, eSub, sAug, sAugS, sFldD, sFldAugD, iLst, iKl, iTp, iRg1, iRg2, iRg3, iRv, iEn, sFor, eTg, setD, dwipe, dYes, dLc, dCF, dMF, dVF, dFF, expX_nil, show_, hide, dLamS, sFin, dFin, sRaise, dDNew, dDGet, dDIn, dDNotIn, dSetD, sDPutD, sDDelD, dLenD, dMinD, dSortedD, dDictD, dListD, sPar, sPar3, dChain, dI0, dI, dAddI, dAddS, dAddT, dAddL, dEqT, dNeT, dIsN, dNotN, G.isNon, dIxT, dIxL, dIxK, dSlT, dSlL, dLenL, dLenK, dLenT, dListL, dListT, dTupL, dEqE, dNeE, dUI, dAppend, dPop, dPopAt, dReverse, dBM0, dBM, dSetL, dRepL, dAbs, dMax2, dMin2, dSum, dMaxL, dMinL, dExtend, dClear, G.keyOf, putD_nil, putD_same, putD_ne, lk_nil, lk_same, lk_ne, put_put, put_same, cxOf, ncxW, ncx, dstart, dstartF, endsOf, wOf, backC, wC, mkSp, hideC, showC, W0, if_true, if_false, Bool.not_true, Bool.not_false, Bool.false_eq_true, List.map_cons, List.map_nil, List.length_cons, List.length_nil, Nat.reduceAdd, Nat.reduceSub, List.replicate_succ, List.replicate_zero, List.replicate, List.cons_append, List.nil_append, List.append_nil, List.getElem?_cons_zero, List.getElem?_cons_succ, Option.some.injEq, exists_eq_left', exists_eq_left, List.set_cons_zero, List.set_cons_succ, D.int.injEq, D.bl.injEq, D.ref.injEq, D.str.injEq, D.tup.injEq, List.cons.injEq, and_true, true_and, and_assoc, exists_and_left, decide_eq_true_eq, exists_const, List.mem_cons, List.not_mem_nil, or_false, forall_eq_or_imp, forall_eq, false_or, implies_true, forall_const, SO.fs, SO.put, SO.bz, SO.log, S3.d, oD_none, oD_some])
local macro_rules | `(tactic| walk_at "r1") => `(tactic| simp (decide := true) only [dVar, dC, dOp, dUn, dNil, dCons, dTup, dLst, dFld, dONone, dOSome, dSl, dCallB, dTest, dAnd, dOr, dNot, dAndV, dOrV, dNotV, dIfE, dTru, TruD, sNext, sBreak, sCont, sDrop, sRet, sRetN, sIf, sNever, eName, eNil, eCons, eTup, sAsg, eSub, sAug, sAugS, sFldD, sFldAugD, iLst, iKl, iTp, iRg1, iRg2, iRg3, iRv, iEn, sFor, eTg, setD, dwipe, dYes, dLc, dCF, dMF, dVF, dFF, expX_nil, show_, hide, dLamS, sFin, dFin, sRaise, dDNew, dDGet, dDIn, dDNotIn, dSetD, sDPutD, sDDelD, dLenD, dMinD, dSortedD, dDictD, dListD, sPar, sPar3, dChain, dI0, dI, dAddI, dAddS, dAddT, dAddL, dEqT, dNeT, dIsN, dNotN, G.isNon, dIxT, dIxL, dIxK, dSlT, dSlL, dLenL, dLenK, dLenT, dListL, dListT, dTupL, dEqE, dNeE, dUI, dAppend, dPop, dPopAt, dReverse, dBM0, dBM, dSetL, dRepL, dAbs, dMax2, dMin2, dSum, dMaxL, dMinL, dExtend, dClear, G.keyOf, putD_nil, putD_same, putD_ne, lk_nil, lk_same, lk_ne, put_put, put_same, cxOf, ncxW, ncx, dstart, dstartF, endsOf, wOf, backC, wC, mkSp, hideC, showC, W0, if_true, if_false, Bool.not_true, Bool.not_false, Bool.false_eq_true, List.map_cons, List.map_nil, List.length_cons, List.length_nil, Nat.reduceAdd, Nat.reduceSub, List.replicate_succ, List.replicate_zero, List.replicate, List.cons_append, List.nil_append, List.append_nil, List.getElem?_cons_zero, List.getElem?_cons_succ, Option.some.injEq, exists_eq_left', exists_eq_left, List.set_cons_zero, List.set_cons_succ, D.int.injEq, D.bl.injEq, D.ref.injEq, D.str.injEq, D.tup.injEq, List.cons.injEq, and_true, true_and, and_assoc, exists_and_left, decide_eq_true_eq, exists_const, List.mem_cons, List.not_mem_nil, or_false, forall_eq_or_imp, forall_eq, false_or, implies_true, forall_const, SO.fs, SO.put, SO.bz, SO.log, S3.d, oD_none, oD_some])
local macro_rules | `(tactic| walk_at "ev") => `(tactic| simp (decide := true) only [SO.fs, SO.put, SO.bz, SO.log, S3.d, oD_none, oD_some, putD_nil, putD_same, putD_ne, lk_nil, lk_same, lk_ne, put_put, put_same, if_true, if_false, List.length_cons, List.length_nil, Nat.reduceAdd, Nat.reduceLT, true_and, and_true])
local macro_rules | `(tactic| walk_at "hg") => `(tactic| first
  | assumption
  | exact put_same
  | (refine put_old (by assumption) ?_; walk_at "hg")
  | (refine put_at (by walk_at "ne") ?_; walk_at "hg")
  | (refine del_at (by walk_at "ne") ?_; walk_at "hg"))
local macro_rules | `(tactic| walk_at "nn") => `(tactic| first
  | assumption
  | exact del_ns
  | (refine del_nn ?_; walk_at "nn")
  | (refine put_nn (by walk_at "ne") ?_; walk_at "nn"))
local macro_rules | `(tactic| walk_at "sb") => `(tactic| first
  | exact Sub.refl _
  | assumption
  | (refine Sub.put ?_; walk_at "sb")
  | (refine Sub.skip ?_ (by walk_at "nn"); walk_at "sb")
  | (refine Sub.del ?_ (by walk_at "nn"); walk_at "sb"))
local macro_rules | `(tactic| walk_at "ne") => `(tactic| first
  | assumption
  | (refine Ne.symm ?_; assumption)
  | exact ne_fr (by assumption) (by walk_at "hg")
  | exact (ne_fr (by assumption) (by walk_at "hg")).symm)
local macro_rules | `(tactic| walk_at "sd") => `(tactic| first | with_reducible rfl | assumption | walk_at "hg" | rfl | decide | omega | (walk_at "ev"; done) | (walk_at "go"; done))
local macro_rules | `(tactic| walk_at "he") => `(tactic| (refine Sub.of_eq (funext fun b => ?_); (try simp only [SO.fs, SO.put, SO.bz, SO.log, S3.d, oD_none, oD_some]); unfold put; (repeat' split)) <;> first | rfl | (exfalso; grind))
local macro_rules | `(tactic| walk_at "go") => `(tactic| first
  | ((with_reducible apply Exists.intro); walk_at "go")
  | ((with_reducible apply And.intro); (focus (walk_at "sd")); walk_at "go")
  | walk_at "hg"
  | skip)
abbrev s_Logged___init__ : Stmt := inClass (top 5) 1
theorem sc_Logged___init__ : FnScope ["self"] ["self"] (defScope s_Logged___init__) := ⟨rfl, rfl, rfl, by decide +kernel, rfl, by decide +kernel, by decide +kernel⟩
def sp_Logged___init__ (W : Wo) : DSp := fun ds m Q _ => ∃ a C dx, ds = [.ref a] ∧ m a = some (.ins C dx []) ∧ isS W C ∧ ∀ ka ea, m ka = none → m ea = none → ka ≠ ea → Q .non (put (put (put m ka (.dk [])) ea (.lst [])) a (.ins C dx [("kept", .ref ka), ("next_number", .int 0), ("entries", .ref ea), ("is_busy", .bl false)]))
theorem ok_Logged___init__ {W : Wo} {f : Addr} {fd : FuncData} (T : Txt W)  (F : FunD W.K "__init__" "Logged.__init__" (defArgs s_Logged___init__) (defBody s_Logged___init__) (defScope s_Logged___init__) [] [] f fd) (hcd : fd.code = .ref (cdA W.K ("Logged", some "__init__"))) : FnG W.P W.w W.K W.mg W.base W.gd 1 f fd ["self"] (upSp (sp_Logged___init__ W)) := by
  refine okDc (.ref (cdA W.K ("Logged", some "__init__"))) [] F hcd sc_Logged___init__ (by decide +kernel) (by decide +kernel) (fun ds m Q E h => ?_) (fun A outer s H EV ca ds m Q E hr hca xc tk h => ?_)
  · obtain ⟨a, C, dx, rfl, _⟩ := h
    rfl
  · have hu := huG hr
    obtain ⟨a, C, dx, rfl, ha, hC, k⟩ := h
    obtain ⟨_, _, _, _, _, _, _, _⟩ := T.lc hC
    refine ⟨_, (dss_cons (ds_fk W.K (dv 0) de_dnew)
      (dss_cons (ds_fk W.K (dv 0) dint)
      (dss_cons (ds_fk W.K (dv 0) (de_lst da_nil))
      (dss_one (ds_fk W.K (dv 0) dbl))))), ?_⟩
    clear hcd hu xc tk hr
    walk_at "rd"
    intro ka nk
    walk_at "go"
    intro ea ne
    walk_at "go"
    obtain ⟨n1, n2⟩ := put_free ne
    obtain ⟨n1, n3⟩ := put_free n1
    have n4 := ne_free ha nk
    exact Wk.of (k ka ea nk n1 (Ne.symm n3)) (by walk_at "he")
abbrev s_Logged_check_free : Stmt := inClass (top 5) 2
theorem sc_Logged_check_free : FnScope ["self"] ["self"] (defScope s_Logged_check_free) := ⟨rfl, rfl, rfl, by decide +kernel, rfl, by decide +kernel, by decide +kernel⟩
def sp_Logged_check_free (W : Wo) : DSp := fun ds m Q E => ∃ o, ds = [.ref o.a] ∧ SOk m o ∧ isS W o.C ∧ (o.busy = false → Q .non m) ∧ (o.busy = true → E (.ref (He.ga W.K "Busy")) none m)
theorem ok_Logged_check_free {W : Wo} {f : Addr} {fd : FuncData} (T : Txt W)  (F : FunD W.K "check_free" "Logged.check_free" (defArgs s_Logged_check_free) (defBody s_Logged_check_free) (defScope s_Logged_check_free) [] [] f fd) (hcd : fd.code = .ref (cdA W.K ("Logged", some "check_free"))) : FnG W.P W.w W.K W.mg W.base W.gd 1 f fd ["self"] (upSp (sp_Logged_check_free W)) := by
  refine okDc (.ref (cdA W.K ("Logged", some "check_free"))) [] F hcd sc_Logged_check_free (by decide +kernel) (by decide +kernel) (fun ds m Q E h => ?_) (fun A outer s H EV ca ds m Q E hr hca xc tk h => ?_)
  · obtain ⟨o, rfl, _⟩ := h
    rfl
  · have hu := huG hr
    obtain ⟨o, rfl, ho, hC, k, kE⟩ := h
    obtain ⟨_, _, _, _, _, _, _, _⟩ := T.lc hC
    obtain ⟨ob, ke, en⟩ := ho
    refine ⟨_, (dss_one (ds_if (dt_val (de_fk W.K (dv 0))) (dss_one (ds_raise tk (mk_up (pmk_own PySem.F.excBase_RuntimeError T.x_Busy.ex T.g_Busy T.x_Busy.kp (raises_own T.x_Busy.sb T.x_Busy.ty) (by exact rfl))))) dss_nil)), ?_⟩
    clear hcd hu xc tk hr
    walk_at "rd"
    walk_at "go"
    cases hb : o.busy with
    | true => exact Wk.here (kE hb)
    | false => exact Wk.here (k hb)
abbrev s_Logged_check_ready : Stmt := inClass (top 5) 3
theorem sc_Logged_check_ready : FnScope ["self"] ["self"] (defScope s_Logged_check_ready) := ⟨rfl, rfl, rfl, by decide +kernel, rfl, by decide +kernel, by decide +kernel⟩
def sp_Logged_check_ready (W : Wo) : DSp := fun ds m Q E => ∃ o, ds = [.ref o.a] ∧ SOk m o ∧ isS W o.C ∧ (o.busy = false → Q .non m) ∧ (o.busy = true → E (.ref (He.ga W.K "Busy")) none m)
theorem ok_Logged_check_ready {W : Wo} {f : Addr} {fd : FuncData} (T : Txt W) (D_EvenSums_check_free_0 : DM W 1 (fun C => C = He.ga W.K "EvenSums") "check_free" 0 [] (fun ds _ => ds) (fun _ => sp_Logged_check_free W)) (F : FunD W.K "check_ready" "Logged.check_ready" (defArgs s_Logged_check_ready) (defBody s_Logged_check_ready) (defScope s_Logged_check_ready) [] [] f fd) (hcd : fd.code = .ref (cdA W.K ("Logged", some "check_ready"))) : FnG W.P W.w W.K W.mg W.base W.gd 2 f fd ["self"] (upSp (sp_Logged_check_ready W)) := by
  refine okDc (.ref (cdA W.K ("Logged", some "check_ready"))) [] F hcd sc_Logged_check_ready (by decide +kernel) (by decide +kernel) (fun ds m Q E h => ?_) (fun A outer s H EV ca ds m Q E hr hca xc tk h => ?_)
  · obtain ⟨o, rfl, _⟩ := h
    rfl
  · have hu := huG hr
    obtain ⟨o, rfl, ho, hC, k, kE⟩ := h
    refine ⟨_, (dss_one (ds_expr (de_mth0 D_EvenSums_check_free_0 (dv 0) hr (xc_nil sc_Logged_check_ready.nd) tk dk_nil))), ?_⟩
    clear hcd hu xc tk hr
    walk_at "rd"
    obtain ⟨ob, ke, en⟩ := id ho
    walk_at "go"
    exact ⟨o, rfl, ho, hC, fun hb => Wk.here (k hb), fun hb => Wk.here (kE hb)⟩
abbrev s_Logged_call : Stmt := inClass (top 5) 4
theorem sc_Logged_call : FnScope ["self", "entry", "work", "result"] ["self", "entry", "work"] (defScope s_Logged_call) := ⟨rfl, rfl, rfl, by decide +kernel, rfl, by decide +kernel, by decide +kernel⟩
def sp_Logged_call (W : Wo) : DSp := fun ds m Q E => ∃ o entry work, ds = [.ref o.a, entry, work] ∧ SOk m o ∧ isS W o.C ∧ o.entries.length < sizeLine ∧ KeepD W.K ((o.bz true).put m) work ∧
  DAct W 12 work [] [] [] ((o.bz true).put m) (fun r m' => SOk m' (o.bz true) ∧ Q r (put ((o.bz false).put m') o.ea (.lst (o.entries ++ [entry])))) (fun c x m' => SOk m' (o.bz true) ∧ E c x ((o.bz false).put m'))
theorem ok_Logged_call {W : Wo} {f : Addr} {fd : FuncData} (T : Txt W)  (F : FunD W.K "call" "Logged.call" (defArgs s_Logged_call) (defBody s_Logged_call) (defScope s_Logged_call) [] [] f fd) (hcd : fd.code = .ref (cdA W.K ("Logged", some "call"))) : FnG W.P W.w W.K W.mg W.base W.gd 13 f fd ["self", "entry", "work"] (upSp (sp_Logged_call W)) := by
  refine okDc (.ref (cdA W.K ("Logged", some "call"))) [] F hcd sc_Logged_call (by decide +kernel) (by decide +kernel) (fun ds m Q E h => ?_) (fun A outer s H EV ca ds m Q E hr hca xc tk h => ?_)
  · obtain ⟨o, e, w, rfl, _⟩ := h
    rfl
  · have hu := huG hr
    obtain ⟨o, entry, work, rfl, ho, hC, hl, hk, act⟩ := h
    obtain ⟨_, _, _, _, _, _, _, _⟩ := T.lc hC
    refine ⟨_, (dss_cons (ds_fk W.K (dv 0) dbl)
      (dss_cons (ds_fin tk (fun pn xe tkf po => (dss_one (ds_set (i := 3) sc_Logged_call.nd rfl (Or.inl rfl) (de_loc0 (W := W) (ks := []) (i := 2) hr rfl (by first | exact Or.inl rfl | exact Or.inr (Or.inl rfl) | exact Or.inr (Or.inr rfl)) (xc_nil sc_Logged_call.nd) tkf dk_nil 12)))) (dss_one (ds_fk W.K (dv 0) dbl)) (fun a pn => (dss_one (ds_fk W.K (dv 0) dbl))))
      (dss_cons (ds_expr (de_bm PySem.F.slot_list_append PySem.F.type_list_append m_append (de_fk W.K (dv 0)) (da_cons (dv 1) da_nil)))
      (dss_one (ds_ret (dv 3)))))), ?_⟩
    clear hcd hu xc tk hr
    obtain ⟨ob, ke, en⟩ := id ho
    obtain ⟨n1, n2, n3⟩ := ho.ne
    walk_at "rd"
    walk_at "go"
    refine act.imp (Sub.refl _) (fun r m' hq => ⟨m', Sub.refl _, ?_⟩) (fun c x m' hq => ⟨m', Sub.refl _, ?_⟩)
    · obtain ⟨ho', q⟩ := hq
      obtain ⟨ob', ke', en'⟩ := id ho'
      walk_at "go"
      exact Wk.here q
    · obtain ⟨ho', q⟩ := hq
      obtain ⟨ob', ke', en'⟩ := id ho'
      walk_at "go"
      exact Wk.here q
abbrev s_Logged_keep : Stmt := inClass (top 5) 5
theorem sc_Logged_keep : FnScope ["self", "member", "number"] ["self", "member"] (defScope s_Logged_keep) := ⟨rfl, rfl, rfl, by decide +kernel, rfl, by decide +kernel, by decide +kernel⟩
def sp_Logged_keep (W : Wo) : DSp := fun ds m Q E => ∃ o d, ds = [.ref o.a, d] ∧ SOk m o ∧ isS W o.C ∧ o.kept.length < sizeLine ∧ Q (.int o.next) (put (({ o with next := o.next + 1 } : SO).put m) o.ka (.dk (putKD o.kept (.inl o.next) d)))
theorem ok_Logged_keep {W : Wo} {f : Addr} {fd : FuncData} (T : Txt W)  (F : FunD W.K "keep" "Logged.keep" (defArgs s_Logged_keep) (defBody s_Logged_keep) (defScope s_Logged_keep) [] [] f fd) (hcd : fd.code = .ref (cdA W.K ("Logged", some "keep"))) : FnG W.P W.w W.K W.mg W.base W.gd 1 f fd ["self", "member"] (upSp (sp_Logged_keep W)) := by
  refine okDc (.ref (cdA W.K ("Logged", some "keep"))) [] F hcd sc_Logged_keep (by decide +kernel) (by decide +kernel) (fun ds m Q E h => ?_) (fun A outer s H EV ca ds m Q E hr hca xc tk h => ?_)
  · obtain ⟨o, d, rfl, _⟩ := h
    rfl
  · have hu := huG hr
    obtain ⟨o, d, rfl, ho, hC, hl, k⟩ := h
    obtain ⟨_, _, _, _, _, _, _, _⟩ := T.lc hC
    refine ⟨_, (dss_cons (ds_set (i := 2) sc_Logged_keep.nd rfl (Or.inl rfl) (de_fk W.K (dv 0)))
      (dss_cons (ds_dput hu (de_fk W.K (dv 0)) (dv 2) (dv 1))
      (dss_cons (ds_fka W.K (dv 0) dint n_add)
      (dss_one (ds_ret (dv 2)))))), ?_⟩
    clear hcd hu xc tk hr
    obtain ⟨ob, ke, en⟩ := id ho
    obtain ⟨n1, n2, n3⟩ := ho.ne
    walk_at "rd"
    walk_at "go"
    exact Wk.of k (by walk_at "he")
abbrev s_Sums___init__ : Stmt := inClass (top 7) 0
theorem sc_Sums___init__ : FnScope ["self", "join", "zero"] ["self", "join", "zero"] (defScope s_Sums___init__) := ⟨rfl, rfl, rfl, by decide +kernel, rfl, by decide +kernel, by decide +kernel⟩
def sp_Sums___init__ (W : Wo) : DSp := fun ds m Q _ => ∃ a C dx j z, ds = [.ref a, j, z] ∧ m a = some (.ins C dx []) ∧ isS W C ∧ ∀ ka ea, m ka = none → m ea = none → ka ≠ ea →
  Q .non (put (put (put m ka (.dk [])) ea (.lst [])) a (.ins C dx [("kept", .ref ka), ("next_number", .int 0), ("entries", .ref ea), ("is_busy", .bl false), ("join_call", j), ("zero", z), ("state", .non)]))
theorem ok_Sums___init__ {W : Wo} {f : Addr} {fd : FuncData} (T : Txt W) (C_Logged___init___1 : DC W 1 "Logged" "__init__" 1 [] (fun ds _ => ds) (sp_Logged___init__ W)) (F : FunD W.K "__init__" "Sums.__init__" (defArgs s_Sums___init__) (defBody s_Sums___init__) (defScope s_Sums___init__) [] [] f fd) (hcd : fd.code = .ref (cdA W.K ("Sums", some "__init__"))) : FnG W.P W.w W.K W.mg W.base W.gd 2 f fd ["self", "join", "zero"] (upSp (sp_Sums___init__ W)) := by
  refine okDc (.ref (cdA W.K ("Sums", some "__init__"))) [] F hcd sc_Sums___init__ (by decide +kernel) (by decide +kernel) (fun ds m Q E h => ?_) (fun A outer s H EV ca ds m Q E hr hca xc tk h => ?_)
  · obtain ⟨a, C, dx, j, z, rfl, _⟩ := h
    rfl
  · have hu := huG hr
    obtain ⟨a, C, dx, j, z, rfl, ha, hC, k⟩ := h
    obtain ⟨_, _, _, _, _, _, _, _⟩ := T.lc hC
    refine ⟨_, (dss_cons (ds_expr (de_cls C_Logged___init___1 hr (by rfl) (xc_nil sc_Sums___init__.nd) tk (da_cons (dv 0) da_nil) dk_nil))
      (dss_cons (ds_fk W.K (dv 0) (dv 1))
      (dss_cons (ds_fk W.K (dv 0) (dv 2))
      (dss_one (ds_fk W.K (dv 0) dnon))))), ?_⟩
    clear hcd hu xc tk hr
    walk_at "rd"
    refine ⟨a, C, dx, rfl, ha, hC, fun ka ea nk ne n => ?_⟩
    walk_at "go"
    exact Wk.of (k ka ea nk ne n) (by walk_at "he")
abbrev s_Sums_single : Stmt := inClass (top 7) 1
theorem sc_Sums_single : FnScope ["self", "number"] ["self", "number"] (defScope s_Sums_single) := ⟨rfl, rfl, rfl, by decide +kernel, rfl, by decide +kernel, by decide +kernel⟩
def sp_Sums_single (W : Wo) : DSp := fun ds m Q _ => ∃ o n d, ds = [.ref o.a, .int n] ∧ SOk m o ∧ isS W o.C ∧ valD o.kept (.inl n) = some d ∧ Q (.tup [.int n, .int (n + 1), d]) m
theorem ok_Sums_single {W : Wo} {f : Addr} {fd : FuncData} (T : Txt W)  (F : FunD W.K "single" "Sums.single" (defArgs s_Sums_single) (defBody s_Sums_single) (defScope s_Sums_single) [] [] f fd) (hcd : fd.code = .ref (cdA W.K ("Sums", some "single"))) : FnG W.P W.w W.K W.mg W.base W.gd 1 f fd ["self", "number"] (upSp (sp_Sums_single W)) := by
  refine okDc (.ref (cdA W.K ("Sums", some "single"))) [] F hcd sc_Sums_single (by decide +kernel) (by decide +kernel) (fun ds m Q E h => ?_) (fun A outer s H EV ca ds m Q E hr hca xc tk h => ?_)
  · obtain ⟨o, n, d, rfl, _⟩ := h
    rfl
  · have hu := huG hr
    obtain ⟨o, n, d, rfl, ho, hC, hv, k⟩ := h
    obtain ⟨_, _, _, _, _, _, _, _⟩ := T.lc hC
    refine ⟨_, (dss_one (ds_ret (de_tup (da_cons (dv 1) (da_cons (de_op o_addI (dv 1) dint) (da_cons (de_dget hu (de_fk W.K (dv 0)) (dv 1) (fun _ _ => rfl)) da_nil)))))), ?_⟩
    clear hcd hu xc tk hr
    obtain ⟨ob, ke, en⟩ := id ho
    walk_at "rd"
    walk_at "go"
    exact Wk.here k
abbrev s_Sums_joined : Stmt := inClass (top 7) 2
theorem sc_Sums_joined : FnScope ["self", "one", "other", "value"] ["self", "one", "other"] (defScope s_Sums_joined) := ⟨rfl, rfl, rfl, by decide +kernel, rfl, by decide +kernel, by decide +kernel⟩
def sp_Sums_joined (W : Wo) : DSp := fun ds m Q E => ∃ o x0 x1 xv y0 y1 yv, ds = [.ref o.a, .tup [.int x0, .int x1, xv], .tup [.int y0, .int y1, yv]] ∧ SOk m o ∧ isS W o.C ∧ o.entries.length < sizeLine ∧ m (tb_Sums_joined W) = some (.tab nm_Sums_joined) ∧ KeepD W.K ((o.bz true).put m) o.join ∧
  DAct W 10 o.join [xv, yv] [] [] ((o.bz true).put m) (fun r m' => SOk m' (o.bz true) ∧ Q (.tup [.int x0, .int y1, r]) (put ((o.bz false).put m') o.ea (.lst (o.entries ++ [.tup [.str "join", .tup [.int x0, .int x1], .tup [.int y0, .int y1]]])))) (fun c x m' => SOk m' (o.bz true) ∧ E c x ((o.bz false).put m'))
theorem ok_Sums_joined {W : Wo} {f : Addr} {fd : FuncData} (T : Txt W) (D_EvenSums_call_2 : DM W 13 (fun C => C = He.ga W.K "EvenSums") "call" 2 [] (fun ds _ => ds) (fun _ => sp_Logged_call W)) (F : FunD W.K "joined" "Sums.joined" (defArgs s_Sums_joined) (defBody s_Sums_joined) (defScope s_Sums_joined) [] [] f fd) (hcd : fd.code = .ref (cdA W.K ("Sums", some "joined"))) : FnG W.P W.w W.K W.mg W.base W.gd 14 f fd ["self", "one", "other"] (upSp (sp_Sums_joined W)) := by
  refine okDc (.ref (cdA W.K ("Sums", some "joined"))) [(0, "self"), (1, "one"), (2, "other")] F hcd sc_Sums_joined (by decide +kernel) (by decide +kernel) (fun ds m Q E h => ?_) (fun A outer s H EV ca ds m Q E hr hca xc tk h => ?_)
  · obtain ⟨o, x0, x1, xv, y0, y1, yv, rfl, _⟩ := h
    rfl
  · have hu := huG hr
    obtain ⟨c_self, c_one, c_other, rfl⟩ := len3 hca
    have xc : XC _ [(0, c_self), (1, c_one), (2, c_other)] := xc
    obtain ⟨o, x0, x1, xv, y0, y1, yv, rfl, ho, hC, hl, ht, hk, act⟩ := h
    obtain ⟨_, _, _, _, _, _, _, _⟩ := T.lc hC
    refine ⟨_, (dss_cons (ds_set (i := 3) sc_Sums_joined.nd rfl (Or.inl rfl) (de_mth D_EvenSums_call_2 (dv 0) hr (xc_sub (cs' := [(0, c_self), (1, c_one), (2, c_other)]) xc) tk (da_cons (de_tup (da_cons dstr (da_cons (de_slice s_tup (dv 1) do_none (do_some dint)) (da_cons (de_slice s_tup (dv 2) do_none (do_some dint)) da_nil)))) (da_cons (de_lamS (nm := nm_Sums_joined) [(0, c_self), (1, c_one), (2, c_other)] ["self", "one", "other"] (defScope s_Sums_joined) ("Sums.joined" ++ ".<locals>.") T.t_Sums_joined rfl xc (by decide +kernel) (by decide +kernel)) da_nil)) dk_nil))
      (dss_one (ds_ret (de_tup (da_cons (de_ix x_ixT (dv 1) dint (fun _ _ => rfl)) (da_cons (de_ix x_ixT (dv 2) dint (fun _ _ => rfl)) (da_cons (dv 3) da_nil))))))), ?_⟩
    clear hcd hu xc tk hr
    obtain ⟨ob, ke, en⟩ := id ho
    obtain ⟨n1, n2, n3⟩ := ho.ne
    walk_at "rd"
    walk_at "go"
    intro f' F' nf p1 p2 p3 hC'
    refine ⟨by simp, fun hn hd => ?_⟩
    simp only [List.mem_cons, List.not_mem_nil, or_false, forall_eq_or_imp, forall_eq] at hn
    obtain ⟨e1, e2, e3⟩ := hn
    obtain ⟨g1, g1'⟩ := put_free e1
    obtain ⟨g2, g2'⟩ := put_free e2
    obtain ⟨g3, g3'⟩ := put_free e3
    simp only [List.map_cons, List.map_nil, List.nodup_cons, List.mem_cons, List.not_mem_nil, or_false, not_or, not_false_iff, and_true, List.nodup_nil] at hd
    obtain ⟨⟨d1, d2⟩, d3⟩ := hd
    walk_at "rd"
    refine ⟨o, _, .ref f', rfl, ⟨by walk_at "hg", by walk_at "hg", by walk_at "hg"⟩, hC, hl, ⟨f', rfl, .inr (.inr ⟨F', by walk_at "hg"⟩)⟩, ?_⟩
    refine dact_lmE (N := ["self", "one", "other"]) (ps := []) (fr := ["self", "one", "other"]) p1 p2 p3 (by walk_at "hg") hC' (hol3 (by walk_at "hg") (by walk_at "hg") (by walk_at "hg")) (nscope_by (by decide +kernel)) (fun _ _ _ _ _ us hl => match us, hl with | [], _ => rfl) rfl (fun A1 outer1 s1 T1 EV1 _ _ _ hr1 xc1 tk1 => ⟨_, (de_att (W := W) (ks := []) (dv 0) hr1 (xc_nil (by exact (by decide : (["self", "one", "other"] : List Str).Nodup))) tk1 (da_cons (de_ix x_ixT (dv 1) dint (fun _ _ => rfl)) (da_cons (de_ix x_ixT (dv 2) dint (fun _ _ => rfl)) da_nil)) dk_nil 10), ?_⟩)
    walk_at "rd"
    walk_at "go"
    refine ⟨hk.sub (by walk_at "sb"), act.imp (by walk_at "sb") (fun r m' hq => ⟨m', Sub.refl _, ?_⟩) (fun c x m' hq => ⟨m', Sub.refl _, ?_⟩)⟩
    · refine fun hc => ?_
      simp only [List.mem_cons, List.not_mem_nil, or_false, forall_eq_or_imp, forall_eq] at hc
      obtain ⟨h1, h2, h3⟩ := hc
      obtain ⟨ob', ke', en'⟩ := id hq.1
      refine Wk.of (m' := m') ⟨hq.1, ?_⟩ (by simp only [showC]; walk_at "sb")
      walk_at "go"
      exact Wk.of hq.2 (by walk_at "sb")
    · refine fun hc => ?_
      obtain ⟨h1, h2, h3⟩ := hc
      obtain ⟨ob', ke', en'⟩ := id hq.1
      exact Wk.of (m' := m') ⟨hq.1, Wk.of hq.2 (by walk_at "sb")⟩ (by walk_at "sb")
abbrev s_grown : Stmt := top 8
theorem sc_grown : FnScope ["back", "new", "joined"] ["back", "new", "joined"] (defScope s_grown) := ⟨rfl, rfl, rfl, by decide +kernel, rfl, by decide +kernel, by decide +kernel⟩
def sp_grown (W : Wo) : DSp := fun ds m Q E => ∃ (S : Type) (rep : S → M → Prop) (foot : Addr → Prop) (lim : S → S3 → S3 → Prop) (J : S → S3 → S3 → S × ER S3) (s : S) (F : M) (b : Option S3) (n : S3) (jd : D), ds = [oD b, n.d, jd] ∧ JB W jd rep foot lim J ∧ rep s m ∧ (∀ b', b = some b' → lim s b' n) ∧ Sub F m ∧ Av F foot ∧
  (∀ s' z m', growJ J b n s = (s', .ok z) → rep s' m' → Sub F m' → Q z.d m') ∧ (∀ s' c x m', growJ J b n s = (s', .error (c, x)) → rep s' m' → Sub F m' → E c x m')
theorem ok_grown {W : Wo} {f : Addr} {fd : FuncData} (T : Txt W)  (F : FunD W.K "grown" "grown" (defArgs s_grown) (defBody s_grown) (defScope s_grown) [] [] f fd) (hcd : fd.code = .ref (cdA W.K ("grown", none))) : FnG W.P W.w W.K W.mg W.base W.gd 17 f fd ["back", "new", "joined"] (upSp (sp_grown W)) := by
  refine okDc (.ref (cdA W.K ("grown", none))) [] F hcd sc_grown (by decide +kernel) (by decide +kernel) (fun ds m Q E h => ?_) (fun A outer s H EV ca ds m Q E hr hca xc tk h => ?_)
  · obtain ⟨_, _, _, _, _, _, _, b, n, jd, rfl, _⟩ := h
    rfl
  · have hu := huG hr
    obtain ⟨S, rep, foot, lim, J, s', F', b, n, jd, rfl, B, hr', hlm, hs, ha, kQ, kE⟩ := h
    refine ⟨_, (dss_one (ds_ret (de_ifExp (dt_cmpR o_isN (dv 0) dnon (nomark _)) (dv 1) (de_loc (W := W) (ks := []) (i := 2) hr rfl (by first | exact Or.inl rfl | exact Or.inr (Or.inl rfl) | exact Or.inr (Or.inr rfl)) (xc_nil sc_grown.nd) tk (da_cons (dv 0) (da_cons (dv 1) da_nil)) dk_nil 16)))), ?_⟩
    clear hcd hu xc tk hr
    cases b with
    | none =>
      walk_at "rd"
      walk_at "go"
      exact Wk.here (kQ _ _ _ rfl hr' hs)
    | some b =>
      walk_at "rd"
      walk_at "go"
      exact ⟨B.keep _ _ hr', B.run s' m b n F' _ _ hr' (hlm _ rfl) hs ha (fun s2 z m2 e r2 b2 => Wk.here (kQ _ _ _ e r2 b2)) fun s2 c x m2 e r2 b2 => Wk.here (kE _ _ _ _ e r2 b2)⟩
abbrev s_EvenSums_stepped : Stmt := inClass (top 9) 4
theorem sc_EvenSums_stepped : FnScope ["self", "state", "new", "joined", "front", "back", "fresh", "later", "oldest", "newest"] ["self", "state", "new", "joined"] (defScope s_EvenSums_stepped) := ⟨rfl, rfl, rfl, by decide +kernel, rfl, by decide +kernel, by decide +kernel⟩
def sp_EvenSums_stepped (W : Wo) : DSp := fun ds m Q E => ∃ (S : Type) (rep : S → M → Prop) (foot : Addr → Prop) (lim : S → S3 → S3 → Prop) (J : S → S3 → S3 → S × ER S3) (s : S) (F : M) (st : ES) (new : Option S3) (a : Addr) (kept : List (Key × D)) (d jd : D), ds = [.ref a, d, oD new, jd] ∧ JB W jd rep foot lim J ∧ (∀ s m, rep s m → ∃ o : SO, o.a = a ∧ SOk m o ∧ isS W o.C ∧ o.kept = kept) ∧
  rep s m ∧ sLim lim kept st s ∧ Sub F m ∧ Av F foot ∧ StAt F foot st d ∧ SPre kept st new ∧ (∀ l, st.fresh = some l → l.length < sizeLine) ∧
  (∀ s' st' d' m', stepJ J kept st new s = (s', .ok st') → rep s' m' → Sub F m' → StAt m' foot st' d' → Q d' m') ∧ (∀ s' c x m', stepJ J kept st new s = (s', .error (c, x)) → rep s' m' → Sub F m' → E c x m')
theorem ok_EvenSums_stepped {W : Wo} {f : Addr} {fd : FuncData} (T : Txt W) (D_EvenSums_single_1 : DM W 1 (fun C => C = He.ga W.K "EvenSums") "single" 1 [] (fun ds _ => ds) (fun _ => sp_Sums_single W)) (F : FunD W.K "stepped" "EvenSums.stepped" (defArgs s_EvenSums_stepped) (defBody s_EvenSums_stepped) (defScope s_EvenSums_stepped) [] [] f fd) (hcd : fd.code = .ref (cdA W.K ("EvenSums", some "stepped"))) : FnG W.P W.w W.K W.mg W.base W.gd 17 f fd ["self", "state", "new", "joined"] (upSp (sp_EvenSums_stepped W)) := by
  refine okDc (.ref (cdA W.K ("EvenSums", some "stepped"))) [] F hcd sc_EvenSums_stepped (by decide +kernel) (by decide +kernel) (fun ds m Q E h => ?_) (fun A outer s H EV ca ds m Q E hr hca xc tk h => ?_)
  · obtain ⟨_, _, _, _, _, _, _, _, _, _, _, _, jd, rfl, _⟩ := h
    rfl
  · have hu := huG hr
    obtain ⟨S, rep, foot, lim, J, s', F', st, new, a, kept, d, jd, rfl, B, hrd, hr', hlm, hs, ha, hst, hp, hl, kQ, kE⟩ := h
    obtain ⟨p, fq, rfl, hp1, hp2, hfq⟩ := hst
    refine ⟨_, (dss_cons (ds_asg (dv 1) (dg_tup (n := 4) (by rfl) (dgs_cons (dg_name (i := 4) sc_EvenSums_stepped.nd rfl (Or.inl rfl)) (dgs_cons (dg_name (i := 5) sc_EvenSums_stepped.nd rfl (Or.inl rfl)) (dgs_cons (dg_name (i := 6) sc_EvenSums_stepped.nd rfl (Or.inl rfl)) (dgs_cons (dg_name (i := 7) sc_EvenSums_stepped.nd rfl (Or.inl rfl)) dgs_nil))))))
      (dss_cons (ds_if (PW.pt (dw_and (dt_cmpR o_isN (dv 6) dnon (nomark _)) (dw_and1 (PW.pt (dw_or (dt_cmpR o_isN (dv 5) dnon (nomark _)) (dw_or1 (dt_cmpR o_le (de_op o_sub (de_ix x_ixT (dv 5) dint (fun _ _ => rfl)) (de_ix x_ixT (dv 5) dint (fun _ _ => rfl))) (de_callB c_lenL (by rfl) T.b_len (by decide +kernel) (da_cons (dv 4) da_nil)) (nomark _)))))))) (dss_one (ds_ret (dv 1))) dss_nil)
      (dss_cons (ds_set (i := 8) sc_EvenSums_stepped.nd rfl (Or.inl rfl) (de_ifExp (dt_cmpR (o_neE hr.units0) (dv 4) (de_lst da_nil) (nomark _)) (de_ix x_ixT (de_ix x_ixL (dv 4) (de_un u_neg dint) (fun _ _ => rfl)) dint (fun _ _ => rfl)) (de_ix x_ixT (dv 5) dint (fun _ _ => rfl))))
      (dss_cons (ds_if (dt_cmpR o_isN (dv 6) dnon (nomark _)) (dss_cons (ds_set (i := 9) sc_EvenSums_stepped.nd rfl (Or.inl rfl) (de_op o_sub (de_ix x_ixT (dv 5) dint (fun _ _ => rfl)) dint))
        (dss_one (ds_set (i := 6) sc_EvenSums_stepped.nd rfl (Or.inl rfl) (de_lst (da_cons (de_ifExp (PW.pt (dw_and (dt_cmpR o_notN (dv 2) dnon (nomark _)) (dw_and1 (dt_cmpR o_eqI (de_ix x_ixT (dv 2) dint (fun _ _ => rfl)) (dv 9) (nomark _))))) (dv 2) (de_mth D_EvenSums_single_1 (dv 0) hr (xc_nil sc_EvenSums_stepped.nd) tk (da_cons (dv 9) da_nil) dk_nil)) da_nil))))) (dss_one (ds_if (dt_cmpR o_gt (de_ix x_ixT (de_ix x_ixL (dv 6) (de_un u_neg dint) (fun _ _ => rfl)) dint (fun _ _ => rfl)) (dv 8) (nomark _)) (dss_one (ds_set (i := 6) sc_EvenSums_stepped.nd rfl (Or.inl rfl) (de_op o_addL (dv 6) (de_lst (da_cons (de_loc (W := W) (ks := []) (i := 3) hr rfl (by first | exact Or.inl rfl | exact Or.inr (Or.inl rfl) | exact Or.inr (Or.inr rfl)) (xc_nil sc_EvenSums_stepped.nd) tk (da_cons (de_mth D_EvenSums_single_1 (dv 0) hr (xc_nil sc_EvenSums_stepped.nd) tk (da_cons (de_op o_sub (de_ix x_ixT (de_ix x_ixL (dv 6) (de_un u_neg dint) (fun _ _ => rfl)) dint (fun _ _ => rfl)) dint) da_nil) dk_nil) (da_cons (de_ix x_ixL (dv 6) (de_un u_neg dint) (fun _ _ => rfl)) da_nil)) dk_nil 16) da_nil))))) dss_nil)))
      (dss_cons (ds_if (dt_cmpR o_gt (de_ix x_ixT (de_ix x_ixL (dv 6) (de_un u_neg dint) (fun _ _ => rfl)) dint (fun _ _ => rfl)) (dv 8) (nomark _)) (dss_one (ds_ret (de_tup (da_cons (dv 4) (da_cons (dv 5) (da_cons (dv 6) (da_cons (dv 7) da_nil))))))) dss_nil)
      (dss_one (ds_ret (de_tup (da_cons (dv 6) (da_cons (dv 7) (da_cons dnon (da_cons dnon da_nil)))))))))))), ?_⟩
    clear hcd hu xc tk hr
    have hp1' := hs _ _ hp1
    refine seqL fun K hK => ?_
    walk_at "r1"
    refine hK _ _ ?_
    clear hK K
    refine seqJ (fun δ m' => m' = m ∧ idle st = false ∧ δ = [some (.ref a), some (.tup [.ref p, oD st.back, fq, oD st.later]), some (oD new), some jd, some (.ref p), some (oD st.back), some fq, some (oD st.later), none, none]) (fun K hK => ?_) ?_
    · obtain ⟨fr, bk, fs, lt⟩ := st
      cases fs with
      | some l =>
        obtain ⟨q, rfl, hq1, hq2⟩ := hfq
        walk_at "r1"
        exact hK _ _ ⟨rfl, rfl, rfl⟩
      | none =>
        cases (show fq = .non from hfq)
        cases bk with
        | none =>
          walk_at "r1"
          exact Wk.here (kQ _ _ _ _ rfl hr' hs ⟨p, .non, rfl, hp1', hp2, rfl⟩)
        | some b =>
          walk_at "r1"
          walk_at "go"
          split
          · rename_i hc
            exact Wk.here (kQ _ _ _ _ (stepJ_idle (by simpa [idle] using hc)) hr' hs ⟨p, .non, rfl, hp1', hp2, rfl⟩)
          · rename_i hc
            exact hK _ _ ⟨rfl, by simpa [idle] using hc, rfl⟩
    rintro δ' m' ⟨rfl, hid, rfl⟩
    have hbk : st.front ≠ [] ∨ st.back ≠ none := by
      cases hf : st.fresh with
      | some l => exact (hp.fr l hf).2
      | none => exact .inr fun z => by simp [idle, hf, z] at hid
    refine seqJ (fun δ m2 => Sub m' m2 ∧ δ = [some (.ref a), some (.tup [.ref p, oD st.back, fq, oD st.later]), some (oD new), some jd, some (.ref p), some (oD st.back), some fq, some (oD st.later), some (.int (oldest st)), none]) (fun K hK => ?_) ?_
    · walk_at "r1"
      intro p1 np1
      have sb1 : Sub m' (put m' p1 (.lst [])) := by walk_at "sb"
      walk_at "go"
      rcases hfe : st.front.getLast? with _ | z
      · have e0 : st.front = [] := List.getLast?_eq_none_iff.mp hfe
        obtain ⟨b, hb⟩ := Option.ne_none_iff_exists'.mp (hbk.resolve_left (fun z => z e0))
        have ho : oldest st = b.f := by unfold oldest; rw [hfe, hb]
        rw [if_neg (by rw [e0]; decide)]
        exact ⟨_, by rw [hb]; rfl, _, rfl, hK _ _ ⟨sb1, by rw [ho]⟩⟩
      · have e0 : st.front ≠ [] := by intro e; rw [e] at hfe; cases hfe
        have ho : oldest st = z.f := by unfold oldest; rw [hfe]
        rw [if_pos (by rw [emp_map]; cases h : st.front with | nil => exact absurd h e0 | cons _ _ => rfl)]
        exact ⟨_, by walk_at "hg", _, atI_last (last_map hfe), _, rfl, _, rfl, hK _ _ ⟨sb1, by rw [ho]⟩⟩
    rintro δ' m2 ⟨sb2, rfl⟩
    have hr2 := B.mono _ _ _ hr' sb2
    have hs2 := hs.trans sb2
    refine seqJ (fun δ m3 => ∃ (q : Addr) (l' : List S3) (s3 : S) (nw : Option D), δ = [some (.ref a), some (.tup [.ref p, oD st.back, fq, oD st.later]), some (oD new), some jd, some (.ref p), some (oD st.back), some (.ref q), some (oD st.later), some (.int (oldest st)), nw] ∧ m3 q = some (.lst (l'.map S3.d)) ∧ l' ≠ [] ∧ ¬ foot q ∧ rep s3 m3 ∧ Sub F' m3 ∧ stepJ J kept st new s' = (s3, .ok (finS st l'))) (fun K hK => ?_) ?_
    · cases hfs : st.fresh with
      | none =>
        rw [hfs] at hfq
        subst hfq
        obtain ⟨b, hb⟩ : ∃ b, st.back = some b := by
          cases hb : st.back with
          | none => simp [idle, hfs, hb] at hid
          | some b => exact ⟨b, rfl⟩
        have hnl : ¬ (b.e - b.f ≤ st.front.length) := by simpa [idle, hfs, hb] using hid
        have hstep := stepJ_first (J := J) (kept := kept) (new := new) (s := s') hid hfs hb
        obtain ⟨o, rfl, ho, hC, rfl⟩ := hrd _ _ hr2
        obtain ⟨ob, ke, en⟩ := id ho
        have fin : ∀ (x : S3) (nw : Option D) (q : Addr), firstS o.kept b new = x → m2 q = none → K [some (.ref o.a), some (.tup [.ref p, oD st.back, .non, oD st.later]), some (oD new), some jd, some (.ref p), some (oD st.back), some (.ref q), some (oD st.later), some (.int (oldest st)), nw] (put m2 q (.lst [x.d])) := fun x nw q hx nq =>
          hK _ _ ⟨q, [x], s', nw, rfl, put_same, by simp, fun hf => B.dom _ _ _ hr2 hf nq, B.mono _ _ _ hr2 (by walk_at "sb"), hs2.trans (by walk_at "sb"), by rw [hstep, hx]⟩
        rw [hb] at fin ⊢
        have single : (valD o.kept (.inl (b.e - 1))).isSome → sp_Sums_single W [.ref o.a, .int (b.e - 1)] m2 (fun d m3 => ∀ q, m3 q = none → m3 = m2 ∧ d = (sngl o.kept (b.e - 1)).d) (fun c x m4 => False) := fun hv => by
          obtain ⟨d, hd⟩ := Option.isSome_iff_exists.mp hv
          exact ⟨o, _, d, rfl, ho, hC, hd, fun q _ => ⟨rfl, by unfold sngl; rw [hd]; rfl⟩⟩
        cases new with
        | none =>
          have hv := (hp.k1 b hfs hb hnl).resolve_left (fun ⟨w, e, _⟩ => by cases e)
          obtain ⟨d, hd⟩ := Option.isSome_iff_exists.mp hv
          walk_at "rd"
          walk_at "go"
          refine ⟨o, _, d, rfl, ho, hC, hd, fun q nq => fin ⟨b.e - 1, b.e - 1 + 1, d⟩ _ q ?_ nq⟩
          unfold firstS sngl
          simp only [hd]
          rfl
        | some w =>
          walk_at "rd"
          walk_at "go"
          split
          · rename_i hw
            exact fun q nq => fin w _ q (by unfold firstS; simp only [hw, if_true]) nq
          · rename_i hw
            have hv := (hp.k1 b hfs hb hnl).resolve_left (fun ⟨w', e, e2⟩ => by cases e; exact hw e2)
            obtain ⟨d, hd⟩ := Option.isSome_iff_exists.mp hv
            walk_at "go"
            refine ⟨o, _, d, rfl, ho, hC, hd, fun q nq => fin ⟨b.e - 1, b.e - 1 + 1, d⟩ _ q ?_ nq⟩
            unfold firstS sngl
            simp only [hd, hw, if_false]
            rfl
      | some l =>
        rw [hfs] at hfq
        obtain ⟨q, rfl, hq1, hq2⟩ := hfq
        obtain ⟨hln, _⟩ := hp.fr l hfs
        obtain ⟨z, hz⟩ := last_ex hln
        have hq1' := hs2 _ _ hq1
        obtain ⟨o, rfl, ho, hC, rfl⟩ := hrd _ _ hr2
        obtain ⟨ob, ke, en⟩ := id ho
        walk_at "r1"
        refine ⟨_, hq1', _, atI_last (last_map hz), ?_⟩
        walk_at "go"
        split
        · rename_i hlt
          obtain ⟨d, hd⟩ := Option.isSome_iff_exists.mp (hp.k2 l z hfs hz hlt)
          have hsg : sngl o.kept (z.f - 1) = ⟨z.f - 1, z.f - 1 + 1, d⟩ := by unfold sngl; rw [hd]; rfl
          refine ⟨_, _, _, ob, hC, rfl, _, hq1', _, atI_last (last_map hz), _, rfl, _, rfl, _, rfl, o, _, d, rfl, ho, hC, hd, _, hq1', _, atI_last (last_map hz), B.keep _ _ hr2, ?_⟩
          refine B.run s' m2 ⟨z.f - 1, z.f - 1 + 1, d⟩ z F' _ _ hr2 (hsg ▸ hlm l z hfs hz hlt) hs2 ha (fun s3 y m3 e r3 b3 => ?_) (fun s3 c x m3 e r3 b3 => Wk.here (kE _ _ _ _ (stepJ_err hid hfs hz hlt (by rw [hsg]; exact e)) r3 b3))
          intro p1 n1
          have hq3 := b3 _ _ hq1
          refine ⟨_, put_old n1 hq3, _, rfl, by have := hl l hfs; simp only [List.length_map, List.length_cons, List.length_nil]; omega, fun p2 n2 => ?_⟩
          have sb3 : Sub m3 (put (put m3 p1 (.lst [y.d])) p2 (.lst (l.map S3.d ++ [y.d]))) := by
            obtain ⟨n2', _⟩ := put_free n2
            walk_at "sb"
          exact hK _ _ ⟨p2, l ++ [y], s3, _, rfl, by rw [List.map_append]; exact put_same, by simp, fun hf => B.dom _ _ _ (B.mono _ _ (put m3 p1 (.lst [y.d])) r3 (by walk_at "sb")) hf n2, B.mono _ _ _ r3 sb3, b3.trans sb3, stepJ_ok hid hfs hz hlt (by rw [hsg]; exact e)⟩
        · rename_i hlt
          exact hK _ _ ⟨q, l, s', none, rfl, hq1', hln, hq2, hr2, hs2, stepJ_rest hid hfs hz hlt⟩
    rintro δ' m3 ⟨q, l', s3, nw, rfl, hq, hln, hnf, hr3, hs3, hstep⟩
    obtain ⟨z, hz⟩ := last_ex hln
    have hlf : lastf l' = z.f := by unfold lastf; rw [hz]
    walk_at "rd"
    refine ⟨_, hq, _, atI_last (last_map hz), ?_⟩
    walk_at "go"
    have hp3 := hs3 _ _ hp1
    split
    · rename_i hlt
      have e : finS st l' = { st with fresh := some l' } := by unfold finS; rw [hlf, if_pos hlt]
      rw [e] at hstep
      exact Wk.here (kQ _ _ _ _ hstep hr3 hs3 ⟨p, .ref q, rfl, hp3, hp2, q, rfl, hq, hnf⟩)
    · rename_i hlt
      have e : finS st l' = ⟨l', st.later, none, none⟩ := by unfold finS; rw [hlf, if_neg hlt]
      rw [e] at hstep
      exact Wk.here (kQ _ _ _ _ hstep hr3 hs3 ⟨q, .non, rfl, hq, hnf, rfl⟩)
abbrev s_EvenSums_after_add : Stmt := inClass (top 9) 2
theorem sc_EvenSums_after_add : FnScope ["self", "state", "new", "joined", "front", "back", "fresh", "later"] ["self", "state", "new", "joined"] (defScope s_EvenSums_after_add) := ⟨rfl, rfl, rfl, by decide +kernel, rfl, by decide +kernel, by decide +kernel⟩
def sp_EvenSums_after_add (W : Wo) : DSp := fun ds m Q E => ∃ (S : Type) (rep : S → M → Prop) (foot : Addr → Prop) (lim : S → S3 → S3 → Prop) (J : S → S3 → S3 → S × ER S3) (s : S) (F : M) (st : ES) (n : S3) (a : Addr) (kept : List (Key × D)) (d jd : D), ds = [.ref a, d, n.d, jd] ∧ JB W jd rep foot lim J ∧ (∀ s m, rep s m → ∃ o : SO, o.a = a ∧ SOk m o ∧ isS W o.C ∧ o.kept = kept) ∧
  rep s m ∧ Sub F m ∧ Av F foot ∧ StAt F foot st d ∧ APre J lim kept st n s ∧ (∀ l, st.fresh = some l → l.length < sizeLine) ∧
  (∀ s' st' d' m', addJ J kept st n s = (s', .ok st') → rep s' m' → Sub F m' → StAt m' foot st' d' → Q d' m') ∧ (∀ s' c x m', addJ J kept st n s = (s', .error (c, x)) → rep s' m' → Sub F m' → E c x m')
theorem ok_EvenSums_after_add {W : Wo} {f : Addr} {fd : FuncData} (T : Txt W) (D_EvenSums_stepped_3 : DM W 17 (fun C => C = He.ga W.K "EvenSums") "stepped" 3 [] (fun ds _ => ds) (fun _ => sp_EvenSums_stepped W)) (D_grown_3 : DF W 17 "grown" 3 [] (fun ds _ => ds) (sp_grown W)) (F : FunD W.K "after_add" "EvenSums.after_add" (defArgs s_EvenSums_after_add) (defBody s_EvenSums_after_add) (defScope s_EvenSums_after_add) [] [] f fd) (hcd : fd.code = .ref (cdA W.K ("EvenSums", some "after_add"))) : FnG W.P W.w W.K W.mg W.base W.gd 18 f fd ["self", "state", "new", "joined"] (upSp (sp_EvenSums_after_add W)) := by
  refine okDc (.ref (cdA W.K ("EvenSums", some "after_add"))) [] F hcd sc_EvenSums_after_add (by decide +kernel) (by decide +kernel) (fun ds m Q E h => ?_) (fun A outer s H EV ca ds m Q E hr hca xc tk h => ?_)
  · obtain ⟨_, _, _, _, _, _, _, _, _, _, _, _, jd, rfl, _⟩ := h
    rfl
  · have hu := huG hr
    obtain ⟨S, rep, foot, lim, J, s', F', st, n, a, kept, d, jd, rfl, B, hrd, hr', hs, ha, hst, hp, hl, kQ, kE⟩ := h
    obtain ⟨p, fq, rfl, hp1, hp2, hfq⟩ := hst
    refine ⟨_, (dss_cons (ds_asg (dv 1) (dg_tup (n := 4) (by rfl) (dgs_cons (dg_name (i := 4) sc_EvenSums_after_add.nd rfl (Or.inl rfl)) (dgs_cons (dg_name (i := 5) sc_EvenSums_after_add.nd rfl (Or.inl rfl)) (dgs_cons (dg_name (i := 6) sc_EvenSums_after_add.nd rfl (Or.inl rfl)) (dgs_cons (dg_name (i := 7) sc_EvenSums_after_add.nd rfl (Or.inl rfl)) dgs_nil))))))
      (dss_cons (ds_if (dt_cmpR o_isN (dv 6) dnon (nomark _)) (dss_one (ds_ret (de_mth D_EvenSums_stepped_3 (dv 0) hr (xc_nil sc_EvenSums_after_add.nd) tk (da_cons (de_tup (da_cons (dv 4) (da_cons (de_fn D_grown_3 hr (by rfl) (xc_nil sc_EvenSums_after_add.nd) tk (da_cons (dv 5) (da_cons (dv 2) (da_cons (dv 3) da_nil))) dk_nil) (da_cons dnon (da_cons dnon da_nil))))) (da_cons (dv 2) (da_cons (dv 3) da_nil))) dk_nil))) dss_nil)
      (dss_one (ds_ret (de_mth D_EvenSums_stepped_3 (dv 0) hr (xc_nil sc_EvenSums_after_add.nd) tk (da_cons (de_tup (da_cons (dv 4) (da_cons (dv 5) (da_cons (dv 6) (da_cons (de_fn D_grown_3 hr (by rfl) (xc_nil sc_EvenSums_after_add.nd) tk (da_cons (dv 7) (da_cons (dv 2) (da_cons (dv 3) da_nil))) dk_nil) da_nil))))) (da_cons (dv 2) (da_cons (dv 3) da_nil))) dk_nil))))), ?_⟩
    clear hcd hu xc tk hr
    obtain ⟨fr, bk, fs, lt⟩ := st
    obtain ⟨o, rfl, ho, hC, rfl⟩ := hrd _ _ hr'
    obtain ⟨ob, ke, en⟩ := id ho
    cases fs with
    | none =>
      cases (show fq = .non from hfq)
      walk_at "rd"
      refine ⟨_, _, _, ob, hC, rfl, S, rep, foot, lim, J, s', F', bk, n, jd, rfl, B, hr', fun b' e => hp.l1 b' rfl e, hs, ha, fun s1 b m1 e r1 b1 => ?_, fun s1 c x m1 e r1 b1 => Wk.here (kE _ _ _ _ (by unfold addJ; simp only [e]) r1 b1)⟩
      obtain ⟨sp, hl1⟩ := hp.a s1 b rfl e
      walk_at "go"
      exact ⟨S, rep, foot, lim, J, s1, F', ⟨fr, some b, none, none⟩, some n, o.a, o.kept, _, jd, rfl, B, hrd, r1, hl1, b1, ha, ⟨p, .non, rfl, hp1, hp2, rfl⟩, sp, fun l z => (by cases z), fun s2 st2 d2 m2 e2 r2 b2 a2 => Wk.here (kQ _ _ _ _ (by unfold addJ; simp only [e]; exact e2) r2 b2 a2), fun s2 c x m2 e2 r2 b2 => Wk.here (kE _ _ _ _ (by unfold addJ; simp only [e]; exact e2) r2 b2)⟩
    | some l =>
      obtain ⟨q, rfl, hq1, hq2⟩ := hfq
      walk_at "rd"
      refine ⟨_, _, _, ob, hC, rfl, S, rep, foot, lim, J, s', F', lt, n, jd, rfl, B, hr', fun b' e => hp.l2 b' l rfl e, hs, ha, fun s1 b m1 e r1 b1 => ?_, fun s1 c x m1 e r1 b1 => Wk.here (kE _ _ _ _ (by unfold addJ; simp only [e]) r1 b1)⟩
      obtain ⟨sp, hl1⟩ := hp.b s1 b l rfl e
      walk_at "go"
      exact ⟨S, rep, foot, lim, J, s1, F', ⟨fr, bk, some l, some b⟩, some n, o.a, o.kept, _, jd, rfl, B, hrd, r1, hl1, b1, ha, ⟨p, .ref q, rfl, hp1, hp2, q, rfl, hq1, hq2⟩, sp, fun l' z => (by cases z; exact hl l rfl), fun s2 st2 d2 m2 e2 r2 b2 a2 => Wk.here (kQ _ _ _ _ (by unfold addJ; simp only [e]; exact e2) r2 b2 a2), fun s2 c x m2 e2 r2 b2 => Wk.here (kE _ _ _ _ (by unfold addJ; simp only [e]; exact e2) r2 b2)⟩
abbrev s_EvenSums_after_remove : Stmt := inClass (top 9) 3
theorem sc_EvenSums_after_remove : FnScope ["self", "state", "joined", "front", "back", "fresh", "later"] ["self", "state", "joined"] (defScope s_EvenSums_after_remove) := ⟨rfl, rfl, rfl, by decide +kernel, rfl, by decide +kernel, by decide +kernel⟩
def sp_EvenSums_after_remove (W : Wo) : DSp := fun ds m Q E => ∃ (S : Type) (rep : S → M → Prop) (foot : Addr → Prop) (lim : S → S3 → S3 → Prop) (J : S → S3 → S3 → S × ER S3) (s : S) (F : M) (st : ES) (a : Addr) (kept : List (Key × D)) (d jd : D), ds = [.ref a, d, jd] ∧ JB W jd rep foot lim J ∧ (∀ s m, rep s m → ∃ o : SO, o.a = a ∧ SOk m o ∧ isS W o.C ∧ o.kept = kept) ∧
  rep s m ∧ sLim lim kept ⟨st.front.dropLast, st.back, st.fresh, st.later⟩ s ∧ Sub F m ∧ Av F foot ∧ StAt F foot st d ∧ SPre kept ⟨st.front.dropLast, st.back, st.fresh, st.later⟩ none ∧ (∀ l, st.fresh = some l → l.length < sizeLine) ∧
  (∀ s' st' d' m', remJ J kept st s = (s', .ok st') → rep s' m' → Sub F m' → StAt m' foot st' d' → Q d' m') ∧ (∀ s' c x m', remJ J kept st s = (s', .error (c, x)) → rep s' m' → Sub F m' → E c x m')
theorem ok_EvenSums_after_remove {W : Wo} {f : Addr} {fd : FuncData} (T : Txt W) (D_EvenSums_stepped_3 : DM W 17 (fun C => C = He.ga W.K "EvenSums") "stepped" 3 [] (fun ds _ => ds) (fun _ => sp_EvenSums_stepped W)) (F : FunD W.K "after_remove" "EvenSums.after_remove" (defArgs s_EvenSums_after_remove) (defBody s_EvenSums_after_remove) (defScope s_EvenSums_after_remove) [] [] f fd) (hcd : fd.code = .ref (cdA W.K ("EvenSums", some "after_remove"))) : FnG W.P W.w W.K W.mg W.base W.gd 18 f fd ["self", "state", "joined"] (upSp (sp_EvenSums_after_remove W)) := by
  refine okDc (.ref (cdA W.K ("EvenSums", some "after_remove"))) [] F hcd sc_EvenSums_after_remove (by decide +kernel) (by decide +kernel) (fun ds m Q E h => ?_) (fun A outer s H EV ca ds m Q E hr hca xc tk h => ?_)
  · obtain ⟨_, _, _, _, _, _, _, _, _, _, _, jd, rfl, _⟩ := h
    rfl
  · have hu := huG hr
    obtain ⟨S, rep, foot, lim, J, s', F', st, a, kept, d, jd, rfl, B, hrd, hr', hlm, hs, ha, hst, hp, hl, kQ, kE⟩ := h
    obtain ⟨p, fq, rfl, hp1, hp2, hfq⟩ := hst
    refine ⟨_, (dss_cons (ds_asg (dv 1) (dg_tup (n := 4) (by rfl) (dgs_cons (dg_name (i := 3) sc_EvenSums_after_remove.nd rfl (Or.inl rfl)) (dgs_cons (dg_name (i := 4) sc_EvenSums_after_remove.nd rfl (Or.inl rfl)) (dgs_cons (dg_name (i := 5) sc_EvenSums_after_remove.nd rfl (Or.inl rfl)) (dgs_cons (dg_name (i := 6) sc_EvenSums_after_remove.nd rfl (Or.inl rfl)) dgs_nil))))))
      (dss_one (ds_ret (de_mth D_EvenSums_stepped_3 (dv 0) hr (xc_nil sc_EvenSums_after_remove.nd) tk (da_cons (de_tup (da_cons (de_slice s_list (dv 3) do_none (do_some (de_un u_neg dint))) (da_cons (dv 4) (da_cons (dv 5) (da_cons (dv 6) da_nil))))) (da_cons dnon (da_cons (dv 2) da_nil))) dk_nil)))), ?_⟩
    clear hcd hu xc tk hr
    obtain ⟨fr, bk, fs, lt⟩ := st
    obtain ⟨o, rfl, ho, hC, rfl⟩ := hrd _ _ hr'
    obtain ⟨ob, ke, en⟩ := id ho
    have hp1' := hs _ _ hp1
    walk_at "rd"
    walk_at "go"
    intro pn nn
    rw [cut_init, ← List.map_dropLast]
    have hfn : ¬ foot pn := fun hf => B.dom _ _ _ hr' hf nn
    have nF := sub_nil hs nn
    have sb1 : Sub F' (put F' pn (.lst (fr.dropLast.map S3.d))) := by walk_at "sb"
    refine ⟨S, rep, foot, lim, J, s', put F' pn (.lst (fr.dropLast.map S3.d)), ⟨fr.dropLast, bk, fs, lt⟩, none, o.a, o.kept, _, jd, rfl, B, hrd, B.mono _ _ _ hr' (by walk_at "sb"), hlm, sub_put2 hs, av_put ha hfn, ⟨pn, fq, rfl, put_same, hfn, ?_⟩, hp, hl, fun s2 st2 d2 m2 e2 r2 b2 a2 => Wk.here (kQ _ _ _ _ e2 r2 (sb1.trans b2) a2), fun s2 c x m2 e2 r2 b2 => Wk.here (kE _ _ _ _ e2 r2 (sb1.trans b2))⟩
    cases fs with
    | none => exact hfq
    | some l =>
      obtain ⟨q, rfl, hq1, hq2⟩ := hfq
      exact ⟨q, rfl, sb1 _ _ hq1, hq2⟩
abbrev s_EvenSums_parts : Stmt := inClass (top 9) 5
theorem sc_EvenSums_parts : FnScope ["self", "front", "back", "fresh", "later", "one"] ["self"] (defScope s_EvenSums_parts) := ⟨rfl, rfl, rfl, by decide +kernel, rfl, by decide +kernel, by decide +kernel⟩
def sp_EvenSums_parts (W : Wo) : DSp := fun ds m Q E => ∃ (o : SO) (st : ES) (p : Addr) (fq : D), ds = [.ref o.a] ∧ SOk m o ∧ isS W o.C ∧ o.state = .tup [.ref p, oD st.back, fq, oD st.later] ∧ m p = some (.lst (st.front.map S3.d)) ∧
  (∀ q m', Sub m m' → m q = none → m' q = some (.lst ((partsE st).map S3.d)) → Q (.ref q) m')
theorem ok_EvenSums_parts {W : Wo} {f : Addr} {fd : FuncData} (T : Txt W)  (F : FunD W.K "parts" "EvenSums.parts" (defArgs s_EvenSums_parts) (defBody s_EvenSums_parts) (defScope s_EvenSums_parts) [] [] f fd) (hcd : fd.code = .ref (cdA W.K ("EvenSums", some "parts"))) : FnG W.P W.w W.K W.mg W.base W.gd 18 f fd ["self"] (upSp (sp_EvenSums_parts W)) := by
  refine okDc (.ref (cdA W.K ("EvenSums", some "parts"))) [] F hcd sc_EvenSums_parts (by decide +kernel) (by decide +kernel) (fun ds m Q E h => ?_) (fun A outer s H EV ca ds m Q E hr hca xc tk h => ?_)
  · obtain ⟨o, _, _, _, rfl, _⟩ := h
    rfl
  · have hu := huG hr
    obtain ⟨o, st, p, fq, rfl, ho, hC, hst, hp, k⟩ := h
    refine ⟨_, (dss_cons (ds_asg (de_fk W.K (dv 0)) (dg_tup (n := 4) (by rfl) (dgs_cons (dg_name (i := 1) sc_EvenSums_parts.nd rfl (Or.inl rfl)) (dgs_cons (dg_name (i := 2) sc_EvenSums_parts.nd rfl (Or.inl rfl)) (dgs_cons (dg_name (i := 3) sc_EvenSums_parts.nd rfl (Or.inl rfl)) (dgs_cons (dg_name (i := 4) sc_EvenSums_parts.nd rfl (Or.inl rfl)) dgs_nil))))))
      (dss_one (ds_ret (de_lc (own := [("one", 5)]) (.one 5) rfl sc_EvenSums_parts.nd (di_list (de_op o_addL (de_slice s_list (dv 1) (do_some (de_un u_neg dint)) do_none) (de_lst (da_cons (dv 2) (da_cons (dv 4) da_nil))))) (blkOk_by (own := [("one", 5)]) (N := ["self", "front", "back", "fresh", "later", "one"]) (sc := defScope s_EvenSums_parts) (by decide +kernel)) (by decide) (fun _ _ _ _ _ => (pg_name (i := 5) sc_EvenSums_parts.nd rfl (Or.inl rfl))) (fun _ _ _ _ _ => (dts_one (dt_cmpR o_notN (dv 5) dnon (nomark _)))) (fun _ _ _ _ _ => (dv 5)))))), ?_⟩
    clear hcd hu xc tk hr
    obtain ⟨_, _, _, _, _, _, _, _⟩ := T.lc hC
    obtain ⟨ob, ke, en⟩ := id ho
    obtain ⟨fr, bk, fs, lt⟩ := st
    walk_at "rd"
    walk_at "go"
    intro p1 n1 p2 n2
    refine ⟨_, put_old n2 put_same, _, rfl, ?_, ?_⟩
    · rw [cut_last]
      simp only [List.length_cons, List.length_nil]
      have : (List.map S3.d fr).getLast?.toList.length ≤ 1 := by cases (List.map S3.d fr).getLast? <;> simp
      have : (100 : Nat) ≤ sizeLine := by decide
      omega
    intro p3 n3
    refine ⟨_, rfl, fun b nb => ?_⟩
    rw [← parts_d (st := ⟨fr, bk, fs, lt⟩)]
    obtain ⟨n4, n5⟩ := put_free nb
    obtain ⟨n6, n7⟩ := put_free n4
    obtain ⟨n8, n9⟩ := put_free n6
    obtain ⟨n3a, n3b⟩ := put_free n3
    obtain ⟨n3c, n3d⟩ := put_free n3a
    obtain ⟨n2a, n2b⟩ := put_free n2
    refine lc_nn (by simp) (fun ys => by walk_at "hg") _ [] ?_ ?_
    · have : fr.getLast?.toList.length ≤ 1 := by cases fr.getLast? <;> simp
      have : (100 : Nat) ≤ sizeLine := by decide
      simp only [List.length_append, List.length_map, List.length_cons, List.length_nil]
      omega
    · rw [parts_opt]
      exact Wk.here (k b _ (by walk_at "sb") n8 (by rw [List.nil_append]; exact put_same))
abbrev s_Sums_whole : Stmt := inClass (top 7) 6
theorem sc_Sums_whole : FnScope ["self", "joined", "parts", "found", "part"] ["self", "joined"] (defScope s_Sums_whole) := ⟨rfl, rfl, rfl, by decide +kernel, rfl, by decide +kernel, by decide +kernel⟩
def sp_Sums_whole (W : Wo) : DSp := fun ds m Q E => ∃ (S : Type) (rep : S → M → Prop) (foot : Addr → Prop) (lim : S → S3 → S3 → Prop) (J : S → S3 → S3 → S × ER S3) (s : S) (F : M) (st : ES) (a : Addr) (p : Addr) (fq zero jd : D), ds = [.ref a, jd] ∧ JB W jd rep foot lim J ∧ (∀ s m, rep s m → ∃ o : SO, o.a = a ∧ SOk m o ∧ isS W o.C ∧ o.zero = zero ∧ o.state = .tup [.ref p, oD st.back, fq, oD st.later]) ∧
  rep s m ∧ Sub F m ∧ Av F foot ∧ F p = some (.lst (st.front.map S3.d)) ∧ (∀ x r, partsE st = x :: r → wLim J lim x r s) ∧
  (∀ m', partsE st = [] → rep s m' → Sub F m' → Q zero m') ∧ (∀ x r s' z m', partsE st = x :: r → wholeJ J x r s = (s', .ok z) → rep s' m' → Sub F m' → Q z.v m') ∧ (∀ x r s' c e m', partsE st = x :: r → wholeJ J x r s = (s', .error (c, e)) → rep s' m' → Sub F m' → E c e m')
theorem ok_Sums_whole {W : Wo} {f : Addr} {fd : FuncData} (T : Txt W) (D_EvenSums_parts_0 : DM W 18 (fun C => C = He.ga W.K "EvenSums") "parts" 0 [] (fun ds _ => ds) (fun _ => sp_EvenSums_parts W)) (F : FunD W.K "whole" "Sums.whole" (defArgs s_Sums_whole) (defBody s_Sums_whole) (defScope s_Sums_whole) [] [] f fd) (hcd : fd.code = .ref (cdA W.K ("Sums", some "whole"))) : FnG W.P W.w W.K W.mg W.base W.gd 19 f fd ["self", "joined"] (upSp (sp_Sums_whole W)) := by
  refine okDc (.ref (cdA W.K ("Sums", some "whole"))) [] F hcd sc_Sums_whole (by decide +kernel) (by decide +kernel) (fun ds m Q E h => ?_) (fun A outer s H EV ca ds m Q E hr hca xc tk h => ?_)
  · obtain ⟨_, _, _, _, _, _, _, _, _, _, _, _, _, rfl, _⟩ := h
    rfl
  · have hu := huG hr
    obtain ⟨S, rep, foot, lim, J, s', F', st, a, p, fq, zero, jd, rfl, B, hrd, hr', hs, ha, hp, hlm, kZ, kQ, kE⟩ := h
    refine ⟨_, (dss_cons (ds_set (i := 2) sc_Sums_whole.nd rfl (Or.inl rfl) (de_mth0 D_EvenSums_parts_0 (dv 0) hr (xc_nil sc_Sums_whole.nd) tk dk_nil))
      (dss_cons (ds_if (dt_cmpR (o_eqE hr.units0) (dv 2) (de_lst da_nil) (nomark _)) (dss_one (ds_ret (de_fk W.K (dv 0)))) dss_nil)
      (dss_cons (ds_set (i := 3) sc_Sums_whole.nd rfl (Or.inl rfl) (de_ix x_ixL (dv 2) dint (fun _ _ => rfl)))
      (dss_cons (ds_for (passes_of rfl) rfl (di_list (de_slice s_list (dv 2) (do_some dint) do_none)) (dg_name (i := 4) sc_Sums_whole.nd rfl (Or.inl rfl)) (dss_one (ds_set (i := 3) sc_Sums_whole.nd rfl (Or.inl rfl) (de_loc (W := W) (ks := []) (i := 1) hr rfl (by first | exact Or.inl rfl | exact Or.inr (Or.inl rfl) | exact Or.inr (Or.inr rfl)) (xc_nil sc_Sums_whole.nd) tk (da_cons (dv 3) (da_cons (dv 4) da_nil)) dk_nil 16))))
      (dss_one (ds_ret (de_ix x_ixT (dv 3) dint (fun _ _ => rfl)))))))), ?_⟩
    clear hcd hu xc tk hr
    obtain ⟨o, rfl, ho, hC, hz, hst⟩ := hrd _ _ hr'
    obtain ⟨_, _, _, _, _, _, _, _⟩ := T.lc hC
    obtain ⟨ob, ke, en⟩ := id ho
    refine seqL fun K hK => ?_
    walk_at "r1"
    walk_at "go"
    refine ⟨o, st, p, fq, rfl, ho, hC, hst, hs _ _ hp, fun q m1 sb1 nq hq => hK _ _ ?_⟩
    clear hK K
    have hr1 := B.mono _ _ _ hr' sb1
    have hs1 := hs.trans sb1
    have hnq : ¬ foot q := fun hf => B.dom _ _ _ hr' hf nq
    obtain ⟨ob1, _, _⟩ := (⟨sb1 _ _ ob, sb1 _ _ ke, sb1 _ _ en⟩ : SOk m1 o)
    cases hpt : partsE st with
    | nil =>
      rw [hpt] at hq
      walk_at "rd"
      intro p1 n1
      walk_at "go"
      rw [if_pos (by rfl)]
      walk_at "go"
      rw [hz]
      exact Wk.of (kZ _ hpt hr1 hs1) (by walk_at "sb")
    | cons x r =>
      rw [hpt] at hq
      have hlm' := hlm x r hpt
      refine seqL fun K hK => ?_
      walk_at "r1"
      intro p1 n1
      walk_at "go"
      rw [if_neg (by simp)]
      refine hK _ _ ?_
      clear hK K
      refine seqL fun K hK => ?_
      walk_at "r1"
      refine ⟨_, by walk_at "hg", x.d, by simp [atI, ixN], hK _ _ ?_⟩
      clear hK K
      refine seqL fun K hK => ?_
      walk_at "r1"
      walk_at "go"
      intro p2 n2
      obtain ⟨n2a, n2b⟩ := put_free n2
      have hn2 : ¬ foot p2 := fun hf => B.dom _ _ _ hr1 hf n2a
      rw [show G.cutD (List.map S3.d (x :: r)) (some 1) none = r.map S3.d from cut_tail]
      refine ⟨_, rfl, ?_⟩
      have nF := sub_nil hs1 n2a
      have sbF : Sub F' (put F' p2 (.lst (r.map S3.d))) := by walk_at "sb"
      refine forI (fun items δ m' => ∃ (y : S3) (l : List S3) (s2 : S) (w : Option D), items = l.map S3.d ∧ δ = [some (.ref o.a), some jd, some (.ref q), some y.d, w] ∧ rep s2 m' ∧ Sub (put F' p2 (.lst (r.map S3.d))) m' ∧ wLim J lim y l s2 ∧ wholeJ J x r s' = wholeJ J y l s2) ?_ ?_ _ _ _ ?_
      · rintro δ m' ⟨y, l, s2, w, el, rfl, r2, b2, w2, e2⟩
        cases l with
        | cons _ _ => cases el
        | nil =>
          refine ⟨b2 _ _ put_same, hK _ _ ?_⟩
          walk_at "rd"
          exact ⟨_, rfl, Wk.here (kQ _ _ _ _ _ hpt (by rw [e2]; rfl) r2 (sbF.trans b2))⟩
      · rintro x1 r1 δ m' ⟨y, l, s2, w, el, rfl, r2, b2, w2, e2⟩
        cases l with
        | nil => cases el
        | cons z l =>
          cases el
          refine ⟨b2 _ _ put_same, fun K2 hK2 => ?_⟩
          walk_at "rd"
          obtain ⟨l1, l2⟩ := w2
          refine ⟨B.keep _ _ r2, B.run s2 m' y z _ _ _ r2 l1 b2 (av_put ha hn2) (fun s3 t m3 e r3 b3 => hK2 _ _ ⟨t, l, s3, _, rfl, rfl, r3, b3, l2 _ _ e, ?_⟩) (fun s3 c e' m3 e r3 b3 => Wk.here (kE x r s3 c e' m3 hpt ?_ r3 (sbF.trans b3)))⟩
          · rw [e2]; show (match J s2 y z with | (s1, .ok z) => wholeJ J z l s1 | (s1, .error e) => (s1, .error e)) = _; rw [e]
          · rw [e2]; show (match J s2 y z with | (s1, .ok z) => wholeJ J z l s1 | (s1, .error e) => (s1, .error e)) = _; rw [e]
      · exact ⟨x, r, s', none, rfl, rfl, B.mono _ _ _ hr1 (by walk_at "sb"), sub_put2 (hs1.trans (by walk_at "sb")), hlm', rfl⟩
/-- what a call may change -/
def ftS (o : SO) (ufoot : Addr → Prop) : Addr → Prop := fun b => ufoot b ∨ b = o.a ∨ b = o.ka ∨ b = o.ea
structure USep (W : Wo) (m : M) (o : SO) (ufoot : Addr → Prop) : Prop where
  a : ¬ ufoot o.a
  ka : ¬ ufoot o.ka
  ea : ¬ ufoot o.ea
  t : ∀ b, tabA W b → ¬ ufoot b
  tm : TbM W m
/-- while a method runs that joins by its lambda -/
structure RepS (W : Wo) (o : SO) {U : Type} (urep : U → M → Prop) (f : Addr) (F : LF) (c : Addr) (s : U × List D) (m : M) : Prop where
  ok : SOk m { o with entries := s.2 }
  u : urep s.1 m
  tm : TbM W m
  hf : m f = some (.lm F)
  hc : m c = some (.cel (.ref o.a))
theorem jb_of {W : Wo} {o : SO} {U : Type} {urep : U → M → Prop} {ufoot : Addr → Prop} {ulim : U → D → D → Prop} {g : U → D → D → U × ER D} {f c : Addr} {F : LF} (hC : isS W o.C) (hb : o.busy = false) (B : UB W o.join urep ufoot ulim g) (sa : ¬ ufoot o.a) (ska : ¬ ufoot o.ka) (sea : ¬ ufoot o.ea) (st : ∀ b, tabA W b → ¬ ufoot b) (sf : ¬ ufoot f) (sc : ¬ ufoot c)
    (call : ∀ m es x y Q E, SOk m { o with entries := es } → m f = some (.lm F) → m c = some (.cel (.ref o.a)) → sp_Sums_joined W [.ref o.a, S3.d x, S3.d y] (del m c) (fun d m2 => m2 c = none → Wk (Q d) (put m2 c (.cel (.ref o.a)))) (fun k d m2 => m2 c = none → Wk (E k d) (put m2 c (.cel (.ref o.a)))) → DAct W 16 (.ref f) [x.d, y.d] [] [] m Q E) : JB W (.ref f) (RepS W o urep f F c) (ftS o ufoot) (limU ulim) (JU g) := by
  refine ⟨fun s m h => ⟨f, rfl, .inr (.inr ⟨F, h.hf⟩)⟩, fun s m m' h sb => ⟨⟨sb _ _ h.ok.ob, sb _ _ h.ok.ke, sb _ _ h.ok.en⟩, B.loc _ _ _ h.u fun b o _ e => sb _ _ e, h.tm.loc fun b o _ e => sb _ _ e, sb _ _ h.hf, sb _ _ h.hc⟩, fun s m b h hf => ?_, fun s m x y F0 Q E h hl hs ha kQ kE => ?_⟩
  · rcases hf with hf | rfl | rfl | rfl
    · exact B.dom _ _ _ h.u hf
    · rw [h.ok.ob]; simp
    · rw [h.ok.ke]; simp
    · rw [h.ok.en]; simp
  obtain ⟨u, es⟩ := s
  obtain ⟨hl1, hl2⟩ := hl
  have hca : c ≠ o.a := ne_of_o h.hc h.ok.ob (by intro z; cases z)
  have hcka : c ≠ o.ka := ne_of_o h.hc h.ok.ke (by intro z; cases z)
  have hcea : c ≠ o.ea := ne_of_o h.hc h.ok.en (by intro z; cases z)
  have hfc : f ≠ c := ne_of_o h.hf h.hc (by intro z; cases z)
  have hfa : f ≠ o.a := ne_of_o h.hf h.ok.ob (by intro z; cases z)
  have hfea : f ≠ o.ea := ne_of_o h.hf h.ok.en (by intro z; cases z)
  have htb : ∀ b, tabA W b → b ≠ c ∧ b ≠ o.a ∧ b ≠ o.ea := fun b hb' => by
    obtain ⟨nm, e⟩ := h.tm.tab hb'
    exact ⟨ne_of_o e h.hc (by intro z; cases z), ne_of_o e h.ok.ob (by intro z; cases z), ne_of_o e h.ok.en (by intro z; cases z)⟩
  obtain ⟨n1, n2, n3⟩ := h.ok.ne
  have d_at : ∀ {b : Addr}, b ≠ c → del m c b = m b := fun {b} hb' => by unfold del; rw [if_neg hb']
  have hm1 : ∀ {b : Addr}, b ≠ c → b ≠ o.a → (({ o with entries := es } : SO).bz true).put (del m c) b = m b := fun {b} h1 h2 => by
    show put _ _ _ _ = _
    rw [put_ne h2, d_at h1]
  have hu1 : urep u ((({ o with entries := es } : SO).bz true).put (del m c)) := B.loc _ _ _ h.u fun b v hf e => by
    rw [hm1 (fun z => sc (z ▸ hf)) (fun z => sa (z ▸ hf))]; exact e
  have ok1 : SOk (del m c) { o with entries := es } := ⟨(d_at hca.symm).trans h.ok.ob, (d_at hcka.symm).trans h.ok.ke, (d_at hcea.symm).trans h.ok.en⟩
  have ok2 := ok1.put (o' := ({ o with entries := es } : SO).bz true) ⟨rfl, rfl, rfl, rfl, rfl⟩
  refine call m es x y Q E h.ok h.hf h.hc ⟨{ o with entries := es }, x.f, x.e, x.v, y.f, y.e, y.v, rfl, ok1, hC, hl2, ?_, B.keep _ _ hu1, ?_⟩
  · have := h.tm.t_Sums_joined
    rw [d_at (ne_of_o this h.hc (by intro z; cases z))]
    exact this
  refine B.run u _ x.v y.v (off ufoot ((({ o with entries := es } : SO).bz true).put (del m c))) _ _ hu1 hl1 off_sub off_av (fun u' z m' e hu' sb => ?_) (fun u' k d m' e hu' sb => ?_)
  · have ok3 : SOk m' (({ o with entries := es } : SO).bz true) := ⟨sb _ _ (off_at sa ok2.ob), sb _ _ (off_at ska ok2.ke), sb _ _ (off_at sea ok2.en)⟩
    refine ⟨ok3, fun hc => Wk.here (kQ (u', es ++ [jE x y]) ⟨x.f, y.e, z⟩ _ (by unfold JU; simp only [e]) ?_ ?_)⟩
    · have g2 : ∀ {b : Addr}, b ≠ c → b ≠ o.a → b ≠ o.ea → ∀ {v : O}, m' b = some v → put (put ((({ o with entries := es } : SO).bz false).put m') o.ea (.lst (es ++ [jE x y]))) c (.cel (.ref o.a)) b = some v := fun {b} h1 h2 h3 {v} h4 => by
        show put (put (put _ _ _) _ _) _ _ _ = _
        rw [put_ne h1, put_ne h3, put_ne h2]; exact h4
      refine ⟨⟨?_, g2 hcka.symm n1.symm n3 ok3.ke, ?_⟩, B.loc _ _ _ hu' fun b v hf e' => g2 (fun z => sc (z ▸ hf)) (fun z => sa (z ▸ hf)) (fun z => sea (z ▸ hf)) e', h.tm.loc fun b v hb' e' => ?_, g2 hfc hfa hfea (sb _ _ (off_at sf (by rw [hm1 hfc hfa]; exact h.hf))), put_same⟩
      · show put (put (put _ _ _) _ _) _ _ _ = _
        rw [put_ne hca.symm, put_ne n2, put_same, hb]
      · show put (put (put _ _ _) _ _) _ _ _ = _
        rw [put_ne hcea.symm, put_same]; rfl
      · obtain ⟨t1, t2, t3⟩ := htb b hb'
        exact g2 t1 t2 t3 (sb _ _ (off_at (st b hb') (by rw [hm1 t1 t2]; exact e')))
    · intro b v e'
      have hnf : ¬ ftS o ufoot b := fun hf => by rw [ha b hf] at e'; cases e'
      have hb1 : ¬ ufoot b := fun z => hnf (.inl z)
      have hb2 : b ≠ o.a := fun z => hnf (.inr (.inl z))
      have hb3 : b ≠ o.ea := fun z => hnf (.inr (.inr (.inr z)))
      by_cases hbc : b = c
      · subst hbc
        rw [put_same, ← h.hc]; exact hs _ _ e'
      · show put (put (put _ _ _) _ _) _ _ _ = _
        rw [put_ne hbc, put_ne hb3, put_ne hb2]
        exact sb _ _ (off_at hb1 (by rw [hm1 hbc hb2]; exact hs _ _ e'))
  · have ok3 : SOk m' (({ o with entries := es } : SO).bz true) := ⟨sb _ _ (off_at sa ok2.ob), sb _ _ (off_at ska ok2.ke), sb _ _ (off_at sea ok2.en)⟩
    refine ⟨ok3, fun hc => Wk.here (kE (u', es) k d _ (by unfold JU; simp only [e]) ?_ ?_)⟩
    · have g2 : ∀ {b : Addr}, b ≠ c → b ≠ o.a → ∀ {v : O}, m' b = some v → put ((({ o with entries := es } : SO).bz false).put m') c (.cel (.ref o.a)) b = some v := fun {b} h1 h2 {v} h4 => by
        show put (put _ _ _) _ _ _ = _
        rw [put_ne h1, put_ne h2]; exact h4
      refine ⟨⟨?_, g2 hcka.symm n1.symm ok3.ke, g2 hcea.symm n2.symm ok3.en⟩, B.loc _ _ _ hu' fun b v hf e' => g2 (fun z => sc (z ▸ hf)) (fun z => sa (z ▸ hf)) e', h.tm.loc fun b v hb' e' => ?_, g2 hfc hfa (sb _ _ (off_at sf (by rw [hm1 hfc hfa]; exact h.hf))), put_same⟩
      · show put (put _ _ _) _ _ _ = _
        rw [put_ne hca.symm, put_same, hb]
      · obtain ⟨t1, t2, t3⟩ := htb b hb'
        exact g2 t1 t2 (sb _ _ (off_at (st b hb') (by rw [hm1 t1 t2]; exact e')))
    · intro b v e'
      have hnf : ¬ ftS o ufoot b := fun hf => by rw [ha b hf] at e'; cases e'
      have hb1 : ¬ ufoot b := fun z => hnf (.inl z)
      have hb2 : b ≠ o.a := fun z => hnf (.inr (.inl z))
      by_cases hbc : b = c
      · subst hbc
        rw [put_same, ← h.hc]; exact hs _ _ e'
      · show put (put _ _ _) _ _ _ = _
        rw [put_ne hbc, put_ne hb2]
        exact sb _ _ (off_at hb1 (by rw [hm1 hbc hb2]; exact hs _ _ e'))
theorem after_ {W : Wo} {o : SO} {U : Type} {urep : U → M → Prop} {ufoot : Addr → Prop} {ulim : U → D → D → Prop} {g : U → D → D → U × ER D} {f c : Addr} {F : LF} {s : U × List D} {m m1 m' hh : M} (B : UB W o.join urep ufoot ulim g) (sa : ¬ ufoot o.a) (ska : ¬ ufoot o.ka) (sc : ¬ ufoot c)
    (r : RepS W o urep f F c s m') (sb : Sub (off (ftS o ufoot) m1) m') (hm : Sub m m1) (nc : m c = none) (hat : ∀ b v, b ≠ c → b ≠ o.a → b ≠ o.ka → m' b = some v → hh b = some v) : urep s.1 hh ∧ Fr (ftS o ufoot) m hh ∧ (∀ st d, StAt m' (ftS o ufoot) st d → StAt hh (ftS o ufoot) st d) ∧ hh o.ea = some (.lst s.2) ∧ TbM W hh := by
  obtain ⟨n1, n2, n3⟩ := r.ok.ne
  have lc : ∀ b xs, m' b = some (.lst xs) → b ≠ c := fun b xs e => ne_of_o e r.hc (by intro z; cases z)
  have la : ∀ b xs, ¬ ftS o ufoot b → m' b = some (.lst xs) → hh b = some (.lst xs) := fun b xs h e => hat b _ (lc b xs e) (fun z => h (.inr (.inl z))) (fun z => h (.inr (.inr (.inl z)))) e
  refine ⟨B.loc _ _ _ r.u fun b v hf e => hat b v (fun z => sc (z ▸ hf)) (fun z => sa (z ▸ hf)) (fun z => ska (z ▸ hf)) e, fun b v h e => ?_, fun st d x => ?_, hat _ _ (lc _ _ r.ok.en) n2.symm n3.symm r.ok.en, r.tm.loc fun b v hb e => ?_⟩
  · exact hat b v (fun z => by rw [z, nc] at e; cases e) (fun z => h (.inr (.inl z))) (fun z => h (.inr (.inr (.inl z)))) (sb _ _ (off_at h (hm _ _ e)))
  · obtain ⟨p, fq, h1, h2, h3, h4⟩ := x
    refine ⟨p, fq, h1, la _ _ h3 h2, h3, ?_⟩
    cases hf : st.fresh with
    | none => rw [hf] at h4; exact h4
    | some l => rw [hf] at h4; obtain ⟨q, e1, e2, e3⟩ := h4; exact ⟨q, e1, la _ _ e3 e2, e3⟩
  · obtain ⟨nm, e2⟩ := r.tm.tab hb
    exact hat b v (ne_of_o e2 r.hc (by intro z; cases z)) (ne_of_o e2 r.ok.ob (by intro z; cases z)) (ne_of_o e2 r.ok.ke (by intro z; cases z)) e
abbrev s_Sums_add : Stmt := inClass (top 7) 3
theorem sc_Sums_add : FnScope ["self", "member", "new", "state"] ["self", "member"] (defScope s_Sums_add) := ⟨rfl, rfl, rfl, by decide +kernel, rfl, by decide +kernel, by decide +kernel⟩
def sp_Sums_add (W : Wo) : DSp := fun ds m Q E => ∃ (U : Type) (urep : U → M → Prop) (ufoot : Addr → Prop) (ulim : U → D → D → Prop) (g : U → D → D → U × ER D) (u : U) (o : SO) (st : ES) (x : D), ds = [.ref o.a, x] ∧ SOk m o ∧ isS W o.C ∧ o.busy = false ∧ UB W o.join urep ufoot ulim g ∧ urep u m ∧ USep W m o ufoot ∧ StAt m (ftS o ufoot) st o.state ∧
  APre (JU g) (limU ulim) o.kept st ⟨o.next, o.next + 1, x⟩ (u, o.entries) ∧ (∀ l, st.fresh = some l → l.length < sizeLine) ∧ o.kept.length < sizeLine ∧
  (∀ u' es st' d m', addJ (JU g) o.kept st ⟨o.next, o.next + 1, x⟩ (u, o.entries) = ((u', es), .ok st') → SOk m' { o with kept := putKD o.kept (.inl o.next) x, next := o.next + 1, entries := es, state := d } → urep u' m' → StAt m' (ftS o ufoot) st' d → Fr (ftS o ufoot) m m' → Q (.int o.next) m') ∧
  (∀ u' es c e m', addJ (JU g) o.kept st ⟨o.next, o.next + 1, x⟩ (u, o.entries) = ((u', es), .error (c, e)) → SOk m' { o with entries := es } → urep u' m' → Fr (ftS o ufoot) m m' → E c e m')
theorem ok_Sums_add {W : Wo} {f : Addr} {fd : FuncData} (T : Txt W) (D_EvenSums_after_add_3 : DM W 18 (fun C => C = He.ga W.K "EvenSums") "after_add" 3 [] (fun ds _ => ds) (fun _ => sp_EvenSums_after_add W)) (D_EvenSums_check_ready_0 : DM W 2 (fun C => C = He.ga W.K "EvenSums") "check_ready" 0 [] (fun ds _ => ds) (fun _ => sp_Logged_check_ready W)) (D_EvenSums_joined_2 : DM W 14 (fun C => C = He.ga W.K "EvenSums") "joined" 2 [] (fun ds _ => ds) (fun _ => sp_Sums_joined W)) (D_EvenSums_keep_1 : DM W 1 (fun C => C = He.ga W.K "EvenSums") "keep" 1 [] (fun ds _ => ds) (fun _ => sp_Logged_keep W)) (F : FunD W.K "add" "Sums.add" (defArgs s_Sums_add) (defBody s_Sums_add) (defScope s_Sums_add) [] [] f fd) (hcd : fd.code = .ref (cdA W.K ("Sums", some "add"))) : FnG W.P W.w W.K W.mg W.base W.gd 20 f fd ["self", "member"] (upSp (sp_Sums_add W)) := by
  refine okDc (.ref (cdA W.K ("Sums", some "add"))) [(0, "self")] F hcd sc_Sums_add (by decide +kernel) (by decide +kernel) (fun ds m Q E h => ?_) (fun A outer s H EV ca ds m Q E hr hca xc tk h => ?_)
  · obtain ⟨_, _, _, _, _, _, o, _, x, rfl, _⟩ := h
    rfl
  · have hu := huG hr
    obtain ⟨c_self, rfl⟩ := len1 hca
    have xc : XC _ [(0, c_self)] := xc
    obtain ⟨U, urep, ufoot, ulim, g, u, o, st, x, rfl, ho, hC, hb, B, hu', hsep, hst, hp, hl, hkl, kQ, kE⟩ := h
    obtain ⟨_, _, _, _, _, _, _, _⟩ := T.lc hC
    refine ⟨_, (dss_cons (ds_expr (de_mth0 D_EvenSums_check_ready_0 (dv 0) hr (xc_nil sc_Sums_add.nd) tk dk_nil))
      (dss_cons (ds_set (i := 2) sc_Sums_add.nd rfl (Or.inl rfl) (de_tup (da_cons (de_fk W.K (dv 0)) (da_cons (de_op o_addI (de_fk W.K (dv 0)) dint) (da_cons (dv 1) da_nil)))))
      (dss_cons (ds_set (i := 3) sc_Sums_add.nd rfl (Or.inl rfl) (de_mth D_EvenSums_after_add_3 (dv 0) hr (xc_sub (cs' := [(0, c_self)]) xc) tk (da_cons (de_fk W.K (dv 0)) (da_cons (dv 2) (da_cons (de_lamS (nm := nm_Sums_add) [(0, c_self)] ["self"] (defScope s_Sums_add) ("Sums.add" ++ ".<locals>.") T.t_Sums_add rfl xc (by decide +kernel) (by decide +kernel)) da_nil))) dk_nil))
      (dss_cons (ds_fk W.K (dv 0) (dv 3))
      (dss_one (ds_ret (de_mth D_EvenSums_keep_1 (dv 0) hr (xc_nil sc_Sums_add.nd) tk (da_cons (dv 1) da_nil) dk_nil))))))), ?_⟩
    clear hcd hu xc tk hr
    obtain ⟨ob, ke, en⟩ := id ho
    obtain ⟨n1, n2, n3⟩ := ho.ne
    have ht := hsep.tm.t_Sums_add
    walk_at "rd"
    walk_at "go"
    refine ⟨o, rfl, ho, hC, fun _ => ?_, fun e => by rw [hb] at e; cases e⟩
    walk_at "go"
    intro f' F' nf p1 p2 p3 hC'
    refine ⟨by simp, fun hn hd => ?_⟩
    simp only [List.mem_cons, List.not_mem_nil, or_false, forall_eq_or_imp, forall_eq] at hn
    obtain ⟨g1, g1'⟩ := put_free hn
    have jb := jb_of (f := f') (c := c_self) (F := F') hC hb B hsep.a hsep.ka hsep.ea hsep.t (fun hf => B.dom _ _ _ hu' hf nf) (fun hf => B.dom _ _ _ hu' hf g1) (fun m0 es x y Q0 E0 h0 h1 h2 h3 => by
      have := ne_of_o h2 h0.ob (by intro z; cases z)
      refine dact_lmE (N := ["one", "other", "self"]) (ps := ["one", "other"]) (fr := ["self"]) p1 p2 p3 h1 hC' (hol1 h2) (nscope_by (by decide +kernel)) (fun _ _ _ _ _ us hl => match us, hl with | [_, _], _ => rfl) rfl (fun A1 outer1 s1 T1 EV1 _ _ _ hr1 xc1 tk1 => ⟨_, (de_mth D_EvenSums_joined_2 (dv 2) hr1 (xc_nil (by exact (by decide : (["one", "other", "self"] : List Str).Nodup))) tk1 (da_cons (dv 0) (da_cons (dv 1) da_nil)) dk_nil), ?_⟩)
      walk_at "rd"
      refine ⟨_, _, _, del_at (Ne.symm this) h0.ob, hC, rfl, ?_⟩
      have eb : backC [c_self] [D.ref o.a] Q0 = fun d m2 => m2 c_self = none → Wk (Q0 d) (put m2 c_self (.cel (.ref o.a))) := by funext d m2; simp [backC, showC]
      rw [eb]
      exact h3)
    have sb1 : Sub m (put (put m f' (O.lm F')) c_self (O.cel (D.ref o.a))) := by walk_at "sb"
    have ncf : c_self ≠ f' := fun z => by rw [z] at hn; rw [put_same] at hn; cases hn
    have scf : ¬ ufoot c_self := fun hf => B.dom _ _ _ hu' hf g1
    walk_at "rd"
    refine ⟨U × List D, RepS W o urep f' F' c_self, ftS o ufoot, limU ulim, JU g, (u, o.entries), off (ftS o ufoot) (put (put m f' (O.lm F')) c_self (O.cel (D.ref o.a))), st, ⟨o.next, o.next + 1, x⟩, o.a, o.kept, o.state, .ref f', rfl, jb, fun s m r => ⟨{ o with entries := s.2 }, rfl, r.ok, hC, rfl⟩, ⟨⟨sb1 _ _ ob, sb1 _ _ ke, sb1 _ _ en⟩, B.loc _ _ _ hu' fun b v _ e => sb1 _ _ e, hsep.tm.loc fun b v _ e => sb1 _ _ e, put_at ncf.symm put_same, put_same⟩, off_sub, off_av, (hst.sub sb1).off, hp, hl, ?_, ?_⟩
    · rintro ⟨u', es⟩ st' d' m' e r sb at'
      have hca : o.a ≠ c_self := ne_of_o r.ok.ob r.hc (by intro z; cases z)
      have hck : o.ka ≠ c_self := ne_of_o r.ok.ke r.hc (by intro z; cases z)
      have hce : o.ea ≠ c_self := ne_of_o r.ok.en r.hc (by intro z; cases z)
      have ob' := r.ok.ob
      refine ⟨_, _, _, del_at hca ob', ?_⟩
      walk_at "go"
      refine ⟨{ o with entries := es, state := d' }, x, rfl, ⟨by walk_at "hg", put_at n1.symm (del_at hck r.ok.ke), put_at n2.symm (del_at hce r.ok.en)⟩, hC, hkl, ?_⟩
      have key := fun hh hat => after_ B hsep.a hsep.ka scf r sb sb1 g1 (hh := hh) hat
      have hat : ∀ {X Y Z : O} (b : Addr) (v : O), b ≠ c_self → b ≠ o.a → b ≠ o.ka → m' b = some v → put (put (put (del m' c_self) o.a X) o.a Y) o.ka Z b = some v := fun b v h1 h2 h3 h4 => put_at h3 (put_at h2 (put_at h2 (del_at h1 h4)))
      exact Wk.here (kQ u' es st' d' _ e ⟨put_at n1 put_same, put_same, (key _ hat).2.2.2.1⟩ (key _ hat).1 ((key _ hat).2.2.1 _ _ at') (key _ hat).2.1)
    · rintro ⟨u', es⟩ k d m' e r sb
      have hca : o.a ≠ c_self := ne_of_o r.ok.ob r.hc (by intro z; cases z)
      have hck : o.ka ≠ c_self := ne_of_o r.ok.ke r.hc (by intro z; cases z)
      obtain ⟨q1, q2, q3, q4, q5⟩ := after_ B hsep.a hsep.ka scf r sb sb1 g1 (hh := del m' c_self) fun b v h1 h2 h3 h4 => del_at h1 h4
      exact Wk.here (kE u' es k d _ e ⟨del_at hca r.ok.ob, del_at hck r.ok.ke, q4⟩ q1 q2)
abbrev s_Sums_check_members : Stmt := inClass (top 7) 5
theorem sc_Sums_check_members : FnScope ["self"] ["self"] (defScope s_Sums_check_members) := ⟨rfl, rfl, rfl, by decide +kernel, rfl, by decide +kernel, by decide +kernel⟩
def sp_Sums_check_members (W : Wo) : DSp := fun ds m Q E => ∃ o, ds = [.ref o.a] ∧ SOk m o ∧ isS W o.C ∧ o.busy = false ∧ o.kept ≠ [] ∧ Q .non m
theorem ok_Sums_check_members {W : Wo} {f : Addr} {fd : FuncData} (T : Txt W) (D_EvenSums_check_ready_0 : DM W 2 (fun C => C = He.ga W.K "EvenSums") "check_ready" 0 [] (fun ds _ => ds) (fun _ => sp_Logged_check_ready W)) (F : FunD W.K "check_members" "Sums.check_members" (defArgs s_Sums_check_members) (defBody s_Sums_check_members) (defScope s_Sums_check_members) [] [] f fd) (hcd : fd.code = .ref (cdA W.K ("Sums", some "check_members"))) : FnG W.P W.w W.K W.mg W.base W.gd 3 f fd ["self"] (upSp (sp_Sums_check_members W)) := by
  refine okDc (.ref (cdA W.K ("Sums", some "check_members"))) [] F hcd sc_Sums_check_members (by decide +kernel) (by decide +kernel) (fun ds m Q E h => ?_) (fun A outer s H EV ca ds m Q E hr hca xc tk h => ?_)
  · obtain ⟨o, rfl, _⟩ := h
    rfl
  · have hu := huG hr
    obtain ⟨o, rfl, ho, hC, hb, hk, k⟩ := h
    obtain ⟨_, _, _, _, _, _, _, _⟩ := T.lc hC
    refine ⟨_, (dss_cons (ds_expr (de_mth0 D_EvenSums_check_ready_0 (dv 0) hr (xc_nil sc_Sums_check_members.nd) tk dk_nil))
      (dss_one (ds_if (dt_cmpR o_eqI (de_callB c_lenD (by rfl) T.b_len (by decide +kernel) (da_cons (de_fk W.K (dv 0)) da_nil)) dint (nomark _)) (dss_one ds_never) dss_nil))), ?_⟩
    clear hcd hu xc tk hr
    obtain ⟨ob, ke, en⟩ := id ho
    walk_at "rd"
    walk_at "go"
    refine ⟨o, rfl, ho, hC, fun _ => ?_, fun e => by rw [hb] at e; cases e⟩
    walk_at "go"
    have : ¬ ((o.kept.length : Int) = 0) := by
      intro z
      exact hk (List.length_eq_zero_iff.mp (by omega))
    rw [if_neg (by simpa using this)]
    exact Wk.here k
abbrev s_Sums_remove_oldest : Stmt := inClass (top 7) 4
theorem sc_Sums_remove_oldest : FnScope ["self", "state", "number"] ["self"] (defScope s_Sums_remove_oldest) := ⟨rfl, rfl, rfl, by decide +kernel, rfl, by decide +kernel, by decide +kernel⟩
def sp_Sums_remove_oldest (W : Wo) : DSp := fun ds m Q E => ∃ (U : Type) (urep : U → M → Prop) (ufoot : Addr → Prop) (ulim : U → D → D → Prop) (g : U → D → D → U × ER D) (u : U) (o : SO) (st : ES) (is : List Int), ds = [.ref o.a] ∧ SOk m o ∧ isS W o.C ∧ o.busy = false ∧ UB W o.join urep ufoot ulim g ∧ urep u m ∧ USep W m o ufoot ∧ StAt m (ftS o ufoot) st o.state ∧
  o.kept.map (·.1) = is.map Sum.inl ∧ is ≠ [] ∧ SPre o.kept ⟨st.front.dropLast, st.back, st.fresh, st.later⟩ none ∧ sLim (limU ulim) o.kept ⟨st.front.dropLast, st.back, st.fresh, st.later⟩ (u, o.entries) ∧ (∀ l, st.fresh = some l → l.length < sizeLine) ∧ o.kept.length < sizeLine ∧
  (∀ u' es st' d m' n, remJ (JU g) o.kept st (u, o.entries) = ((u', es), .ok st') → n ∈ is → (∀ j ∈ is, n ≤ j) → SOk m' { o with kept := dropKD o.kept (.inl n), entries := es, state := d } → urep u' m' → StAt m' (ftS o ufoot) st' d → Fr (ftS o ufoot) m m' → Q (.int n) m') ∧
  (∀ u' es c e m', remJ (JU g) o.kept st (u, o.entries) = ((u', es), .error (c, e)) → SOk m' { o with entries := es } → urep u' m' → Fr (ftS o ufoot) m m' → E c e m')
theorem ok_Sums_remove_oldest {W : Wo} {f : Addr} {fd : FuncData} (T : Txt W) (D_EvenSums_after_remove_2 : DM W 18 (fun C => C = He.ga W.K "EvenSums") "after_remove" 2 [] (fun ds _ => ds) (fun _ => sp_EvenSums_after_remove W)) (D_EvenSums_check_members_0 : DM W 3 (fun C => C = He.ga W.K "EvenSums") "check_members" 0 [] (fun ds _ => ds) (fun _ => sp_Sums_check_members W)) (D_EvenSums_joined_2 : DM W 14 (fun C => C = He.ga W.K "EvenSums") "joined" 2 [] (fun ds _ => ds) (fun _ => sp_Sums_joined W)) (F : FunD W.K "remove_oldest" "Sums.remove_oldest" (defArgs s_Sums_remove_oldest) (defBody s_Sums_remove_oldest) (defScope s_Sums_remove_oldest) [] [] f fd) (hcd : fd.code = .ref (cdA W.K ("Sums", some "remove_oldest"))) : FnG W.P W.w W.K W.mg W.base W.gd 20 f fd ["self"] (upSp (sp_Sums_remove_oldest W)) := by
  refine okDc (.ref (cdA W.K ("Sums", some "remove_oldest"))) [(0, "self")] F hcd sc_Sums_remove_oldest (by decide +kernel) (by decide +kernel) (fun ds m Q E h => ?_) (fun A outer s H EV ca ds m Q E hr hca xc tk h => ?_)
  · obtain ⟨_, _, _, _, _, _, o, _, _, rfl, _⟩ := h
    rfl
  · have hu := huG hr
    obtain ⟨c_self, rfl⟩ := len1 hca
    have xc : XC _ [(0, c_self)] := xc
    obtain ⟨U, urep, ufoot, ulim, g, u, o, st, is, rfl, ho, hC, hb, B, hu', hsep, hst, his, hne, hp, hlm, hl, hkl, kQ, kE⟩ := h
    obtain ⟨_, _, _, _, _, _, _, _⟩ := T.lc hC
    refine ⟨_, (dss_cons (ds_expr (de_mth0 D_EvenSums_check_members_0 (dv 0) hr (xc_nil sc_Sums_remove_oldest.nd) tk dk_nil))
      (dss_cons (ds_set (i := 1) sc_Sums_remove_oldest.nd rfl (Or.inl rfl) (de_mth D_EvenSums_after_remove_2 (dv 0) hr (xc_sub (cs' := [(0, c_self)]) xc) tk (da_cons (de_fk W.K (dv 0)) (da_cons (de_lamS (nm := nm_Sums_remove_oldest) [(0, c_self)] ["self"] (defScope s_Sums_remove_oldest) ("Sums.remove_oldest" ++ ".<locals>.") T.t_Sums_remove_oldest rfl xc (by decide +kernel) (by decide +kernel)) da_nil)) dk_nil))
      (dss_cons (ds_set (i := 2) sc_Sums_remove_oldest.nd rfl (Or.inl rfl) (de_callB (c_minD rfl) (by rfl) T.b_min (by decide +kernel) (da_cons (de_fk W.K (dv 0)) da_nil)))
      (dss_cons (ds_fk W.K (dv 0) (dv 1))
      (dss_cons (ds_ddel (de_fk W.K (dv 0)) (dv 2))
      (dss_one (ds_ret (dv 2)))))))), ?_⟩
    clear hcd hu xc tk hr
    obtain ⟨ob, ke, en⟩ := id ho
    obtain ⟨n1, n2, n3⟩ := ho.ne
    have ht := hsep.tm.t_Sums_remove_oldest
    walk_at "rd"
    walk_at "go"
    refine ⟨o, rfl, ho, hC, hb, fun z => hne (by rw [z] at his; cases is with | nil => rfl | cons _ _ => cases his), ?_⟩
    walk_at "go"
    intro f' F' nf p1 p2 p3 hC'
    refine ⟨by simp, fun hn hd => ?_⟩
    simp only [List.mem_cons, List.not_mem_nil, or_false, forall_eq_or_imp, forall_eq] at hn
    obtain ⟨g1, g1'⟩ := put_free hn
    have jb := jb_of (f := f') (c := c_self) (F := F') hC hb B hsep.a hsep.ka hsep.ea hsep.t (fun hf => B.dom _ _ _ hu' hf nf) (fun hf => B.dom _ _ _ hu' hf g1) (fun m0 es x y Q0 E0 h0 h1 h2 h3 => by
      have := ne_of_o h2 h0.ob (by intro z; cases z)
      refine dact_lmE (N := ["one", "other", "self"]) (ps := ["one", "other"]) (fr := ["self"]) p1 p2 p3 h1 hC' (hol1 h2) (nscope_by (by decide +kernel)) (fun _ _ _ _ _ us hl => match us, hl with | [_, _], _ => rfl) rfl (fun A1 outer1 s1 T1 EV1 _ _ _ hr1 xc1 tk1 => ⟨_, (de_mth D_EvenSums_joined_2 (dv 2) hr1 (xc_nil (by exact (by decide : (["one", "other", "self"] : List Str).Nodup))) tk1 (da_cons (dv 0) (da_cons (dv 1) da_nil)) dk_nil), ?_⟩)
      walk_at "rd"
      refine ⟨_, _, _, del_at (Ne.symm this) h0.ob, hC, rfl, ?_⟩
      have eb : backC [c_self] [D.ref o.a] Q0 = fun d m2 => m2 c_self = none → Wk (Q0 d) (put m2 c_self (.cel (.ref o.a))) := by funext d m2; simp [backC, showC]
      rw [eb]
      exact h3)
    have sb1 : Sub m (put (put m f' (O.lm F')) c_self (O.cel (D.ref o.a))) := by walk_at "sb"
    have ncf : c_self ≠ f' := fun z => by rw [z] at hn; rw [put_same] at hn; cases hn
    have scf : ¬ ufoot c_self := fun hf => B.dom _ _ _ hu' hf g1
    walk_at "rd"
    refine ⟨U × List D, RepS W o urep f' F' c_self, ftS o ufoot, limU ulim, JU g, (u, o.entries), off (ftS o ufoot) (put (put m f' (O.lm F')) c_self (O.cel (D.ref o.a))), st, o.a, o.kept, o.state, .ref f', rfl, jb, fun s m r => ⟨{ o with entries := s.2 }, rfl, r.ok, hC, rfl⟩, ⟨⟨sb1 _ _ ob, sb1 _ _ ke, sb1 _ _ en⟩, B.loc _ _ _ hu' fun b v _ e => sb1 _ _ e, hsep.tm.loc fun b v _ e => sb1 _ _ e, put_at ncf.symm put_same, put_same⟩, hlm, off_sub, off_av, (hst.sub sb1).off, hp, hl, ?_, ?_⟩
    · rintro ⟨u', es⟩ st' d' m' e r sb at'
      have hca : o.a ≠ c_self := ne_of_o r.ok.ob r.hc (by intro z; cases z)
      have hck : o.ka ≠ c_self := ne_of_o r.ok.ke r.hc (by intro z; cases z)
      have hce : o.ea ≠ c_self := ne_of_o r.ok.en r.hc (by intro z; cases z)
      have ob' : del m' c_self o.a = some (O.ins o.C o.dx o.fs) := del_at hca r.ok.ob
      have ke' : del m' c_self o.ka = some (O.dk o.kept) := del_at hck r.ok.ke
      have key := fun hh hat => after_ B hsep.a hsep.ka scf r sb sb1 g1 (hh := hh) hat
      have hat : ∀ {X Y : O} (b : Addr) (v : O), b ≠ c_self → b ≠ o.a → b ≠ o.ka → m' b = some v → put (put (del m' c_self) o.a X) o.ka Y b = some v := fun b v h1 h2 h3 h4 => put_at h3 (put_at h2 (del_at h1 h4))
      refine ⟨_, _, _, ob', by assumption, by assumption, _, rfl, _, rfl, _, ke', is, his, hne, fun n hn1 hn2 => ?_⟩
      refine ⟨_, _, _, ob', by assumption, by assumption, by simp, _, _, _, rfl, by assumption, by assumption, _, rfl, _, rfl, _, put_at n1.symm ke', val_some (by rw [his]; exact List.mem_map_of_mem hn1), Wk.here (kQ u' es st' d' _ n e hn1 hn2 ⟨put_at n1 put_same, put_same, (key _ hat).2.2.2.1⟩ (key _ hat).1 ((key _ hat).2.2.1 _ _ at') (key _ hat).2.1)⟩
    · rintro ⟨u', es⟩ k d m' e r sb
      have hca : o.a ≠ c_self := ne_of_o r.ok.ob r.hc (by intro z; cases z)
      have hck : o.ka ≠ c_self := ne_of_o r.ok.ke r.hc (by intro z; cases z)
      obtain ⟨q1, q2, q3, q4, q5⟩ := after_ B hsep.a hsep.ka scf r sb sb1 g1 (hh := del m' c_self) fun b v h1 h2 h3 h4 => del_at h1 h4
      exact Wk.here (kE u' es k d _ e ⟨del_at hca r.ok.ob, del_at hck r.ok.ke, q4⟩ q1 q2)
abbrev s_Sums_total : Stmt := inClass (top 7) 7
theorem sc_Sums_total : FnScope ["self"] ["self"] (defScope s_Sums_total) := ⟨rfl, rfl, rfl, by decide +kernel, rfl, by decide +kernel, by decide +kernel⟩
def sp_Sums_total (W : Wo) : DSp := fun ds m Q E => ∃ (U : Type) (urep : U → M → Prop) (ufoot : Addr → Prop) (ulim : U → D → D → Prop) (g : U → D → D → U × ER D) (u : U) (o : SO) (st : ES), ds = [.ref o.a] ∧ SOk m o ∧ isS W o.C ∧ o.busy = false ∧ UB W o.join urep ufoot ulim g ∧ urep u m ∧ USep W m o ufoot ∧ StAt m (ftS o ufoot) st o.state ∧ (∀ x r, partsE st = x :: r → wLim (JU g) (limU ulim) x r (u, o.entries)) ∧
  (∀ m', partsE st = [] → SOk m' o → urep u m' → Fr (ftS o ufoot) m m' → Q o.zero m') ∧
  (∀ x r u' es z m', partsE st = x :: r → wholeJ (JU g) x r (u, o.entries) = ((u', es), .ok z) → SOk m' { o with entries := es } → urep u' m' → Fr (ftS o ufoot) m m' → Q z.v m') ∧
  (∀ x r u' es c e m', partsE st = x :: r → wholeJ (JU g) x r (u, o.entries) = ((u', es), .error (c, e)) → SOk m' { o with entries := es } → urep u' m' → Fr (ftS o ufoot) m m' → E c e m')
theorem ok_Sums_total {W : Wo} {f : Addr} {fd : FuncData} (T : Txt W) (D_EvenSums_check_ready_0 : DM W 2 (fun C => C = He.ga W.K "EvenSums") "check_ready" 0 [] (fun ds _ => ds) (fun _ => sp_Logged_check_ready W)) (D_EvenSums_joined_2 : DM W 14 (fun C => C = He.ga W.K "EvenSums") "joined" 2 [] (fun ds _ => ds) (fun _ => sp_Sums_joined W)) (D_EvenSums_whole_1 : DM W 19 (fun C => C = He.ga W.K "EvenSums") "whole" 1 [] (fun ds _ => ds) (fun _ => sp_Sums_whole W)) (F : FunD W.K "total" "Sums.total" (defArgs s_Sums_total) (defBody s_Sums_total) (defScope s_Sums_total) [] [] f fd) (hcd : fd.code = .ref (cdA W.K ("Sums", some "total"))) : FnG W.P W.w W.K W.mg W.base W.gd 20 f fd ["self"] (upSp (sp_Sums_total W)) := by
  refine okDc (.ref (cdA W.K ("Sums", some "total"))) [(0, "self")] F hcd sc_Sums_total (by decide +kernel) (by decide +kernel) (fun ds m Q E h => ?_) (fun A outer s H EV ca ds m Q E hr hca xc tk h => ?_)
  · obtain ⟨_, _, _, _, _, _, o, _, rfl, _⟩ := h
    rfl
  · have hu := huG hr
    obtain ⟨c_self, rfl⟩ := len1 hca
    have xc : XC _ [(0, c_self)] := xc
    obtain ⟨U, urep, ufoot, ulim, g, u, o, st, rfl, ho, hC, hb, B, hu', hsep, hst, hlm, kZ, kQ, kE⟩ := h
    obtain ⟨_, _, _, _, _, _, _, _⟩ := T.lc hC
    refine ⟨_, (dss_cons (ds_expr (de_mth0 D_EvenSums_check_ready_0 (dv 0) hr (xc_nil sc_Sums_total.nd) tk dk_nil))
      (dss_one (ds_ret (de_mth D_EvenSums_whole_1 (dv 0) hr (xc_sub (cs' := [(0, c_self)]) xc) tk (da_cons (de_lamS (nm := nm_Sums_total) [(0, c_self)] ["self"] (defScope s_Sums_total) ("Sums.total" ++ ".<locals>.") T.t_Sums_total rfl xc (by decide +kernel) (by decide +kernel)) da_nil) dk_nil)))), ?_⟩
    clear hcd hu xc tk hr
    obtain ⟨ob, ke, en⟩ := id ho
    obtain ⟨n1, n2, n3⟩ := ho.ne
    have ht := hsep.tm.t_Sums_total
    walk_at "rd"
    walk_at "go"
    refine ⟨o, rfl, ho, hC, fun _ => ?_, fun e => by rw [hb] at e; cases e⟩
    walk_at "go"
    intro f' F' nf p1 p2 p3 hC'
    refine ⟨by simp, fun hn hd => ?_⟩
    simp only [List.mem_cons, List.not_mem_nil, or_false, forall_eq_or_imp, forall_eq] at hn
    obtain ⟨g1, g1'⟩ := put_free hn
    have jb := jb_of (f := f') (c := c_self) (F := F') hC hb B hsep.a hsep.ka hsep.ea hsep.t (fun hf => B.dom _ _ _ hu' hf nf) (fun hf => B.dom _ _ _ hu' hf g1) (fun m0 es x y Q0 E0 h0 h1 h2 h3 => by
      have := ne_of_o h2 h0.ob (by intro z; cases z)
      refine dact_lmE (N := ["one", "other", "self"]) (ps := ["one", "other"]) (fr := ["self"]) p1 p2 p3 h1 hC' (hol1 h2) (nscope_by (by decide +kernel)) (fun _ _ _ _ _ us hl => match us, hl with | [_, _], _ => rfl) rfl (fun A1 outer1 s1 T1 EV1 _ _ _ hr1 xc1 tk1 => ⟨_, (de_mth D_EvenSums_joined_2 (dv 2) hr1 (xc_nil (by exact (by decide : (["one", "other", "self"] : List Str).Nodup))) tk1 (da_cons (dv 0) (da_cons (dv 1) da_nil)) dk_nil), ?_⟩)
      walk_at "rd"
      refine ⟨_, _, _, del_at (Ne.symm this) h0.ob, hC, rfl, ?_⟩
      have eb : backC [c_self] [D.ref o.a] Q0 = fun d m2 => m2 c_self = none → Wk (Q0 d) (put m2 c_self (.cel (.ref o.a))) := by funext d m2; simp [backC, showC]
      rw [eb]
      exact h3)
    have sb1 : Sub m (put (put m f' (O.lm F')) c_self (O.cel (D.ref o.a))) := by walk_at "sb"
    have ncf : c_self ≠ f' := fun z => by rw [z] at hn; rw [put_same] at hn; cases hn
    have scf : ¬ ufoot c_self := fun hf => B.dom _ _ _ hu' hf g1
    walk_at "rd"
    obtain ⟨p, fq, hs1, hs2, hs3, hs4⟩ := (hst.sub sb1).off
    have fin : ∀ {s' : U × List D} {m' : M}, RepS W o urep f' F' c_self s' m' → Sub (off (ftS o ufoot) (put (put m f' (O.lm F')) c_self (O.cel (D.ref o.a)))) m' → SOk (del m' c_self) { o with entries := s'.2 } ∧ urep s'.1 (del m' c_self) ∧ Fr (ftS o ufoot) m (del m' c_self) := fun {s' m'} r sb => by
      have hca : o.a ≠ c_self := ne_of_o r.ok.ob r.hc (by intro z; cases z)
      have hck : o.ka ≠ c_self := ne_of_o r.ok.ke r.hc (by intro z; cases z)
      obtain ⟨q1, q2, q3, q4, q5⟩ := after_ B hsep.a hsep.ka scf r sb sb1 g1 (hh := del m' c_self) fun b v h1 h2 h3 h4 => del_at h1 h4
      exact ⟨⟨del_at hca r.ok.ob, del_at hck r.ok.ke, q4⟩, q1, q2⟩
    refine ⟨U × List D, RepS W o urep f' F' c_self, ftS o ufoot, limU ulim, JU g, (u, o.entries), off (ftS o ufoot) (put (put m f' (O.lm F')) c_self (O.cel (D.ref o.a))), st, o.a, p, fq, o.zero, .ref f', rfl, jb, fun s m r => ⟨{ o with entries := s.2 }, rfl, r.ok, hC, rfl, hs1⟩, ⟨⟨sb1 _ _ ob, sb1 _ _ ke, sb1 _ _ en⟩, B.loc _ _ _ hu' fun b v _ e => sb1 _ _ e, hsep.tm.loc fun b v _ e => sb1 _ _ e, put_at ncf.symm put_same, put_same⟩, off_sub, off_av, hs2, hlm, ?_, ?_, ?_⟩
    · intro m' e r sb
      obtain ⟨q1, q2, q3⟩ := fin r sb
      exact Wk.here (kZ _ e q1 q2 q3)
    · rintro x r0 ⟨u', es⟩ z m' e1 e2 r sb
      obtain ⟨q1, q2, q3⟩ := fin r sb
      exact Wk.here (kQ _ _ _ _ _ _ e1 e2 q1 q2 q3)
    · rintro x r0 ⟨u', es⟩ k d m' e1 e2 r sb
      obtain ⟨q1, q2, q3⟩ := fin r sb
      exact Wk.here (kE _ _ _ _ _ _ _ e1 e2 q1 q2 q3)
abbrev s_EvenSums___init__ : Stmt := inClass (top 9) 1
theorem sc_EvenSums___init__ : FnScope ["self", "join", "zero"] ["self", "join", "zero"] (defScope s_EvenSums___init__) := ⟨rfl, rfl, rfl, by decide +kernel, rfl, by decide +kernel, by decide +kernel⟩
def sp_EvenSums___init__ (W : Wo) : DSp := fun ds m Q E => ∃ a C dx j z, ds = [.ref a, j, z] ∧ m a = some (.ins C dx []) ∧ isS W C ∧
  ∀ ka ea p m2, m ka = none → m ea = none → m p = none → ka ≠ ea → ka ≠ p → ea ≠ p → SOk m2 ⟨a, C, dx, ka, ea, [], 0, [], false, j, z, .tup [.ref p, .non, .non, .non]⟩ → m2 p = some (.lst []) → (∀ b, b ≠ a → b ≠ ka → b ≠ ea → b ≠ p → m2 b = m b) → Q .non m2
theorem ok_EvenSums___init__ {W : Wo} {f : Addr} {fd : FuncData} (T : Txt W) (C_Sums___init___3 : DC W 2 "Sums" "__init__" 3 [] (fun ds _ => ds) (sp_Sums___init__ W)) (F : FunD W.K "__init__" "EvenSums.__init__" (defArgs s_EvenSums___init__) (defBody s_EvenSums___init__) (defScope s_EvenSums___init__) [] [("zero", .non)] f fd) (hcd : fd.code = .ref (cdA W.K ("EvenSums", some "__init__"))) : FnG W.P W.w W.K W.mg W.base W.gd 3 f fd ["self", "join", "zero"] (upSp (sp_EvenSums___init__ W)) := by
  refine okDc (.ref (cdA W.K ("EvenSums", some "__init__"))) [] F hcd sc_EvenSums___init__ (by decide +kernel) (by decide +kernel) (fun ds m Q E h => ?_) (fun A outer s H EV ca ds m Q E hr hca xc tk h => ?_)
  · obtain ⟨a, C, dx, j, z, rfl, _⟩ := h
    rfl
  · have hu := huG hr
    obtain ⟨a, C, dx, j, z, rfl, ha, hC, k⟩ := h
    obtain ⟨_, _, _, _, _, _, _, _⟩ := T.lc hC
    refine ⟨_, (dss_cons (ds_expr (de_cls C_Sums___init___3 hr (by rfl) (xc_nil sc_EvenSums___init__.nd) tk (da_cons (dv 0) (da_cons (dv 1) (da_cons (dv 2) da_nil))) dk_nil))
      (dss_one (ds_fk W.K (dv 0) (de_tup (da_cons (de_lst da_nil) (da_cons dnon (da_cons dnon (da_cons dnon da_nil)))))))), ?_⟩
    clear hcd hu xc tk hr
    walk_at "rd"
    refine ⟨a, C, dx, j, z, rfl, ha, hC, fun ka ea nk ne n => ?_⟩
    intro p np
    have n1 := ne_free ha nk
    have n2 := ne_free ha ne
    obtain ⟨np1, np2⟩ := put_free np
    obtain ⟨np3, np4⟩ := put_free np1
    obtain ⟨np5, np6⟩ := put_free np3
    walk_at "go"
    walk_at "ev"
    refine Wk.here (k ka ea p _ nk ne np5 n (Ne.symm np6) (Ne.symm np4) ⟨put_same, ?_, ?_⟩ ?_ fun b h1 h2 h3 h4 => ?_)
    · walk_at "hg"
    · walk_at "hg"
    · walk_at "hg"
    · rw [put_ne h1, put_ne h4, put_ne h1, put_ne h3, put_ne h2]
abbrev s_bag : Stmt := top 11
theorem sc_bag : FnScope ["_law_script", "_law_at", "_law_cell", "_law_great", "_law_primes"] ["_law_script", "_law_at"] (defScope s_bag) := ⟨rfl, rfl, rfl, by decide +kernel, rfl, by decide +kernel, by decide +kernel⟩
def sp_bag (W : Wo) : DSp := fun ds m Q _ => ∃ (a : Addr) (ns : List Int) (i : Int), ds = [.ref a, .int i] ∧ (m a = some (.lst (ns.map D.int)) ∨ m a = some (.kl (ns.map D.int))) ∧ 0 ≤ i ∧ i ≤ 1000 ∧
  ∀ (p : Addr) (m' : M) (g s : Int), Sub m m' → m p = none → m' p = some (.lst [.int g, .int s, .int 0]) → Q (.ref p) m'
theorem ok_bag {W : Wo} {f : Addr} {fd : FuncData} (T : Txt W)  (F : FunD W.K "_law_bag" "_law_bag" (defArgs s_bag) (defBody s_bag) (defScope s_bag) [] [] f fd) (hcd : fd.code = .ref (cdA W.K ("_law_bag", none))) : FnG W.P W.w W.K W.mg W.base W.gd 1 f fd ["_law_script", "_law_at"] (upSp (sp_bag W)) := by
  refine okDc (.ref (cdA W.K ("_law_bag", none))) [] F hcd sc_bag (by decide +kernel) (by decide +kernel) (fun ds m Q E h => ?_) (fun A outer s H EV ca ds m Q E hr hca xc tk h => ?_)
  · obtain ⟨a, ns, i, rfl, _⟩ := h
    rfl
  · have hu := huG hr
    obtain ⟨a, ns, i, rfl, hS, h0, h1, k⟩ := h
    refine ⟨_, (dss_cons (ds_set (i := 2) sc_bag.nd rfl (Or.inl rfl) dint)
      (dss_cons (ds_if (dt_cmpR o_lt (dv 1) (de_callB c_lenK (by rfl) T.b_len (by decide +kernel) (da_cons (dv 0) da_nil)) (nomark _)) (dss_one (ds_set (i := 2) sc_bag.nd rfl (Or.inl rfl) (de_ix x_ixK (dv 0) (dv 1) (fun _ _ => rfl)))) dss_nil)
      (dss_cons (ds_set (i := 3) sc_bag.nd rfl (Or.inl rfl) dint)
      (dss_cons (ds_if (dt_cmpR o_ge (de_callB c_abs (by rfl) T.b_abs (by decide +kernel) (da_cons (dv 2) da_nil)) (de_op o_pow dint dint) (nomark _)) (dss_one (ds_set (i := 3) sc_bag.nd rfl (Or.inl rfl) (de_callB c_abs (by rfl) T.b_abs (by decide +kernel) (da_cons (dv 2) da_nil)))) dss_nil)
      (dss_cons (ds_set (i := 4) sc_bag.nd rfl (Or.inl rfl) (de_lst (da_cons dint (da_cons dint (da_cons dint (da_cons dint (da_cons dint (da_cons dint (da_cons dint (da_cons dint da_nil))))))))))
      (dss_one (ds_ret (de_lst (da_cons (dv 3) (da_cons (de_op o_mod (de_op o_pow (de_op o_addI (de_op o_addI (de_op o_mod (dv 2) dint) (de_op o_mul dint (dv 1))) dint) dint) (de_ix x_ixL (dv 4) (de_op o_mod (dv 1) dint) (fun _ _ => rfl))) (da_cons dint da_nil))))))))))), ?_⟩
    clear hcd hu xc tk hr
    refine seqL fun K1 hK1 => ?_
    walk_at "r1"
    refine hK1 _ _ ?_
    clear hK1 K1
    refine seqJ (fun δ m' => m' = m ∧ ∃ c : Int, δ = [some (.ref a), some (.int i), some (.int c), none, none]) (fun K1 hK1 => ?_) ?_
    · walk_at "r1"
      refine ⟨_, hS, ?_⟩
      split
      · rename_i hi
        rw [List.length_map] at hi
        have hi2 : i.toNat < ns.length := by omega
        refine ⟨_, hS, _, ?_, hK1 _ _ ⟨rfl, ns[i.toNat], rfl⟩⟩
        unfold atI ixN
        rw [if_pos h0, List.length_map, if_pos hi, Option.bind_some, List.getElem?_map, List.getElem?_eq_getElem hi2]
        rfl
      · exact hK1 _ _ ⟨rfl, 0, rfl⟩
    rintro δ' m' ⟨rfl, c, rfl⟩
    refine seqL fun K1 hK1 => ?_
    walk_at "r1"
    refine hK1 _ _ ?_
    clear hK1 K1
    refine seqJ (fun δ m2 => m2 = m' ∧ ∃ g : Int, δ = [some (.ref a), some (.int i), some (.int c), some (.int g), none]) (fun K1 hK1 => ?_) ?_
    · walk_at "r1"
      refine ⟨⟨by decide, by decide, by decide⟩, ?_⟩
      generalize (if c < 0 then -c else c) = cc
      split
      · exact hK1 _ _ ⟨rfl, _, rfl⟩
      · exact hK1 _ _ ⟨rfl, _, rfl⟩
    rintro δ' m2 ⟨rfl, g, rfl⟩
    walk_at "rd"
    intro p np
    have hm := Int.emod_nonneg c (show (2147483647 : Int) ≠ 0 by decide)
    have hm2 := Int.emod_lt_of_pos c (show (0 : Int) < 2147483647 by decide)
    have fin : ∀ (xs : List D) (x : Int) (q : Addr), put m2 p (.lst xs) q = none → Wk (Q (D.ref q)) (put (put m2 p (.lst xs)) q (.lst [.int g, .int x, .int 0])) := fun xs x q nq => by
      obtain ⟨nq1, nq2⟩ := put_free nq
      exact Wk.here (k q _ g x (by walk_at "sb") nq1 put_same)
    refine ⟨.inl ⟨by decide, by decide⟩, ⟨by decide, by decide, by omega⟩, _, rfl, ?_⟩
    have h8 : i % 8 = 0 ∨ i % 8 = 1 ∨ i % 8 = 2 ∨ i % 8 = 3 ∨ i % 8 = 4 ∨ i % 8 = 5 ∨ i % 8 = 6 ∨ i % 8 = 7 := by omega
    rcases h8 with e | e | e | e | e | e | e | e <;> rw [e] <;> exact ⟨_, rfl, _, rfl, by decide, fun q nq => fin _ _ q nq⟩
abbrev s_take : Stmt := top 12
theorem sc_take : FnScope ["_law_bag_here", "_law_many", "_law_digit"] ["_law_bag_here", "_law_many"] (defScope s_take) := ⟨rfl, rfl, rfl, by decide +kernel, rfl, by decide +kernel, by decide +kernel⟩
def sp_take (W : Wo) : DSp := fun ds m Q _ => ∃ (b : Addr) (g s c n : Int), ds = [.ref b, .int n] ∧ m b = some (.lst [.int g, .int s, .int c]) ∧ 0 < n ∧ n < 2 ^ 200 ∧
  ∀ r g' s' c' : Int, 0 ≤ r → r < n → Q (.int r) (put m b (.lst [.int g', .int s', .int c']))
theorem ok_take {W : Wo} {f : Addr} {fd : FuncData} (T : Txt W)  (F : FunD W.K "_law_take" "_law_take" (defArgs s_take) (defBody s_take) (defScope s_take) [] [] f fd) (hcd : fd.code = .ref (cdA W.K ("_law_take", none))) : FnG W.P W.w W.K W.mg W.base W.gd 1 f fd ["_law_bag_here", "_law_many"] (upSp (sp_take W)) := by
  refine okDc (.ref (cdA W.K ("_law_take", none))) [] F hcd sc_take (by decide +kernel) (by decide +kernel) (fun ds m Q E h => ?_) (fun A outer s H EV ca ds m Q E hr hca xc tk h => ?_)
  · obtain ⟨b, g, s, c, n, rfl, _⟩ := h
    rfl
  · have hu := huG hr
    obtain ⟨b, g, s', c, n, rfl, hb, n0, n1, k⟩ := h
    refine ⟨_, (dss_cons (ds_if (dt_cmpR o_gt (de_ix x_ixL (dv 0) dint (fun _ _ => rfl)) dint (nomark _)) (dss_cons (ds_set (i := 2) sc_take.nd rfl (Or.inl rfl) (de_op o_mod (de_ix x_ixL (dv 0) dint (fun _ _ => rfl)) (dv 1)))
        (dss_cons (ds_asg (de_op o_fdivW (de_ix x_ixL (dv 0) dint (fun _ _ => rfl)) (dv 1)) (dg_sub (dv 0) dint x_set))
        (dss_one (ds_ret (dv 2))))) dss_nil)
      (dss_cons (ds_asg (de_op o_addI (de_ix x_ixL (dv 0) dint (fun _ _ => rfl)) dint) (dg_sub (dv 0) dint x_set))
      (dss_cons (ds_asg (de_op o_mod (de_op o_addI (de_op o_addI (de_op o_mul (de_ix x_ixL (dv 0) dint (fun _ _ => rfl)) dint) (de_op o_mul dint (de_ix x_ixL (dv 0) dint (fun _ _ => rfl)))) dint) dint) (dg_sub (dv 0) dint x_set))
      (dss_one (ds_ret (de_op o_mod (de_op o_mod (de_op o_pow (de_op o_fdiv (de_ix x_ixL (dv 0) dint (fun _ _ => rfl)) dint) dint) dint) (dv 1))))))), ?_⟩
    clear hcd hu xc tk hr
    walk_at "rd"
    refine ⟨_, hb, _, rfl, _, rfl, ?_⟩
    split
    · refine ⟨_, hb, _, rfl, _, rfl, n0, _, hb, _, rfl, _, rfl, wide_div n0 (b := 200) (by omega) (by decide) (by decide), _, hb, _, rfl, Wk.here (k _ _ _ _ (Int.emod_nonneg _ (by omega)) (Int.emod_lt_of_pos _ n0))⟩
    · refine ⟨_, hb, _, rfl, _, rfl, _, hb, _, rfl, _, rfl, _, rfl, _, rfl, .inr ⟨by decide, by decide⟩, _, rfl, _, rfl, _, rfl, .inl ⟨by decide, by decide⟩, _, rfl, _, rfl, _, rfl, _, rfl, _, rfl, ⟨by decide, by decide⟩, ⟨by decide, by decide, ?_⟩, n0, Wk.of (k _ _ _ _ (Int.emod_nonneg _ (by omega)) (Int.emod_lt_of_pos _ n0)) (Sub.refl _)⟩
      have hm := Int.emod_nonneg (s' * 48271 + 6661 * (c + 1) + 17) (show (2147483647 : Int) ≠ 0 by decide)
      have hm2 := Int.emod_lt_of_pos (s' * 48271 + 6661 * (c + 1) + 17) (show (0 : Int) < 2147483647 by decide)
      omega
abbrev s_counted : Stmt := top 13
theorem sc_counted : FnScope ["_law_count", "_law_one", "_law_other"] ["_law_count", "_law_one", "_law_other"] (defScope s_counted) := ⟨rfl, rfl, rfl, by decide +kernel, rfl, by decide +kernel, by decide +kernel⟩
def sp_counted (W : Wo) : DSp := fun ds m Q _ => ∃ (a : Addr) (c x y : Int), ds = [.ref a, .int x, .int y] ∧ m a = some (.lst [.int c]) ∧ Q (.int (x + y)) (put m a (.lst [.int (c + 1)]))
theorem ok_counted {W : Wo} {f : Addr} {fd : FuncData} (T : Txt W)  (F : FunD W.K "_law_counted" "_law_counted" (defArgs s_counted) (defBody s_counted) (defScope s_counted) [] [] f fd) (hcd : fd.code = .ref (cdA W.K ("_law_counted", none))) : FnG W.P W.w W.K W.mg W.base W.gd 1 f fd ["_law_count", "_law_one", "_law_other"] (upSp (sp_counted W)) := by
  refine okDc (.ref (cdA W.K ("_law_counted", none))) [] F hcd sc_counted (by decide +kernel) (by decide +kernel) (fun ds m Q E h => ?_) (fun A outer s H EV ca ds m Q E hr hca xc tk h => ?_)
  · obtain ⟨a, c, x, y, rfl, _⟩ := h
    rfl
  · have hu := huG hr
    obtain ⟨a, c, x, y, rfl, ha, k⟩ := h
    refine ⟨_, (dss_cons (ds_asg (de_op o_addI (de_ix x_ixL (dv 0) dint (fun _ _ => rfl)) dint) (dg_sub (dv 0) dint x_set))
      (dss_one (ds_ret (de_op o_addI (dv 1) (dv 2))))), ?_⟩
    clear hcd hu xc tk hr
    walk_at "rd"
    exact ⟨_, ha, _, rfl, _, rfl, _, ha, _, rfl, Wk.here k⟩
def bag (m : M) (b : Addr) : Prop := ∃ g s c : Int, m b = some (.lst [.int g, .int s, .int c])
def bits (cs : List Int) : Prop := ∀ x ∈ cs, x = 0 ∨ x = 1
theorem fr_new {m m' : M} {b p : Addr} (h : Fr (fun x => x = b) m m') (hb : bag m' b) (n : m' p = none) : m p = none ∧ p ≠ b := by
  have hpb : p ≠ b := fun z => by
    obtain ⟨g, s, c, e⟩ := hb
    rw [← z, n] at e; cases e
  refine ⟨?_, hpb⟩
  cases e : m p with
  | none => rfl
  | some o => rw [h p o hpb e] at n; cases n
theorem _root_.Sms.Fr.bag {m m' : M} {b : Addr} {o : O} (h : Fr (fun x => x = b) m m') : Fr (fun x => x = b) m (put m' b o) := fun x v n e => put_at n (h x v n e)
theorem _root_.Sms.Fr.new {m m' : M} {foot : Addr → Prop} {p : Addr} {o : O} (h : Fr foot m m') (np : m' p = none) : Fr foot m (put m' p o) := fun x v n e => put_old np (h x v n e)
theorem bag_put {m : M} {b : Addr} {g s c : Int} : bag (put m b (.lst [.int g, .int s, .int c])) b := ⟨g, s, c, put_same⟩
theorem bag_new {m : M} {b p : Addr} {o : O} (h : bag m b) (np : m p = none) : bag (put m p o) b := by
  obtain ⟨g, s, c, e⟩ := h
  exact ⟨g, s, c, put_old np e⟩
theorem bits_app {a b : List Int} (h : bits a) (k : bits b) : bits (a ++ b) := fun x hx => (List.mem_append.mp hx).elim (h x) (k x)
abbrev s_runs : Stmt := top 14
theorem sc_runs : FnScope ["_law_bag_here", "_law_found", "_law_road", "_law_many", "_law_k"] ["_law_bag_here"] (defScope s_runs) := ⟨rfl, rfl, rfl, by decide +kernel, rfl, by decide +kernel, by decide +kernel⟩
def sp_runs (W : Wo) : DSp := fun ds m Q _ => ∃ (b : Addr), ds = [.ref b] ∧ bag m b ∧ ∀ p m2 (cs : List Int), Fr (fun x => x = b) m m2 → bag m2 b → m p = none → m2 p = some (.lst (cs.map D.int)) → bits cs → cs.length ≤ 200 → Q (.ref p) m2
theorem ok_runs {W : Wo} {f : Addr} {fd : FuncData} (T : Txt W) (D_take_2 : DF W 1 "_law_take" 2 [] (fun ds _ => ds) (sp_take W)) (F : FunD W.K "_law_runs" "_law_runs" (defArgs s_runs) (defBody s_runs) (defScope s_runs) [] [] f fd) (hcd : fd.code = .ref (cdA W.K ("_law_runs", none))) : FnG W.P W.w W.K W.mg W.base W.gd 2 f fd ["_law_bag_here"] (upSp (sp_runs W)) := by
  refine okDc (.ref (cdA W.K ("_law_runs", none))) [(0, "_law_bag_here")] F hcd sc_runs (by decide +kernel) (by decide +kernel) (fun ds m Q E h => ?_) (fun A outer s H EV ca ds m Q E hr hca xc tk h => ?_)
  · obtain ⟨b, rfl, _⟩ := h
    rfl
  · have hu := huG hr
    obtain ⟨c__law_bag_here, rfl⟩ := len1 hca
    have xc : XC _ [(0, c__law_bag_here)] := xc
    obtain ⟨b, rfl, hb, k⟩ := h
    refine ⟨_, (dss_cons (ds_set (i := 1) sc_runs.nd rfl (Or.inl rfl) (de_lst da_nil))
      (dss_cons (ds_while (passes_of rfl) (dt_cmpR o_lt (de_callB c_lenL (by rfl) T.b_len (by decide +kernel) (da_cons (dv 1) da_nil)) dint (nomark _)) (dss_cons (ds_set (i := 2) sc_runs.nd rfl (Or.inl rfl) (de_fn D_take_2 hr (by rfl) (xc_nil sc_runs.nd) tk (da_cons (dv 0) (da_cons dint da_nil)) dk_nil))
        (dss_cons (ds_set (i := 3) sc_runs.nd rfl (Or.inl rfl) (de_op o_addI dint (de_fn D_take_2 hr (by rfl) (xc_nil sc_runs.nd) tk (da_cons (dv 0) (da_cons (de_ix x_ixL (de_lst (da_cons dint (da_cons dint da_nil))) (de_fn D_take_2 hr (by rfl) (xc_nil sc_runs.nd) tk (da_cons (dv 0) (da_cons dint da_nil)) dk_nil) (fun _ _ => rfl)) da_nil)) dk_nil)))
        (dss_one (ds_if (dt_cmpR o_eqI (dv 2) dint (nomark _)) (dss_one (ds_set (i := 1) sc_runs.nd rfl (Or.inl rfl) (de_op o_addL (dv 1) (de_op o_rep (de_lst (da_cons dint da_nil)) (dv 3))))) (dss_one (ds_if (dt_cmpR o_eqI (dv 2) dint (nomark _)) (dss_one (ds_set (i := 1) sc_runs.nd rfl (Or.inl rfl) (de_op o_addL (dv 1) (de_op o_rep (de_lst (da_cons dint da_nil)) (dv 3))))) (dss_one (ds_if (dt_cmpR o_eqI (dv 2) dint (nomark _)) (dss_one (ds_set (i := 1) sc_runs.nd rfl (Or.inl rfl) (de_op o_addL (dv 1) (de_op o_rep (de_lst (da_cons dint (da_cons dint da_nil))) (de_op o_addI (de_op o_fdiv (dv 3) dint) dint))))) (dss_one (ds_set (i := 1) sc_runs.nd rfl (Or.inl rfl) (de_op o_addL (dv 1) (de_lc (own := [("_law_k", 4)]) (.one 4) rfl sc_runs.nd (di_range1 (by rfl) T.b_range (da_cons (dv 3) da_nil)) (blkOk_by (own := [("_law_k", 4)]) (N := ["_law_bag_here", "_law_found", "_law_road", "_law_many", "_law_k"]) (sc := defScope s_runs) (by decide +kernel)) (by decide) (fun _ _ _ _ _ => (pg_name (i := 4) sc_runs.nd rfl (Or.inl rfl))) (fun _ _ _ _ _ => dts_nil) (fun _ _ _ _ _ => (de_fn D_take_2 hr (by rfl) (xc_blk sc_runs.nd) tk0 (da_cons (dv 0) (da_cons dint da_nil)) dk_nil)))))))))))))))
      (dss_one (ds_ret (de_slice s_list (dv 1) do_none (do_some dint)))))), ?_⟩
    clear hcd hu xc tk hr
    refine seqL fun K1 hK1 => ?_
    walk_at "r1"
    intro q0 nq0
    refine hK1 _ _ ?_
    clear hK1 K1
    have hbq : b ≠ q0 := fun z => by obtain ⟨g, s, c, e⟩ := hb; rw [z, nq0] at e; cases e
    refine seqJ (fun δ m' => ∃ (q : Addr) (cs : List Int) (r1 r2 r3 : Option D), δ = [some (.ref b), some (.ref q), r1, r2, r3] ∧ bag m' b ∧ m' q = some (.lst (cs.map D.int)) ∧ q ≠ b ∧ bits cs ∧ cs.length ≤ 162 ∧ Fr (fun x => x = b) m m') (fun K1 hK1 => ?_) ?_
    · refine whileI (fun n δ m' => ∃ (q : Addr) (cs : List Int) (r1 r2 r3 : Option D), δ = [some (.ref b), some (.ref q), r1, r2, r3] ∧ bag m' b ∧ m' q = some (.lst (cs.map D.int)) ∧ q ≠ b ∧ bits cs ∧ cs.length ≤ 162 ∧ Fr (fun x => x = b) m m' ∧ n = 200 - cs.length) (n0 := 200) ⟨q0, [], none, none, none, rfl, ?_, put_same, hbq.symm, (fun x hx => by cases hx), by decide, fun c o h e => put_old nq0 e, rfl⟩ ?_
      · obtain ⟨g, s, c, e⟩ := hb
        exact ⟨g, s, c, put_old nq0 e⟩
      rintro n δ m' ⟨q, cs, r1, r2, r3, rfl, ⟨g, s', c, e⟩, hq, hqb, hbt, hl, hfr, rfl⟩ K2 hK2
      walk_at "r1"
      refine ⟨_, hq, ?_⟩
      split
      · rename_i hlt
        rw [List.length_map] at hlt
        refine seqL fun K3 hK3 => ?_
        walk_at "r1"
        refine ⟨b, g, s', c, 4, rfl, e, by decide, by decide, fun r g1 s1 c1 hr0 hr1 => hK3 _ _ ?_⟩
        clear hK3 K3
        refine seqL fun K3 hK3 => ?_
        walk_at "r1"
        intro p np
        have hpb : p ≠ b := (fr_new hfr.bag bag_put np).2
        have hpq : p ≠ q := fun z => by rw [z, put_ne hqb, hq] at np; cases np
        refine ⟨b, g1, s1, c1, 2, rfl, put_old np put_same, by decide, by decide, fun r2' g2 s2 c2 hz0 hz1 => ⟨_, _, rfl, put_at hpb put_same, ?_⟩⟩
        have fin : ∀ w : Int, 0 < w → w ≤ 40 → sp_take W [D.ref b, .int w] (put (put (put m' b (O.lst [D.int g1, D.int s1, D.int c1])) p (O.lst [D.int 4, D.int 40])) b (O.lst [D.int g2, D.int s2, D.int c2])) (fun y m2 => ∃ x, y = D.int x ∧ K3 [some (D.ref b), some (D.ref q), some (D.int r), some (D.int (1 + x)), r3] m2) fun c x m4 => Wk (E c x) m4 := fun w hw1 hw2 => by
          refine ⟨b, g2, s2, c2, w, rfl, put_same, hw1, by omega, fun x g3 s3 c3 hx0 hx1 => ⟨x, rfl, hK3 _ _ ?_⟩⟩
          clear hK3 K3
          have hx : 1 ≤ 1 + x ∧ 1 + x ≤ 40 := by omega
          generalize 1 + x = mn at hx
          have hq2 : put (put (put (put m' b (O.lst [D.int g1, D.int s1, D.int c1])) p (O.lst [D.int 4, D.int 40])) b (O.lst [D.int g2, D.int s2, D.int c2])) b (O.lst [D.int g3, D.int s3, D.int c3]) q = some (.lst (cs.map D.int)) := by
            rw [put_ne hqb, put_ne hqb, put_ne hpq.symm, put_ne hqb]; exact hq
          have hb2 : bag (put (put (put (put m' b (O.lst [D.int g1, D.int s1, D.int c1])) p (O.lst [D.int 4, D.int 40])) b (O.lst [D.int g2, D.int s2, D.int c2])) b (O.lst [D.int g3, D.int s3, D.int c3])) b := bag_put
          have hf2 : Fr (fun x => x = b) m (put (put (put (put m' b (O.lst [D.int g1, D.int s1, D.int c1])) p (O.lst [D.int 4, D.int 40])) b (O.lst [D.int g2, D.int s2, D.int c2])) b (O.lst [D.int g3, D.int s3, D.int c3])) := (hfr.bag.new np).bag.bag
          generalize put (put (put (put m' b (O.lst [D.int g1, D.int s1, D.int c1])) p (O.lst [D.int 4, D.int 40])) b (O.lst [D.int g2, D.int s2, D.int c2])) b (O.lst [D.int g3, D.int s3, D.int c3]) = mm at hq2 hb2 hf2
          have fin2 : ∀ (m2 : M) (p1 : Addr) (l : List Int) (w : Option D), bag m2 b → Fr (fun x => x = b) m m2 → m2 p1 = none → bits l → 1 ≤ l.length → l.length ≤ 42 → K2 [some (D.ref b), some (D.ref p1), some (D.int r), some (D.int mn), w] (put m2 p1 (.lst (cs.map D.int ++ l.map D.int))) := fun m2 p1 l w hb3 hf3 np1 hl1 hl2 hl3 => by
            refine hK2 (200 - (cs ++ l).length) _ _ (by simp; omega) ⟨p1, cs ++ l, _, _, _, rfl, bag_new hb3 np1, by rw [List.map_append]; exact put_same, (fr_new hf3 hb3 np1).2, bits_app hbt hl1, by simp; omega, hf3.new np1, rfl⟩
          have szl : (1000 : Nat) ≤ sizeLine := by decide
          have rp : ∀ (ys : List Int) (kk : Int), bits ys → 1 ≤ ys.length → 1 ≤ kk → kk < 1000 → kk.toNat * ys.length ≤ 42 → ∀ p, mm p = none → ∃ x, O.lst (ys.map D.int) = O.lst x ∧ -2 ^ 63 ≤ kk ∧ kk < 2 ^ 63 ∧ x.length * kk.toNat ≤ sizeLine ∧ ∀ p_1, put mm p (O.lst (ys.map D.int)) p_1 = none → ∃ x_1, put (put mm p (O.lst (ys.map D.int))) p_1 (O.lst (flatN kk.toNat x)) q = some (O.lst x_1) ∧ ∃ x_2, O.lst (flatN kk.toNat x) = O.lst x_2 ∧ x_1.length + x_2.length ≤ sizeLine ∧ ∀ p_2, put (put mm p (O.lst (ys.map D.int))) p_1 (O.lst (flatN kk.toNat x)) p_2 = none → K2 [some (D.ref b), some (D.ref p_2), some (D.int r), some (D.int mn), r3] (put (put (put mm p (O.lst (ys.map D.int))) p_1 (O.lst (flatN kk.toNat x))) p_2 (O.lst (x_1 ++ x_2))) := by
            intro ys kk hy hy1 hk1 hk2 hlen p np
            have hk3 : 1 ≤ kk.toNat := by omega
            have hk4 : 1 ≤ kk.toNat * ys.length := Nat.mul_pos hk3 hy1
            refine ⟨_, rfl, by omega, by omega, by rw [List.length_map, Nat.mul_comm]; omega, fun p1 np1 => ⟨_, put_old np1 (put_old np hq2), _, rfl, ?_, fun p2 np2 => ?_⟩⟩
            · rw [flatN_len, List.length_map, List.length_map]; omega
            · rw [flatN_map]
              rw [flatN_map] at np2
              exact fin2 _ p2 (flatN kk.toNat ys) _ (bag_new (bag_new hb2 np) np1) ((hf2.new np).new np1) np2 (fun x hx => hy x (flatN_mem hx)) (by rw [flatN_len]; exact hk4) (by rw [flatN_len]; exact hlen)
          walk_at "r1"
          split
          · exact rp [0] mn (by intro x hx; simp at hx; omega) (by simp) hx.1 (by omega) (by simp; omega)
          split
          · exact rp [1] mn (by intro x hx; simp at hx; omega) (by simp) hx.1 (by omega) (by simp; omega)
          split
          · exact fun p np => ⟨⟨by decide, by decide⟩, rp [0, 1] (mn / 2 + 1) (by intro x hx; simp at hx; omega) (by simp) (by omega) (by omega) (by simp; omega) p np⟩
          refine ⟨by omega, by omega, fun b1 nb1 => ?_⟩
          have hb1b := (fr_new hf2 hb2 nb1).2
          have hb1q : b1 ≠ q := fun z => by rw [z, hq2] at nb1; cases nb1
          refine lcJ (fun items acc m2 => bag m2 b ∧ Fr (fun x => x = b) m m2 ∧ m2 b1 = some (.lst acc) ∧ m2 q = some (.lst (cs.map D.int)) ∧ ∃ l : List Int, acc = l.map D.int ∧ bits l ∧ l.length + items.length = mn.toNat) ?_ ?_ _ _ _ ⟨bag_new hb2 nb1, hf2.new nb1, put_same, put_old nb1 hq2, [], rfl, (fun x hx => by cases hx), by simp⟩
          · rintro acc m2 ⟨h1, h2, h3, h4, l, rfl, h6, h7⟩
            refine ⟨trivial, h3, b1, rfl, _, h4, _, h3, by rw [List.length_map, List.length_map]; simp at h7; omega, fun p2 np2 => fin2 _ p2 l _ h1 h2 np2 h6 (by simp at h7; omega) (by simp at h7; omega)⟩
          · rintro x rr acc m2 ⟨⟨g4, s4, c4, h1⟩, h2, h3, h4, l, rfl, h6, h7⟩
            refine ⟨trivial, fun K4 hK4 => ?_⟩
            walk_at "rd"
            refine ⟨b, g4, s4, c4, 2, rfl, h1, by decide, by decide, fun y g5 s5 c5 hy0 hy1 => ⟨put_at hb1b h3, by rw [List.length_map]; simp at h7; omega, hK4 _ _ ⟨?_, ?_, put_same, put_at hb1q.symm (put_at hqb h4), l ++ [y], by simp, bits_app h6 (by intro x hx; simp at hx; omega), by simp at h7 ⊢; omega⟩⟩⟩
            · exact ⟨g5, s5, c5, put_at hb1b.symm put_same⟩
            · intro x v hx e
              have hxb1 : x ≠ b1 := fun z => by
                rw [z] at e
                rw [hf2 _ _ hb1b e] at nb1; cases nb1
              exact put_at hxb1 (put_at hx (h2 x v hx e))
        have hz : r2' = 0 ∨ r2' = 1 := by omega
        rcases hz with rfl | rfl
        · exact ⟨_, rfl, fin 4 (by decide) (by decide)⟩
        · exact ⟨_, rfl, fin 40 (by decide) (by decide)⟩
      · exact hK1 _ _ ⟨q, cs, r1, r2, r3, rfl, ⟨g, s', c, e⟩, hq, hqb, hbt, hl, hfr⟩
    rintro δ' m' ⟨q, cs, r1, r2, r3, rfl, hb', hq, hqb, hbt, hl, hfr⟩
    walk_at "rd"
    refine ⟨_, hq, fun p np => ?_⟩
    rw [show G.cutD (List.map D.int cs) none (some 200) = (cs.take 200).map D.int by rw [List.map_take]; exact cut_to (by decide)]
    exact Wk.here (k p _ (cs.take 200) (hfr.new np) (bag_new hb' np) (fr_new hfr hb' np).1 put_same (fun x hx => hbt x (List.mem_of_mem_take hx)) (by simp; omega))
structure QA where
  ca : Addr
  ha : Addr
  qa : Addr
  f : Addr
  ka : Addr
  ea : Addr
  dx : Addr
  F : LF
abbrev QA.o (A : QA) (W : Wo) (kept : List (Key × D)) (next : Int) (es : List D) (d : D) : SO := ⟨A.qa, He.ga W.K "EvenSums", A.dx, A.ka, A.ea, kept, next, es, false, .ref A.f, .int 0, d⟩
def uF (A : QA) (c : Addr) (b : Addr) : Prop := b = A.ca ∨ b = A.f ∨ b = c ∨ b = A.ha
def aF (A : QA) (c : Addr) (b : Addr) : Prop := uF A c b ∨ b = A.qa ∨ b = A.ka ∨ b = A.ea
structure URep (A : QA) (c : Addr) (held : List D) (u : Int) (m : M) : Prop where
  ca : m A.ca = some (.lst [.int u])
  f : m A.f = some (.lm A.F)
  c : m c = some (.cel (.ref A.ca))
  ha : m A.ha = some (.lst held)
/-- between two calls of the queue -/
structure QI (W : Wo) (A : QA) (c : Addr) (m0 m : M) (lo : Int) (n : Nat) (u : Int) (es : List D) (st : ES) (d : D) (held : List Int) : Prop where
  ok : SOk m (A.o W (kpt PP lo n) (lo + (n : Nat)) es d)
  sa : StAt m (aF A c) st d
  iv : Inv PP lo (lo + (n : Nat)) st
  gd : goodC (u, es)
  ca : m A.ca = some (.lst [.int u])
  f : m A.f = some (.lm A.F)
  ha : m A.ha = some (.lst (held.map D.int))
  lo0 : 0 ≤ lo
  sub : Sub m0 m
  nw : ∀ b, aF A c b → m0 b = none
  n1 : A.ca ≠ A.ha
  n2 : A.ca ≠ A.ea
  n3 : A.ha ≠ A.ea
section
variable {W : Wo} {A : QA} {c : Addr} {m0 m : M} {lo : Int} {n : Nat} {u : Int} {es : List D} {st : ES} {d : D} {held : List Int}
theorem StAt.keep {m m2 : M} {foot : Addr → Prop} {st : ES} {d : D} (x : StAt m foot st d) (h : ∀ b xs, ¬ foot b → m b = some (.lst xs) → m2 b = some (.lst xs)) : StAt m2 foot st d := by
  obtain ⟨p, fq, h1, h2, h3, h4⟩ := x
  refine ⟨p, fq, h1, h _ _ h3 h2, h3, ?_⟩
  cases hf : st.fresh with
  | none => rw [hf] at h4; exact h4
  | some l => rw [hf] at h4; obtain ⟨q, e1, e2, e3⟩ := h4; exact ⟨q, e1, h _ _ e3 e2, e3⟩
theorem QI.put (q : QI W A c m0 m lo n u es st d held) (l : List Int) : QI W A c m0 (G.put m A.ha (.lst (l.map D.int))) lo n u es st d l := by
  have k1 : A.qa ≠ A.ha := ne_of_o q.ok.ob q.ha (by intro z; cases z)
  have k2 : A.ka ≠ A.ha := ne_of_o q.ok.ke q.ha (by intro z; cases z)
  have k3 : A.f ≠ A.ha := ne_of_o q.f q.ha (by intro z; cases z)
  refine ⟨⟨put_at k1 q.ok.ob, put_at k2 q.ok.ke, put_at q.n3.symm q.ok.en⟩, StAt.keep q.sa fun b xs h e => put_at (fun z => h (.inl (.inr (.inr (.inr z))))) e, q.iv, q.gd, put_at q.n1 q.ca, put_at k3 q.f, put_same, q.lo0, fun b v e => put_at (fun z => ?_) (q.sub _ _ e), q.nw, q.n1, q.n2, q.n3⟩
  rw [z, q.nw _ (.inl (.inr (.inr (.inr rfl))))] at e; cases e
theorem QI.up (q : QI W A c m0 m lo n u es st d held) {m2 : M} (s : Sub m m2) : QI W A c m0 m2 lo n u es st d held :=
  ⟨⟨s _ _ q.ok.ob, s _ _ q.ok.ke, s _ _ q.ok.en⟩, q.sa.sub s, q.iv, q.gd, s _ _ q.ca, s _ _ q.f, s _ _ q.ha, q.lo0, q.sub.trans s, q.nw, q.n1, q.n2, q.n3⟩
theorem QI.shown (q : QI W A c m0 m lo n u es st d held) (hc : m c = none) (tm : TbM W m0) : Sub m (G.put m c (.cel (.ref A.ca))) ∧ SOk (G.put m c (.cel (.ref A.ca))) (A.o W (kpt PP lo n) (lo + (n : Nat)) es d) ∧ URep A c (held.map D.int) u (G.put m c (.cel (.ref A.ca))) ∧ USep W (G.put m c (.cel (.ref A.ca))) (A.o W (kpt PP lo n) (lo + (n : Nat)) es d) (uF A c) ∧ StAt (G.put m c (.cel (.ref A.ca))) (aF A c) st d := by
  have sb : Sub m (G.put m c (.cel (.ref A.ca))) := fun b v e => put_old hc e
  have hcc : G.put m c (.cel (.ref A.ca)) c = some (.cel (.ref A.ca)) := put_same
  have hca := sb _ _ q.ca
  have hf := sb _ _ q.f
  have hha := sb _ _ q.ha
  have ob := sb _ _ q.ok.ob
  have ke := sb _ _ q.ok.ke
  have en := sb _ _ q.ok.en
  have tm' : TbM W (G.put m c (.cel (.ref A.ca))) := tm.loc fun b v _ e => sb _ _ (q.sub _ _ e)
  refine ⟨sb, ⟨ob, ke, en⟩, ⟨hca, hf, hcc, hha⟩, ⟨?_, ?_, ?_, fun b hb => ?_, tm'⟩, q.sa.sub sb⟩
  · rintro (z | z | z | z)
    · exact ne_of_o ob hca (by intro z; cases z) z
    · exact ne_of_o ob hf (by intro z; cases z) z
    · exact ne_of_o ob hcc (by intro z; cases z) z
    · exact ne_of_o ob hha (by intro z; cases z) z
  · rintro (z | z | z | z)
    · exact ne_of_o ke hca (by intro z; cases z) z
    · exact ne_of_o ke hf (by intro z; cases z) z
    · exact ne_of_o ke hcc (by intro z; cases z) z
    · exact ne_of_o ke hha (by intro z; cases z) z
  · rintro (z | z | z | z)
    · exact q.n2 z.symm
    · exact ne_of_o en hf (by intro z; cases z) z
    · exact ne_of_o en hcc (by intro z; cases z) z
    · exact q.n3 z.symm
  · obtain ⟨nm, e⟩ := tm'.tab hb
    rintro (z | z | z | z)
    · exact ne_of_o e hca (by intro z; cases z) z
    · exact ne_of_o e hf (by intro z; cases z) z
    · exact ne_of_o e hcc (by intro z; cases z) z
    · exact ne_of_o e hha (by intro z; cases z) z
theorem QI.back (q : QI W A c m0 m lo n u es st d held) {m1 m2 : M} {lo2 : Int} {n2 : Nat} {u2 : Int} {es2 : List D} {st2 : ES} {d2 : D} (h1 : Sub m m1) (ok : SOk m2 (A.o W (kpt PP lo2 n2) (lo2 + (n2 : Nat)) es2 d2)) (ur : URep A c (held.map D.int) u2 m2) (sa : StAt m2 (aF A c) st2 d2) (iv : Inv PP lo2 (lo2 + (n2 : Nat)) st2) (gd : goodC (u2, es2)) (l0 : 0 ≤ lo2) (fr : Fr (aF A c) m1 m2) : QI W A c m0 (del m2 c) lo2 n2 u2 es2 st2 d2 held := by
  have k : ∀ {b : Addr} {v : O}, m2 b = some v → (∀ x, v ≠ .cel x) → del m2 c b = some v := fun {b v} e h => del_at (fun z => by rw [z, ur.c] at e; cases e; exact h _ rfl) e
  refine ⟨⟨k ok.ob (fun x z => by cases z), k ok.ke (fun x z => by cases z), k ok.en (fun x z => by cases z)⟩, StAt.keep sa fun b xs h e => k e (fun x z => by cases z), iv, gd, k ur.ca (fun x z => by cases z), k ur.f (fun x z => by cases z), k ur.ha (fun x z => by cases z), l0, fun b v e => ?_, q.nw, q.n1, q.n2, q.n3⟩
  have hb : ¬ aF A c b := fun z => by rw [q.nw b z] at e; cases e
  exact del_at (fun z => hb (.inl (.inr (.inr (.inl z))))) (fr b v hb (h1 _ _ (q.sub _ _ e)))
end
theorem free2 {m : M} {a b y : Addr} {o1 o2 : O} (h : put (put m a o1) b o2 y = none) : m y = none ∧ y ≠ a ∧ y ≠ b := by
  obtain ⟨h, h1⟩ := put_free h
  obtain ⟨h, h2⟩ := put_free h
  exact ⟨h, h2, h1⟩
theorem free3 {m : M} {a b c y : Addr} {o1 o2 o3 : O} (h : put (put (put m a o1) b o2) c o3 y = none) : m y = none ∧ y ≠ a ∧ y ≠ b ∧ y ≠ c := by
  obtain ⟨h, h1⟩ := put_free h
  obtain ⟨h, h2, h3⟩ := free2 h
  exact ⟨h, h2, h3, h1⟩
theorem free4 {m : M} {a b c d y : Addr} {o1 o2 o3 o4 : O} (h : put (put (put (put m a o1) b o2) c o3) d o4 y = none) : m y = none ∧ y ≠ a ∧ y ≠ b ∧ y ≠ c ∧ y ≠ d := by
  obtain ⟨h, h1⟩ := put_free h
  obtain ⟨h, h2, h3, h4⟩ := free3 h
  exact ⟨h, h2, h3, h4, h1⟩
theorem free5 {m : M} {a b c d e y : Addr} {o1 o2 o3 o4 o5 : O} (h : put (put (put (put (put m a o1) b o2) c o3) d o4) e o5 y = none) : m y = none ∧ y ≠ a ∧ y ≠ b ∧ y ≠ c ∧ y ≠ d ∧ y ≠ e := by
  obtain ⟨h, h1⟩ := put_free h
  obtain ⟨h, h2, h3, h4, h5⟩ := free4 h
  exact ⟨h, h2, h3, h4, h5, h1⟩
abbrev s_right : Stmt := top 15
theorem sc_right : FnScope ["_law_calls", "_law_pace", "_law_count", "_law_held", "_law_number", "_law_queue", "_law_at", "_law_call", "_law_before"] ["_law_calls", "_law_pace"] (defScope s_right) := ⟨rfl, rfl, rfl, by decide +kernel, rfl, by decide +kernel, by decide +kernel⟩
def sp_right (W : Wo) : DSp := fun ds m Q _ => ∃ (ca : Addr) (cs : List Int) (pace : Int), ds = [.ref ca, .int pace] ∧ m ca = some (.lst (cs.map D.int)) ∧ bits cs ∧ cs.length ≤ 300 ∧ 0 < pace ∧ TbM W m ∧ ∀ m2, Sub m m2 → Q (.bl true) m2
theorem ok_right {W : Wo} {f : Addr} {fd : FuncData} (T : Txt W) (D_EvenSums_add_1 : DM W 20 (fun C => C = He.ga W.K "EvenSums") "add" 1 [] (fun ds _ => ds) (fun _ => sp_Sums_add W)) (D_EvenSums_remove_oldest_0 : DM W 20 (fun C => C = He.ga W.K "EvenSums") "remove_oldest" 0 [] (fun ds _ => ds) (fun _ => sp_Sums_remove_oldest W)) (D_EvenSums_total_0 : DM W 20 (fun C => C = He.ga W.K "EvenSums") "total" 0 [] (fun ds _ => ds) (fun _ => sp_Sums_total W)) (D_counted_3 : DF W 1 "_law_counted" 3 [] (fun ds _ => ds) (sp_counted W)) (M_EvenSums_1_zero : DF W 4 "EvenSums" 1 ["zero"] (fun ds es => ds ++ es) (mkSp (He.ga W.K "EvenSums") (sp_EvenSums___init__ W))) (F : FunD W.K "_law_right" "_law_right" (defArgs s_right) (defBody s_right) (defScope s_right) [] [] f fd) (hcd : fd.code = .ref (cdA W.K ("_law_right", none))) : FnG W.P W.w W.K W.mg W.base W.gd 21 f fd ["_law_calls", "_law_pace"] (upSp (sp_right W)) := by
  refine okDc (.ref (cdA W.K ("_law_right", none))) [(2, "_law_count")] F hcd sc_right (by decide +kernel) (by decide +kernel) (fun ds m Q E h => ?_) (fun A outer s H EV ca ds m Q E hr hca xc tk h => ?_)
  · obtain ⟨_, _, _, rfl, _⟩ := h
    rfl
  · have hu := huG hr
    obtain ⟨c__law_count, rfl⟩ := len1 hca
    have xc : XC _ [(2, c__law_count)] := xc
    obtain ⟨cl, cs, pace, rfl, hcl, hcs, hlen, hpace, htm, k⟩ := h
    refine ⟨_, (dss_cons (ds_asg (de_tup (da_cons (de_lst (da_cons dint da_nil)) (da_cons (de_lst da_nil) (da_cons dint da_nil)))) (dg_tup (n := 3) (by rfl) (dgs_cons (dg_name (i := 2) sc_right.nd rfl (Or.inr rfl)) (dgs_cons (dg_name (i := 3) sc_right.nd rfl (Or.inl rfl)) (dgs_cons (dg_name (i := 4) sc_right.nd rfl (Or.inl rfl)) dgs_nil)))))
      (dss_cons (ds_set (i := 5) sc_right.nd rfl (Or.inl rfl) (de_fn M_EvenSums_1_zero hr (by rfl) (xc_sub (cs' := [(2, c__law_count)]) xc) tk (da_cons (de_lamS (nm := nm_right) [(2, c__law_count)] ["_law_count"] (defScope s_right) ("_law_right" ++ ".<locals>.") T.t_right rfl xc (by decide +kernel) (by decide +kernel)) da_nil) (dk_cons dint dk_nil)))
      (dss_cons (ds_for (passes_of rfl) rfl (di_enum (by rfl) T.b_enumerate (da_cons (dv 0) da_nil)) (dg_tup (n := 2) (by rfl) (dgs_cons (dg_name (i := 6) sc_right.nd rfl (Or.inl rfl)) (dgs_cons (dg_name (i := 7) sc_right.nd rfl (Or.inl rfl)) dgs_nil))) (dss_cons (ds_set (i := 8) sc_right.nd rfl (Or.inl rfl) (de_ix x_ixL (dv 2) dint (fun _ _ => rfl)))
        (dss_cons (ds_if (PW.pt (dw_or (dt_cmpR o_eqI (dv 7) dint (nomark _)) (dw_or1 (dt_cmpR (o_eqE hr.units0) (dv 3) (de_lst da_nil) (nomark _))))) (dss_cons (ds_expr (de_bm PySem.F.slot_list_append PySem.F.type_list_append m_append (dv 3) (da_cons (de_op o_addI (de_op o_mul (dv 4) (dv 4)) dint) da_nil)))
          (dss_cons (ds_expr (de_mth D_EvenSums_add_1 (dv 5) hr (xc_sub (cs' := [(2, c__law_count)]) xc) tk (da_cons (de_ix x_ixL (dv 3) (de_un u_neg dint) (fun _ _ => rfl)) da_nil) dk_nil))
          (dss_cons (ds_set (i := 4) sc_right.nd rfl (Or.inl rfl) (de_op o_addI (dv 4) dint))
          (dss_one (ds_if (dt_cmpR o_gt (de_ix x_ixL (dv 2) dint (fun _ _ => rfl)) (de_op o_addI (dv 8) dint) (nomark _)) (dss_one (ds_ret dbl)) dss_nil))))) (dss_cons (ds_expr (de_bm PySem.F.slot_list_pop PySem.F.type_list_pop m_popAt (dv 3) (da_cons dint da_nil)))
          (dss_cons (ds_expr (de_mth0 D_EvenSums_remove_oldest_0 (dv 5) hr (xc_sub (cs' := [(2, c__law_count)]) xc) tk dk_nil))
          (dss_one (ds_if (dt_cmpR o_gt (de_ix x_ixL (dv 2) dint (fun _ _ => rfl)) (de_op o_addI (dv 8) dint) (nomark _)) (dss_one (ds_ret dbl)) dss_nil)))))
        (dss_one (ds_if (dt_cmpR o_eqI (de_op o_mod (dv 6) (dv 1)) dint (nomark _)) (dss_cons (ds_set (i := 8) sc_right.nd rfl (Or.inl rfl) (de_ix x_ixL (dv 2) dint (fun _ _ => rfl)))
          (dss_one (ds_if (PW.pt (dw_or (dt_cmpR o_neI (de_mth0 D_EvenSums_total_0 (dv 5) hr (xc_sub (cs' := [(2, c__law_count)]) xc) tk dk_nil) (de_callB (c_sum rfl) (by rfl) T.b_sum (by decide +kernel) (da_cons (dv 3) da_nil)) (nomark _)) (dw_or1 (dt_cmpR o_gt (de_ix x_ixL (dv 2) dint (fun _ _ => rfl)) (de_op o_addI (dv 8) dint) (nomark _))))) (dss_one (ds_ret dbl)) dss_nil))) dss_nil)))))
      (dss_one (ds_ret dbl))))), ?_⟩
    clear hcd hu xc tk hr
    have ht := htm.t_right
    refine seqL fun K1 hK1 => ?_
    walk_at "r1"
    intro ca nca ha nha
    refine hK1 _ _ ?_
    clear hK1 K1
    refine seqL fun K1 hK1 => ?_
    walk_at "r1"
    refine ⟨put_old nha (put_old nca ht), fun f' F' nf p1 p2 p3 hC' => ⟨by simp, fun hn hd => ?_⟩⟩
    simp only [List.mem_cons, List.not_mem_nil, or_false, forall_eq_or_imp, forall_eq] at hn
    walk_at "rd"
    intro x dx nx nxd
    refine ⟨x, _, dx, .ref f', .int 0, rfl, put_same, rfl, fun ka ea p m2 nk ne np d1 d2 d3 ok hp fr => ⟨rfl, hK1 _ _ ?_⟩⟩
    clear hK1 K1
    obtain ⟨c1, c2, c3, c4⟩ := free3 hn
    obtain ⟨x1, x2, x3, x4, x5⟩ := free4 nx
    obtain ⟨k1, k2, k3, k4, k5, k6⟩ := free5 nk
    obtain ⟨e1, e2, e3, e4, e5, e6⟩ := free5 ne
    obtain ⟨q1, q2, q3, q4, q5, q6⟩ := free5 np
    obtain ⟨f1, f2, f3⟩ := free2 nf
    obtain ⟨h1, h2⟩ := put_free nha
    have m2_at : ∀ {b : Addr} {v : O}, b ≠ x → b ≠ ka → b ≠ ea → b ≠ p → b ≠ c__law_count → put (put (put m ca (O.lst [D.int 0])) ha (O.lst [])) f' (O.lm F') b = some v → del m2 c__law_count b = some v := fun {b v} b1 b2 b3 b4 b5 e => del_at b5 (by rw [fr b b1 b2 b3 b4, put_ne b1, put_ne b5]; exact e)
    have qi : QI W ⟨ca, ha, x, f', ka, ea, dx, F'⟩ c__law_count m (del m2 c__law_count) 0 0 0 [] ⟨[], none, none, none⟩ (.tup [.ref p, .non, .non, .non]) [] := by
      refine ⟨⟨del_at x5 ok.ob, del_at k5 ok.ke, del_at e5 ok.en⟩, ⟨p, .non, rfl, del_at q5 hp, ?_, rfl⟩, .calm 0 0 (by simp) ?_ (by simp) (by simp), rfl, ?_, ?_, ?_, by omega, ?_, ?_, Ne.symm h2, Ne.symm e2, Ne.symm e3⟩
      · rintro ((z | z | z | z) | z | z | z)
        · exact q2 z
        · exact q4 z
        · exact q5 z
        · exact q3 z
        · exact q6 z
        · exact d2 z.symm
        · exact d3 z.symm
      · rw [lad_zero]; show _ = ES.mk [] (oS PP 0 0) none none; rw [oS_same]
      · exact m2_at (Ne.symm x2) (Ne.symm k2) (Ne.symm e2) (Ne.symm q2) (Ne.symm c2) (put_at (Ne.symm f2) (put_at (Ne.symm h2) put_same))
      · exact m2_at (Ne.symm x4) (Ne.symm k4) (Ne.symm e4) (Ne.symm q4) (Ne.symm c4) put_same
      · exact m2_at (Ne.symm x3) (Ne.symm k3) (Ne.symm e3) (Ne.symm q3) (Ne.symm c3) (put_at (Ne.symm f3) put_same)
      · intro b v e
        have nn : ∀ {y : Addr}, m y = none → b ≠ y := fun {y} hy z => by rw [z, hy] at e; cases e
        exact m2_at (nn x1) (nn k1) (nn e1) (nn q1) (nn c1) (put_at (nn f1) (put_at (nn h1) (put_at (nn nca) e)))
      · rintro b ((z | z | z | z) | z | z | z) <;> rw [z]
        · exact nca
        · exact f1
        · exact c1
        · exact h1
        · exact x1
        · exact k1
        · exact e1
    have hAe : ∃ A : QA, A = ⟨ca, ha, x, f', ka, ea, dx, F'⟩ := ⟨_, rfl⟩
    obtain ⟨A, hA⟩ := hAe
    rw [← hA] at qi
    obtain ⟨rfl, rfl, rfl, rfl, rfl⟩ : ca = A.ca ∧ ha = A.ha ∧ x = A.qa ∧ f' = A.f ∧ F' = A.F := by subst hA; exact ⟨rfl, rfl, rfl, rfl, rfl⟩
    clear hA m2_at fr ok hp
    generalize del m2 c__law_count = mA at qi
    clear nk ne np d1 d2 d3 c1 c2 c3 c4 x1 x2 x3 x4 x5 k1 k2 k3 k4 k5 k6 e1 e2 e3 e4 e5 e6 q1 q2 q3 q4 q5 q6 f1 f2 f3 h1 h2 nx nxd hn nf nha nca
    have nca' : A.ha ≠ A.ca := qi.n1.symm
    have ub : ∀ held, UB W (.ref A.f) (URep A c__law_count held) (uF A c__law_count) limC gC := fun held => by
      refine ⟨fun u m h => ⟨A.f, rfl, .inr (.inr ⟨A.F, h.f⟩)⟩, fun u m m' h k => ⟨k _ _ (.inl rfl) h.ca, k _ _ (.inr (.inl rfl)) h.f, k _ _ (.inr (.inr (.inl rfl))) h.c, k _ _ (.inr (.inr (.inr rfl))) h.ha⟩, ?_, ?_⟩
      · rintro u m b h (z | z | z | z) <;> rw [z]
        · rw [h.ca]; simp
        · rw [h.f]; simp
        · rw [h.c]; simp
        · rw [h.ha]; simp
      · rintro u m1 _ _ F0 Q0 E0 h ⟨i, j, rfl, rfl⟩ hs0 ha0 kQ kE
        refine dact_lmE (N := ["_law_one", "_law_other", "_law_count"]) (ps := ["_law_one", "_law_other"]) (fr := ["_law_count"]) p1 p2 p3 h.f hC' (hol1 h.c) (nscope_by (by decide +kernel)) (fun _ _ _ _ _ us hl => match us, hl with | [_, _], _ => rfl) rfl (fun A1 outer1 s1 T1 EV1 _ _ _ hr1 xc1 tk1 => ⟨_, (de_fn D_counted_3 hr1 (by rfl) (xc_nil (by exact (by decide : (["_law_one", "_law_other", "_law_count"] : List Str).Nodup))) tk1 (da_cons (dv 2) (da_cons (dv 0) (da_cons (dv 1) da_nil))) dk_nil), ?_⟩)
        walk_at "rd"
        have hac : A.ca ≠ c__law_count := ne_of_o h.ca h.c (by intro z; cases z)
        have hfc : A.f ≠ c__law_count := ne_of_o h.f h.c (by intro z; cases z)
        have hhc : A.ha ≠ c__law_count := ne_of_o h.ha h.c (by intro z; cases z)
        have hfa : A.f ≠ A.ca := ne_of_o h.f h.ca (by intro z; cases z)
        refine ⟨A.ca, u, i, j, rfl, del_at hac h.ca, fun hz => ?_⟩
        refine Wk.here (kQ (u + 1) (.int (i + j)) _ rfl ⟨put_at hac put_same, put_at hfc (put_at hfa (del_at hfc h.f)), put_same, put_at hhc (put_at nca' (del_at hhc h.ha))⟩ fun b v e => ?_)
        have hb : ¬ uF A c__law_count b := fun z => by rw [ha0 b z] at e; cases e
        exact put_at (fun z => hb (.inr (.inr (.inl z)))) (put_at (fun z => hb (.inl z)) (del_at (fun z => hb (.inr (.inr (.inl z)))) (hs0 _ _ e)))
    refine seqL fun K1 hK1 => ?_
    walk_at "r1"
    refine ⟨_, qi.sub _ _ hcl, ?_⟩
    refine forI (fun items δ m' => ∃ (lo : Int) (n : Nat) (u : Int) (es : List D) (st : ES) (d : D) (rest : List Int) (i : Nat) (w1 w2 w3 : Option D), items = ((rest.map D.int).zipIdx i).map (fun p => D.tup [D.int ((p.snd : Nat) : Int), p.fst]) ∧ δ = [some (D.ref cl), some (D.int pace), some (D.ref A.ca), some (D.ref A.ha), some (D.int (lo + (n : Nat))), some (D.ref A.qa), w1, w2, w3] ∧ QI W A c__law_count m m' lo n u es st d (hld PP lo n) ∧ es.length ≤ 5 * i ∧ lo + (n : Nat) ≤ (i : Nat) ∧ bits rest ∧ i + rest.length ≤ 300) ?_ ?_ _ _ _ ⟨0, 0, 0, [], _, _, cs, 0, none, none, none, rfl, rfl, qi, by simp, by simp, hcs, by omega⟩
    · rintro δ m' ⟨lo, n, u, es, st, d, rest, i, w1, w2, w3, _, rfl, q, _⟩
      refine ⟨q.sub _ _ hcl, hK1 _ _ ?_⟩
      walk_at "rd"
      exact Wk.here (k _ q.sub)
    clear hK1 qi mA
    rintro x1 r1 δ m' ⟨lo, n, u, es, st, d, rest, i, w1, w2, w3, hit, rfl, q, hes, hhi, hbt, hlr⟩
    cases rest with
    | nil => cases hit
    | cons y rest =>
      cases hit
      refine ⟨q.sub _ _ hcl, fun K2 hK2 => ?_⟩
      walk_at "r1"
      refine seqL fun K3 hK3 => ?_
      walk_at "r1"
      refine ⟨_, q.ca, _, rfl, hK3 _ _ ?_⟩
      clear hK3 K3
      have hug : u = (es.length : Nat) := q.gd
      have szl : (100000 : Nat) ≤ sizeLine := by decide
      simp only [List.length_cons] at hlr
      refine seqJ (fun δ m2 => ∃ (lo2 : Int) (n2 : Nat) (u2 : Int) (es2 : List D) (st2 : ES) (d2 : D) (w : Option D), δ = [some (D.ref cl), some (D.int pace), some (D.ref A.ca), some (D.ref A.ha), some (D.int (lo2 + (n2 : Nat))), some (D.ref A.qa), some (D.int (i : Nat)), some (D.int y), w] ∧ QI W A c__law_count m m2 lo2 n2 u2 es2 st2 d2 (hld PP lo2 n2) ∧ es2.length ≤ 5 * i + 2 ∧ lo2 + (n2 : Nat) ≤ (i : Nat) + 1) (fun K3 hK3 => ?_) ?_
      · refine ifI (fun b m2 => QI W A c__law_count m m2 lo n u es st d (hld PP lo n) ∧ (b = false → 1 ≤ n)) (fun K4 hK4 => ?_) (fun m2 r => ?_) (fun m2 r => ?_)
        · walk_at "r1"
          split
          · exact hK4 _ _ ⟨q, fun z => by cases z⟩
          · intro p np
            have qp := q.up (m2 := put m' p (.lst [])) fun b v e => put_old np e
            refine ⟨_, qp.ha, hK4 _ _ ⟨qp, fun z => ?_⟩⟩
            cases n with
            | zero => cases z
            | succ n => omega
        · obtain ⟨q2, _⟩ := r
          clear q
          have l0 := q2.lo0
          refine seqL fun K4 hK4 => ?_
          walk_at "r1"
          refine ⟨⟨_, q2.ha⟩, .inl ⟨by omega, by omega⟩, _, q2.ha, by rw [List.length_map, hld_len]; omega, hK4 _ _ ?_⟩
          clear hK4 K4
          have ev : (lo + (n : Nat)) * (lo + (n : Nat)) + 1 = PP (lo + (n : Nat) + 1) - PP (lo + (n : Nat)) := (PP_succ (by omega)).symm
          rw [ev, show (hld PP lo n).map D.int ++ [D.int (PP (lo + (n : Nat) + 1) - PP (lo + (n : Nat)))] = (hld PP lo (n + 1)).map D.int by rw [hld_snoc, List.map_append]; rfl]
          have q3 := q2.put (hld PP lo (n + 1))
          generalize put m2 A.ha (O.lst ((hld PP lo (n + 1)).map D.int)) = m3 at q3
          refine seqL fun K4 hK4 => ?_
          walk_at "r1"
          have hz : lo + (n : Nat) + 1 = lo + ((n + 1 : Nat) : Int) := by omega
          refine ⟨_, _, _, q3.ok.ob, rfl, rfl, _, q3.ha, .int (PP (lo + (n : Nat) + 1) - PP (lo + (n : Nat))), atI_last (by rw [hld_snoc]; simp), by simp, fun hn hd => ?_⟩
          simp only [List.mem_cons, List.not_mem_nil, or_false, forall_eq_or_imp, forall_eq] at hn
          walk_at "rd"
          obtain ⟨sb, ok1, ur1, us1, sa1⟩ := q3.shown hn htm
          obtain ⟨⟨u', es'⟩, st', e', iv', g', cc1, cc2⟩ := add_ok (s := (u, es)) actsC q3.iv kpt_has q3.gd
          have g2 : u' = (es'.length : Nat) := g'
          have cc2 : es'.length ≤ es.length + 2 := cc2
          refine ⟨Int, URep A c__law_count ((hld PP lo (n + 1)).map D.int), uF A c__law_count, limC, gC, u, A.o W (kpt PP lo n) (lo + (n : Nat)) es d, st, _, rfl, ok1, rfl, rfl, ub _, ur1, us1, sa1, add_pre actsC limsC q3.iv kpt_has q3.gd (by show es.length < 99999; omega), fun l hl => by have := fresh_len q3.iv l hl; omega, by show (kpt PP lo n).length < _; rw [kpt_len]; omega, ?_, ?_⟩
          · intro u2 es2 st2 d2 m4 e2 ok2 ur2 sa2 fr2
            have e3 := e'.symm.trans e2
            cases e3
            have ok3 : SOk m4 (A.o W (putKD (kpt PP lo n) (.inl (lo + (n : Nat))) (.int (PP (lo + (n : Nat) + 1) - PP (lo + (n : Nat))))) (lo + (n : Nat) + 1) es' d2) := ok2
            rw [kpt_put, hz] at ok3
            rw [hz] at iv'
            have q4 := q3.back (lo2 := lo) (n2 := n + 1) sb ok3 ur2 sa2 iv' g' l0 fr2
            refine hK4 _ _ ?_
            clear hK4 K4
            walk_at "rd"
            refine ⟨_, q4.ca, _, rfl, _, rfl, ?_⟩
            rw [if_neg (by omega), hz]
            exact hK3 _ _ ⟨lo, n + 1, u', es', st', d2, _, rfl, q4, by omega, by omega⟩
          · intro u2 es2 k2 d2 m4 e2
            have e3 := e'.symm.trans e2
            cases e3
        · obtain ⟨q2, hn1⟩ := r
          clear q
          have l0 := q2.lo0
          obtain ⟨n, rfl⟩ : ∃ k, n = k + 1 := ⟨n - 1, by have := hn1 rfl; omega⟩
          refine seqL fun K4 hK4 => ?_
          walk_at "r1"
          refine ⟨⟨_, q2.ha⟩, _, q2.ha, 0, by simp [seqIndex?, hld_len], _, rfl, hK4 _ _ ?_⟩
          clear hK4 K4
          have q3 := q2.put (hld PP (lo + 1) n)
          show sSeq _ _ _ _ (put m2 A.ha (O.lst ((hld PP (lo + 1) n).map D.int)))
          generalize put m2 A.ha (O.lst ((hld PP (lo + 1) n).map D.int)) = m3 at q3
          refine seqL fun K4 hK4 => ?_
          walk_at "r1"
          have hz : lo + ((n + 1 : Nat) : Int) = lo + 1 + (n : Nat) := by omega
          refine ⟨_, _, _, q3.ok.ob, rfl, rfl, by simp, fun hn hd => ?_⟩
          simp only [List.mem_cons, List.not_mem_nil, or_false, forall_eq_or_imp, forall_eq] at hn
          walk_at "rd"
          obtain ⟨sb, ok1, ur1, us1, sa1⟩ := q3.shown hn htm
          obtain ⟨⟨u', es'⟩, st', e', iv', g', cc1, cc2⟩ := rem_ok (s := (u, es)) actsC q3.iv (by omega) kpt_has q3.gd
          have g2 : u' = (es'.length : Nat) := g'
          have cc2 : es'.length ≤ es.length + 1 := cc2
          have rl := rem_lim (s := (u, es)) limsC q3.iv (by omega) kpt_has q3.gd (by show es.length < 100000; omega)
          refine ⟨Int, URep A c__law_count ((hld PP (lo + 1) n).map D.int), uF A c__law_count, limC, gC, u, A.o W (kpt PP lo (n + 1)) (lo + ((n + 1 : Nat) : Int)) es d, st, ups lo (n + 1), rfl, ok1, rfl, rfl, ub _, ur1, us1, sa1, kpt_keys, (fun z => by cases z), rl.1, rl.2, fun l hl => by have := fresh_len q3.iv l hl; omega, by show (kpt PP lo (n + 1)).length < _; rw [kpt_len]; omega, ?_, ?_⟩
          · intro u2 es2 st2 d2 m4 kk e2 hk1 hk2 ok2 ur2 sa2 fr2
            have e3 := e'.symm.trans e2
            cases e3
            have hkk := ups_min hk1 hk2
            subst hkk
            have ok3 : SOk m4 (A.o W (dropKD (kpt PP kk (n + 1)) (.inl kk)) (kk + ((n + 1 : Nat) : Int)) es' d2) := ok2
            rw [kpt_drop, hz] at ok3
            rw [hz] at iv'
            have q4 := q3.back (lo2 := kk + 1) (n2 := n) sb ok3 ur2 sa2 iv' g' (by omega) fr2
            refine hK4 _ _ ?_
            clear hK4 K4
            walk_at "rd"
            refine ⟨_, q4.ca, _, rfl, _, rfl, ?_⟩
            rw [if_neg (by omega), hz]
            exact hK3 _ _ ⟨kk + 1, n, u', es', st', d2, _, rfl, q4, by omega, by omega⟩
          · intro u2 es2 k2 d2 m4 e2
            have e3 := e'.symm.trans e2
            cases e3
      rintro δ' m2 ⟨lo2, n2, u2, es2, st2, d2, w, rfl, q2, hes2, hhi2⟩
      clear q
      have fin : ∀ (lo3 : Int) (n3 : Nat) (u3 : Int) (es3 : List D) (st3 : ES) (d3 : D) (w3 : Option D) (m3 : M), QI W A c__law_count m m3 lo3 n3 u3 es3 st3 d3 (hld PP lo3 n3) → es3.length ≤ 5 * i + 5 → lo3 + (n3 : Nat) ≤ (i : Nat) + 1 → K2 [some (D.ref cl), some (D.int pace), some (D.ref A.ca), some (D.ref A.ha), some (D.int (lo3 + (n3 : Nat))), some (D.ref A.qa), some (D.int (i : Nat)), some (D.int y), w3] m3 := fun lo3 n3 u3 es3 st3 d3 w3 m3 q3 a b => hK2 _ _ ⟨lo3, n3, u3, es3, st3, d3, rest, i + 1, _, _, _, rfl, rfl, q3, by omega, by omega, fun z hz => hbt z (List.mem_cons_of_mem _ hz), by omega⟩
      walk_at "r1"
      refine ⟨hpace, ?_⟩
      split
      · refine seqL fun K3 hK3 => ?_
        walk_at "r1"
        refine ⟨_, q2.ca, _, rfl, hK3 _ _ ?_⟩
        clear hK3 K3
        walk_at "r1"
        have hug2 : u2 = (es2.length : Nat) := q2.gd
        have l0 := q2.lo0
        refine ⟨_, _, _, q2.ok.ob, rfl, rfl, by simp, fun hn hd => ?_⟩
        simp only [List.mem_cons, List.not_mem_nil, or_false, forall_eq_or_imp, forall_eq] at hn
        walk_at "rd"
        obtain ⟨sb, ok1, ur1, us1, sa1⟩ := q2.shown hn htm
        obtain ⟨ch, hl3⟩ := parts_ok q2.iv
        refine ⟨Int, URep A c__law_count ((hld PP lo2 n2).map D.int), uF A c__law_count, limC, gC, u2, A.o W (kpt PP lo2 n2) (lo2 + (n2 : Nat)) es2 d2, st2, rfl, ok1, rfl, rfl, ub _, ur1, us1, sa1, ?_, ?_, ?_, ?_⟩
        · intro x r e
          rw [e] at ch hl3
          cases ch with
          | cons _ mm _ _ ch => exact whole_lim actsC limsC ch q2.gd (by show es2.length + r.length < 100000; simp at hl3; omega)
        · intro m4 e ok2 ur2 fr2
          rw [e] at ch
          have hn0 : n2 = 0 := by
            generalize hhi : lo2 + (n2 : Nat) = hi at ch
            cases ch
            omega
          subst hn0
          have q4 := q2.back sb ok2 ur2 ((StAt.keep sa1 fun b xs h e => fr2 b _ h e)) q2.iv q2.gd l0 fr2
          refine ⟨_, q4.ha, _, rfl, ?_⟩
          rw [if_neg (by simp [hld, ups])]
          refine ⟨_, q4.ca, _, rfl, _, rfl, ?_⟩
          rw [if_neg (by omega)]
          exact fin _ _ _ _ _ _ _ _ q4 (by omega) hhi2
        · intro x r u' es' z m4 e e2 ok2 ur2 fr2
          rw [e] at ch hl3
          generalize hhi : lo2 + (n2 : Nat) = hi at ch
          cases ch with
          | cons _ mm _ _ ch =>
            obtain ⟨⟨u4, es4⟩, e4, g4, c4⟩ := whole_ok (s := (u2, es2)) (f := lo2) actsC ch q2.gd
            have e3 := e4.symm.trans e2
            cases e3
            have c4 : es'.length = es2.length + r.length := c4
            have g2 : u' = (es'.length : Nat) := g4
            simp at hl3
            subst hhi
            have q4 := q2.back sb ok2 ur2 ((StAt.keep sa1 fun b xs h e => fr2 b _ h e)) q2.iv g4 l0 fr2
            refine ⟨_, q4.ha, _, rfl, ?_⟩
            rw [if_neg (by rw [hld_sum]; simp)]
            refine ⟨_, q4.ca, _, rfl, _, rfl, ?_⟩
            rw [if_neg (by omega)]
            exact fin _ _ _ _ _ _ _ _ q4 (by omega) hhi2
        · intro x r u' es' k2 d3 m4 e e2
          rw [e] at ch
          generalize hhi : lo2 + (n2 : Nat) = hi at ch
          cases ch with
          | cons _ mm _ _ ch =>
            obtain ⟨⟨u4, es4⟩, e4, g4, c4⟩ := whole_ok (s := (u2, es2)) (f := lo2) actsC ch q2.gd
            have e3 := e4.symm.trans e2
            cases e3
      · exact fin _ _ _ _ _ _ _ _ q2 (by omega) hhi2
abbrev s_law : Stmt := top 16
theorem sc_law : FnScope ["_law_script", "_law_at", "_law_bag_here", "_law_many"] ["_law_script"] (defScope s_law) := ⟨rfl, rfl, rfl, by decide +kernel, rfl, by decide +kernel, by decide +kernel⟩
def sp_law (W : Wo) : DSp := fun ds m Q _ => ∃ (a : Addr) (ns : List Int), ds = [.ref a] ∧ (m a = some (.lst (ns.map D.int)) ∨ m a = some (.kl (ns.map D.int))) ∧ (m (tb_Sums_joined W) = some (.tab nm_Sums_joined) ∧ m (tb_Sums_add W) = some (.tab nm_Sums_add) ∧ m (tb_Sums_remove_oldest W) = some (.tab nm_Sums_remove_oldest) ∧ m (tb_Sums_total W) = some (.tab nm_Sums_total) ∧ m (tb_right W) = some (.tab nm_right)) ∧ ∀ m2, Q (.bl true) m2
theorem ok_law {W : Wo} {f : Addr} {fd : FuncData} (T : Txt W) (D_bag_2 : DF W 1 "_law_bag" 2 [] (fun ds _ => ds) (sp_bag W)) (D_right_2 : DF W 21 "_law_right" 2 [] (fun ds _ => ds) (sp_right W)) (D_runs_1 : DF W 2 "_law_runs" 1 [] (fun ds _ => ds) (sp_runs W)) (D_take_2 : DF W 1 "_law_take" 2 [] (fun ds _ => ds) (sp_take W)) (F : FunD W.K "law" "law" (defArgs s_law) (defBody s_law) (defScope s_law) [] [] f fd) (hcd : fd.code = .ref (cdA W.K ("law", none))) : FnG W.P W.w W.K W.mg W.base W.gd 22 f fd ["_law_script"] (upSp (sp_law W)) := by
  refine okDc (.ref (cdA W.K ("law", none))) [] F hcd sc_law (by decide +kernel) (by decide +kernel) (fun ds m Q E h => ?_) (fun A outer s H EV ca ds m Q E hr hca xc tk h => ?_)
  · obtain ⟨_, _, rfl, _⟩ := h
    rfl
  · have hu := huG hr
    obtain ⟨a, ns, rfl, hS, ⟨t1, t2, t3, t4, t5⟩, k⟩ := h
    have htm : TbM W m := ⟨t1, t2, t3, t4, t5⟩
    refine ⟨_, (dss_cons (ds_for (passes_of rfl) rfl (di_range1 (by rfl) T.b_range (da_cons (de_callB (c_max2 rfl) (by rfl) T.b_max (by decide +kernel) (da_cons dint (da_cons (de_callB (c_min2 rfl) (by rfl) T.b_min (by decide +kernel) (da_cons dint (da_cons (de_callB c_lenK (by rfl) T.b_len (by decide +kernel) (da_cons (dv 0) da_nil)) da_nil))) da_nil))) da_nil)) (dg_name (i := 1) sc_law.nd rfl (Or.inl rfl)) (dss_cons (ds_set (i := 2) sc_law.nd rfl (Or.inl rfl) (de_fn D_bag_2 hr (by rfl) (xc_nil sc_law.nd) tk (da_cons (dv 0) (da_cons (dv 1) da_nil)) dk_nil))
        (dss_cons (ds_if (dt_not (dt_val (de_fn D_right_2 hr (by rfl) (xc_nil sc_law.nd) tk (da_cons (de_fn D_runs_1 hr (by rfl) (xc_nil sc_law.nd) tk (da_cons (dv 2) da_nil) dk_nil) (da_cons (de_op o_addI dint (de_fn D_take_2 hr (by rfl) (xc_nil sc_law.nd) tk (da_cons (dv 2) (da_cons dint da_nil)) dk_nil)) da_nil)) dk_nil))) (dss_one (ds_ret dbl)) dss_nil)
        (dss_cons (ds_set (i := 3) sc_law.nd rfl (Or.inl rfl) (de_fn D_take_2 hr (by rfl) (xc_nil sc_law.nd) tk (da_cons (dv 2) (da_cons dint da_nil)) dk_nil))
        (dss_one (ds_if (dt_not (dt_val (de_fn D_right_2 hr (by rfl) (xc_nil sc_law.nd) tk (da_cons (de_op o_addL (de_op o_addL (de_op o_rep (de_lst (da_cons dint da_nil)) (dv 3)) (de_op o_rep (de_lst (da_cons dint da_nil)) (dv 3))) (de_op o_rep (de_lst (da_cons dint (da_cons dint (da_cons dint da_nil)))) dint)) (da_cons dint da_nil)) dk_nil))) (dss_one (ds_ret dbl)) dss_nil))))))
      (dss_one (ds_ret dbl))), ?_⟩
    clear hcd hu xc tk hr
    refine seqL fun K1 hK1 => ?_
    walk_at "r1"
    refine ⟨_, hS, ?_, ?_, ?_⟩
    · split <;> (try split) <;> omega
    · split <;> (try split) <;> omega
    generalize hN : (if (if ((List.map D.int ns).length : Int) < 3 then ((List.map D.int ns).length : Int) else 3) > 1 then if ((List.map D.int ns).length : Int) < 3 then ((List.map D.int ns).length : Int) else 3 else 1).toNat = N
    have hN3 : N ≤ 3 := by
      rw [← hN]
      split <;> (try split) <;> omega
    refine forI (fun items δ m' => ∃ (is : List Nat) (w1 w2 w3 : Option D), items = is.map (fun k => D.int ((k : Nat) : Int)) ∧ (∀ j ∈ is, j ≤ 3) ∧ δ = [some (D.ref a), w1, w2, w3] ∧ (m' a = some (.lst (ns.map D.int)) ∨ m' a = some (.kl (ns.map D.int))) ∧ TbM W m') ?_ ?_ _ _ _ ⟨List.range N, none, none, none, rfl, fun j hj => by have := List.mem_range.mp hj; omega, rfl, hS, htm⟩
    · rintro δ m' ⟨is, w1, w2, w3, _, _, rfl, _, _⟩
      refine ⟨trivial, hK1 _ _ ?_⟩
      walk_at "rd"
      exact Wk.here (k _)
    rintro x1 r1 δ m' ⟨is, w1, w2, w3, hit, his, rfl, hS', htm'⟩
    cases is with
    | nil => cases hit
    | cons i is =>
      cases hit
      refine ⟨trivial, fun K2 hK2 => ?_⟩
      walk_at "r1"
      have hi3 := his i List.mem_cons_self
      refine seqL fun K3 hK3 => ?_
      walk_at "r1"
      refine ⟨a, ns, (i : Nat), rfl, hS', by omega, by omega, fun p m1 g s' sb np hp => hK3 _ _ ?_⟩
      clear hK3 K3
      have ks : ∀ {m2 : M}, Fr (fun x => x = p) m' m2 → (m2 a = some (.lst (ns.map D.int)) ∨ m2 a = some (.kl (ns.map D.int))) ∧ TbM W m2 := fun {m2} fr => by
        have nn : ∀ b v, m' b = some v → m2 b = some v := fun b v e => fr b v (fun z => by rw [z, np] at e; cases e) e
        exact ⟨hS'.imp (nn _ _) (nn _ _), htm'.loc fun b v _ e => nn b v e⟩
      have bg : bag m1 p := ⟨g, s', 0, hp⟩
      have fr1 : Fr (fun x => x = p) m' m1 := Fr.of_sub sb
      refine seqJ (fun δ m2 => ∃ w, δ = [some (D.ref a), some (D.int (i : Nat)), some (D.ref p), w] ∧ Fr (fun x => x = p) m' m2 ∧ bag m2 p) (fun K3 hK3 => ?_) ?_
      · walk_at "r1"
        refine ⟨p, rfl, bg, fun q m2 cs fr2 bg2 nq hq hcs hlen => ?_⟩
        obtain ⟨g2, s2, c2, e2⟩ := bg2
        have hqp : q ≠ p := fun z => by rw [z, hp] at nq; cases nq
        refine ⟨p, g2, s2, c2, 3, rfl, e2, by decide, by decide, fun r g3 s3 c3 hr0 hr1 => ?_⟩
        have fr3 : Fr (fun x => x = p) m' (put m2 p (.lst [.int g3, .int s3, .int c3])) := (fr1.trans fr2).bag
        refine ⟨r, rfl, q, cs, 1 + r, rfl, put_at hqp hq, hcs, by omega, by omega, (ks fr3).2, fun m5 sb5 => ⟨true, rfl, ?_⟩⟩
        rw [if_neg (by decide)]
        exact hK3 _ _ ⟨w3, rfl, fr3.sub sb5, g3, s3, c3, sb5 _ _ put_same⟩
      rintro δ' m2 ⟨w, rfl, fr2, bg2⟩
      obtain ⟨g2, s2, c2, e2⟩ := bg2
      refine seqL fun K3 hK3 => ?_
      walk_at "r1"
      refine ⟨p, g2, s2, c2, 70, rfl, e2, by decide, by decide, fun mn g3 s3 c3 hr0 hr1 => hK3 _ _ ?_⟩
      clear hK3 K3
      have fr3 : Fr (fun x => x = p) m' (put m2 p (.lst [.int g3, .int s3, .int c3])) := fr2.bag
      generalize put m2 p (.lst [.int g3, .int s3, .int c3]) = m3 at fr3
      have szl : (100000 : Nat) ≤ sizeLine := by decide
      walk_at "r1"
      intro p1 n1
      refine ⟨_, rfl, by omega, by omega, by simp only [List.length_cons, List.length_nil]; omega, fun p2 n2 p3 n3 => ⟨_, rfl, by omega, by omega, by simp only [List.length_cons, List.length_nil]; omega, fun p4 n4 => ⟨_, put_old n4 (put_old n3 put_same), _, rfl, by simp only [flatN_len, List.length_cons, List.length_nil]; omega, fun p5 n5 p6 n6 => ⟨_, rfl, by decide, fun p7 n7 => ⟨_, put_old n7 (put_old n6 put_same), _, rfl, by simp only [flatN_len, List.length_append, List.length_cons, List.length_nil]; omega, fun p8 n8 => ?_⟩⟩⟩⟩⟩
      have fr4 := (((((((fr3.new (o := O.lst [D.int 0]) n1).new n2).new n3).new n4).new n5).new n6).new n7).new (o := O.lst (flatN mn.toNat [D.int 0] ++ flatN mn.toNat [D.int 1] ++ flatN (Int.toNat 10) [D.int 0, D.int 0, D.int 1])) n8
      refine ⟨p8, flatN mn.toNat [0] ++ flatN mn.toNat [1] ++ flatN 10 [0, 0, 1], 1, rfl, ?_, ?_, ?_, by decide, (ks fr4).2, fun m5 sb5 => ⟨true, rfl, ?_⟩⟩
      · rw [put_same, List.map_append, List.map_append, ← flatN_map, ← flatN_map, ← flatN_map]; rfl
      · refine bits_app (bits_app ?_ ?_) ?_ <;> intro z hz <;> have := flatN_mem hz <;> simp at this <;> omega
      · simp only [flatN_len, List.length_append, List.length_cons, List.length_nil]; omega
      · rw [if_neg (by decide)]
        have kk := ks (fr4.sub sb5)
        exact hK2 _ _ ⟨is, _, _, _, rfl, fun j hj => his j (List.mem_cons_of_mem _ hj), rfl, kk.1, kk.2⟩
def d_Logged___init__ : He.DefD := ⟨("Logged", some "__init__"), "__init__", "Logged.__init__", defArgs s_Logged___init__, defBody s_Logged___init__, defScope s_Logged___init__, [], []⟩
def d_Logged_check_free : He.DefD := ⟨("Logged", some "check_free"), "check_free", "Logged.check_free", defArgs s_Logged_check_free, defBody s_Logged_check_free, defScope s_Logged_check_free, [], []⟩
def d_Logged_check_ready : He.DefD := ⟨("Logged", some "check_ready"), "check_ready", "Logged.check_ready", defArgs s_Logged_check_ready, defBody s_Logged_check_ready, defScope s_Logged_check_ready, [], []⟩
def d_Logged_call : He.DefD := ⟨("Logged", some "call"), "call", "Logged.call", defArgs s_Logged_call, defBody s_Logged_call, defScope s_Logged_call, [], []⟩
def d_Logged_keep : He.DefD := ⟨("Logged", some "keep"), "keep", "Logged.keep", defArgs s_Logged_keep, defBody s_Logged_keep, defScope s_Logged_keep, [], []⟩
def d_Sums___init__ : He.DefD := ⟨("Sums", some "__init__"), "__init__", "Sums.__init__", defArgs s_Sums___init__, defBody s_Sums___init__, defScope s_Sums___init__, [], []⟩
def d_Sums_single : He.DefD := ⟨("Sums", some "single"), "single", "Sums.single", defArgs s_Sums_single, defBody s_Sums_single, defScope s_Sums_single, [], []⟩
def d_Sums_joined : He.DefD := ⟨("Sums", some "joined"), "joined", "Sums.joined", defArgs s_Sums_joined, defBody s_Sums_joined, defScope s_Sums_joined, [], []⟩
def d_grown : He.DefD := ⟨("grown", none), "grown", "grown", defArgs s_grown, defBody s_grown, defScope s_grown, [], []⟩
def d_EvenSums_stepped : He.DefD := ⟨("EvenSums", some "stepped"), "stepped", "EvenSums.stepped", defArgs s_EvenSums_stepped, defBody s_EvenSums_stepped, defScope s_EvenSums_stepped, [], []⟩
def d_EvenSums_after_add : He.DefD := ⟨("EvenSums", some "after_add"), "after_add", "EvenSums.after_add", defArgs s_EvenSums_after_add, defBody s_EvenSums_after_add, defScope s_EvenSums_after_add, [], []⟩
def d_EvenSums_after_remove : He.DefD := ⟨("EvenSums", some "after_remove"), "after_remove", "EvenSums.after_remove", defArgs s_EvenSums_after_remove, defBody s_EvenSums_after_remove, defScope s_EvenSums_after_remove, [], []⟩
def d_EvenSums_parts : He.DefD := ⟨("EvenSums", some "parts"), "parts", "EvenSums.parts", defArgs s_EvenSums_parts, defBody s_EvenSums_parts, defScope s_EvenSums_parts, [], []⟩
def d_Sums_whole : He.DefD := ⟨("Sums", some "whole"), "whole", "Sums.whole", defArgs s_Sums_whole, defBody s_Sums_whole, defScope s_Sums_whole, [], []⟩
def d_Sums_add : He.DefD := ⟨("Sums", some "add"), "add", "Sums.add", defArgs s_Sums_add, defBody s_Sums_add, defScope s_Sums_add, [], []⟩
def d_Sums_check_members : He.DefD := ⟨("Sums", some "check_members"), "check_members", "Sums.check_members", defArgs s_Sums_check_members, defBody s_Sums_check_members, defScope s_Sums_check_members, [], []⟩
def d_Sums_remove_oldest : He.DefD := ⟨("Sums", some "remove_oldest"), "remove_oldest", "Sums.remove_oldest", defArgs s_Sums_remove_oldest, defBody s_Sums_remove_oldest, defScope s_Sums_remove_oldest, [], []⟩
def d_Sums_total : He.DefD := ⟨("Sums", some "total"), "total", "Sums.total", defArgs s_Sums_total, defBody s_Sums_total, defScope s_Sums_total, [], []⟩
def d_EvenSums___init__ : He.DefD := ⟨("EvenSums", some "__init__"), "__init__", "EvenSums.__init__", defArgs s_EvenSums___init__, defBody s_EvenSums___init__, defScope s_EvenSums___init__, [], [("zero", .non)]⟩
def d_bag : He.DefD := ⟨("_law_bag", none), "_law_bag", "_law_bag", defArgs s_bag, defBody s_bag, defScope s_bag, [], []⟩
def d_take : He.DefD := ⟨("_law_take", none), "_law_take", "_law_take", defArgs s_take, defBody s_take, defScope s_take, [], []⟩
def d_counted : He.DefD := ⟨("_law_counted", none), "_law_counted", "_law_counted", defArgs s_counted, defBody s_counted, defScope s_counted, [], []⟩
def d_runs : He.DefD := ⟨("_law_runs", none), "_law_runs", "_law_runs", defArgs s_runs, defBody s_runs, defScope s_runs, [], []⟩
def d_right : He.DefD := ⟨("_law_right", none), "_law_right", "_law_right", defArgs s_right, defBody s_right, defScope s_right, [], []⟩
def d_law : He.DefD := ⟨("law", none), "law", "law", defArgs s_law, defBody s_law, defScope s_law, [], []⟩
def fn : List He.DefD := [d_Logged___init__, d_Logged_check_free, d_Logged_check_ready, d_Logged_call, d_Logged_keep, d_Sums___init__, d_Sums_single, d_Sums_joined, d_grown, d_EvenSums_stepped, d_EvenSums_after_add, d_EvenSums_after_remove, d_EvenSums_parts, d_Sums_whole, d_Sums_add, d_Sums_check_members, d_Sums_remove_oldest, d_Sums_total, d_EvenSums___init__, d_bag, d_take, d_counted, d_runs, d_right, d_law]
def fa : List Fx := [fFree "IndexError", fFree "RuntimeError", fFree "abs", fFree "enumerate", fFree "len", fFree "list", fFree "max", fFree "min", fFree "range", fFree "sorted", fFree "sum", fCls "EvenSums", fGlo "EvenSums", fNoat "EvenSums" "kept", fNoat "EvenSums" "next_number", fNoat "EvenSums" "entries", fNoat "EvenSums" "is_busy", fNoat "EvenSums" "join_call", fNoat "EvenSums" "zero", fNoat "EvenSums" "state", fGlo "Busy", fExF "Busy" [.type "RuntimeError", .type "Exception", .type "BaseException", .type "object"] "RuntimeError.__new__", fMethC "EvenSums" "check_free" "Logged", fGlo "Logged", fDC "Logged" "__init__", fMethC "EvenSums" "call" "Logged", fMethC "EvenSums" "single" "Sums", fMethC "EvenSums" "stepped" "EvenSums", fGlo "grown", fMethC "EvenSums" "parts" "EvenSums", fMethC "EvenSums" "after_add" "EvenSums", fMethC "EvenSums" "check_ready" "Logged", fMethC "EvenSums" "joined" "Sums", fMethC "EvenSums" "keep" "Logged", fMethC "EvenSums" "after_remove" "EvenSums", fMethC "EvenSums" "check_members" "Sums", fMethC "EvenSums" "whole" "Sums", fGlo "Sums", fDC "Sums" "__init__", fGlo "_law_take", fMethC "EvenSums" "add" "Sums", fMethC "EvenSums" "remove_oldest" "Sums", fMethC "EvenSums" "total" "Sums", fGlo "_law_counted", fGlo "EvenSums", fMkrC "EvenSums" "EvenSums", fGlo "_law_bag", fGlo "_law_right", fGlo "_law_runs", fGlo "law"]
def tbl : List ((Str × Option Str) × (Nat → Nat → Str)) := [(("Sums", some "joined"), nm_Sums_joined), (("Sums", some "add"), nm_Sums_add), (("Sums", some "remove_oldest"), nm_Sums_remove_oldest), (("Sums", some "total"), nm_Sums_total), (("_law_right", none), nm_right)]
theorem entry {W : Wo} {m : M} {a : Addr} {ns : List Int} (hl : ns.length ≤ 63) (hbits : ∀ z ∈ ns, Builtin.Int.intBits z ≤ 1048576) (ht : ∀ p ∈ tbl, m (tbA W.K p.1) = some (.tab p.2)) (hS : m a = some (.lst (ns.map D.int)) ∨ m a = some (.kl (ns.map D.int))) : sp_law W [.ref a] m (fun v _ => v = .bl true) fun _ _ _ => False :=
  ⟨a, ns, rfl, hS, ⟨ht _ (List.mem_of_getElem? (i := 0) rfl), ht _ (List.mem_of_getElem? (i := 1) rfl), ht _ (List.mem_of_getElem? (i := 2) rfl), ht _ (List.mem_of_getElem? (i := 3) rfl), ht _ (List.mem_of_getElem? (i := 4) rfl)⟩, fun _ => rfl⟩
abbrev R : PySem.W.OpenRow := PySem.W.OpenLaw.row PySem.Challenge.rw_oncebuilt_k62_even_sums_bounds
abbrev tbn : List (Str × Option Str) := [("Sums", some "joined"), ("Sums", some "add"), ("Sums", some "remove_oldest"), ("Sums", some "total"), ("_law_right", none)]
abbrev hk : PySem.W.Hook := hookT 6 fa fn tbn
def ob (s : PySem.W.SharedT) : AlT := obsT 6 fa fn tbn (HandSHeadRun.getT s)
theorem ob_eq (s : PySem.W.SharedT) : ob s = hk.obs s.abs := obsT_eq (HandSHeadRun.getT_eq s)
def loose : List Str := (["_wall", "Empty", "Busy", "Logged", "Sums", "grown", "EvenSums", "_law_bag", "_law_take", "_law_counted", "_law_runs", "_law_right"] : List Str)
theorem run (w : World) : HandSHeadRun.RunEq R (PySem.W.view R.prog [16]) hk ob 20000 loose w := by
  intro os
  kernel_rfl
theorem facts {P : Program} {w : World} {K : PySem.W.Frag} {h : Heap} {mg : Str → Option Value} {f : Addr} (X : K.In h) (G : h.Ns mainGlobals mg) (hfa : mg ("law" : Str) = some (.ref f)) (c : SaysX fa fn K) :
    ∃ fd : FuncData, (∀ (s : Shared) (v : Value), BindsTo s fd ⟨[v], []⟩ [("_law_script", v)]) ∧ ∀ base : Heap, (∀ p ∈ tbl, TabB base mg (cdA K p.1) (tbA K p.1)) → FnG P w K mg base false 22 f fd ["_law_script"] (upSp (sp_law ⟨P, w, K, mg, base, false⟩)) := by
  obtain ⟨fd_Logged___init__, F_Logged___init__⟩ := c.def_ 0 (d := d_Logged___init__) rfl
  obtain ⟨fd_Logged_check_free, F_Logged_check_free⟩ := c.def_ 1 (d := d_Logged_check_free) rfl
  obtain ⟨fd_Logged_check_ready, F_Logged_check_ready⟩ := c.def_ 2 (d := d_Logged_check_ready) rfl
  obtain ⟨fd_Logged_call, F_Logged_call⟩ := c.def_ 3 (d := d_Logged_call) rfl
  obtain ⟨fd_Logged_keep, F_Logged_keep⟩ := c.def_ 4 (d := d_Logged_keep) rfl
  obtain ⟨fd_Sums___init__, F_Sums___init__⟩ := c.def_ 5 (d := d_Sums___init__) rfl
  obtain ⟨fd_Sums_single, F_Sums_single⟩ := c.def_ 6 (d := d_Sums_single) rfl
  obtain ⟨fd_Sums_joined, F_Sums_joined⟩ := c.def_ 7 (d := d_Sums_joined) rfl
  obtain ⟨fd_grown, F_grown⟩ := c.def_ 8 (d := d_grown) rfl
  obtain ⟨fd_EvenSums_stepped, F_EvenSums_stepped⟩ := c.def_ 9 (d := d_EvenSums_stepped) rfl
  obtain ⟨fd_EvenSums_after_add, F_EvenSums_after_add⟩ := c.def_ 10 (d := d_EvenSums_after_add) rfl
  obtain ⟨fd_EvenSums_after_remove, F_EvenSums_after_remove⟩ := c.def_ 11 (d := d_EvenSums_after_remove) rfl
  obtain ⟨fd_EvenSums_parts, F_EvenSums_parts⟩ := c.def_ 12 (d := d_EvenSums_parts) rfl
  obtain ⟨fd_Sums_whole, F_Sums_whole⟩ := c.def_ 13 (d := d_Sums_whole) rfl
  obtain ⟨fd_Sums_add, F_Sums_add⟩ := c.def_ 14 (d := d_Sums_add) rfl
  obtain ⟨fd_Sums_check_members, F_Sums_check_members⟩ := c.def_ 15 (d := d_Sums_check_members) rfl
  obtain ⟨fd_Sums_remove_oldest, F_Sums_remove_oldest⟩ := c.def_ 16 (d := d_Sums_remove_oldest) rfl
  obtain ⟨fd_Sums_total, F_Sums_total⟩ := c.def_ 17 (d := d_Sums_total) rfl
  obtain ⟨fd_EvenSums___init__, F_EvenSums___init__⟩ := c.def_ 18 (d := d_EvenSums___init__) rfl
  obtain ⟨fd_bag, F_bag⟩ := c.def_ 19 (d := d_bag) rfl
  obtain ⟨fd_take, F_take⟩ := c.def_ 20 (d := d_take) rfl
  obtain ⟨fd_counted, F_counted⟩ := c.def_ 21 (d := d_counted) rfl
  obtain ⟨fd_runs, F_runs⟩ := c.def_ 22 (d := d_runs) rfl
  obtain ⟨fd_right, F_right⟩ := c.def_ 23 (d := d_right) rfl
  obtain ⟨fd_law, F_law⟩ := c.def_ 24 (d := d_law) rfl
  have e := hfa.symm.trans (He.glo_ok X G (c.fact 49 (f := fGlo "law") rfl))
  cases e
  have b := FunD.bindsA (ps := ["_law_script"]) F_law fun _ _ _ _ _ _ us hl => match us, hl with | [_], _ => rfl
  refine ⟨fd_law, fun s v => b s [v] rfl, fun base TB => ?_⟩
  have T : Txt ⟨P, w, K, mg, base, false⟩ := ⟨(He.free_ok X G (c.fact 0)), (He.free_ok X G (c.fact 1)), (He.free_ok X G (c.fact 2)), (He.free_ok X G (c.fact 3)), (He.free_ok X G (c.fact 4)), (He.free_ok X G (c.fact 5)), (He.free_ok X G (c.fact 6)), (He.free_ok X G (c.fact 7)), (He.free_ok X G (c.fact 8)), (He.free_ok X G (c.fact 9)), (He.free_ok X G (c.fact 10)), (He.cls_ok (c.fact 11)), (He.glo_ok X G (c.fact 12)), (He.noat_ok (c.fact 13)), (He.noat_ok (c.fact 14)), (He.noat_ok (c.fact 15)), (He.noat_ok (c.fact 16)), (He.noat_ok (c.fact 17)), (He.noat_ok (c.fact 18)), (He.noat_ok (c.fact 19)), (He.glo_ok X G (c.fact 20)), (exF_ok (c.fact 21)), (TB _ (List.mem_of_getElem? (i := 0) rfl)), (TB _ (List.mem_of_getElem? (i := 1) rfl)), (TB _ (List.mem_of_getElem? (i := 2) rfl)), (TB _ (List.mem_of_getElem? (i := 3) rfl)), (TB _ (List.mem_of_getElem? (i := 4) rfl))⟩
  let W : Wo := ⟨P, w, K, mg, base, false⟩
  have D_EvenSums_check_free_0 : DM W 1 (fun C => C = He.ga W.K "EvenSums") "check_free" 0 [] (fun ds _ => ds) (fun _ => sp_Logged_check_free W) := (DM.one (sp := (fun _ => sp_Logged_check_free ⟨P, w, K, mg, base, false⟩)) (C := He.ga K "EvenSums") (ok_Logged_check_free T  F_Logged_check_free (code_of F_Logged_check_free)) (BindD.p0 F_Logged_check_free (fun _ _ _ _ _ _ us hl => match us, hl with | [_], _ => rfl)) T.c_EvenSums (methC_ok (c.fact 22 (f := fMethC "EvenSums" "check_free" "Logged") rfl)))
  have C_Logged___init___1 : DC W 1 "Logged" "__init__" 1 [] (fun ds _ => ds) (sp_Logged___init__ W) := DC.of (ok_Logged___init__ T  F_Logged___init__ (code_of F_Logged___init__)) (BindD.p0 F_Logged___init__ (fun _ _ _ _ _ _ us hl => match us, hl with | [_], _ => rfl)) (He.glo_ok X G (c.fact 23 (f := fGlo "Logged") rfl)) (dc_ok (c.fact 24 (f := fDC "Logged" "__init__") rfl)).1 (dc_ok (c.fact 24 (f := fDC "Logged" "__init__") rfl)).2.1 (dc_ok (c.fact 24 (f := fDC "Logged" "__init__") rfl)).2.2.1 (dc_ok (c.fact 24 (f := fDC "Logged" "__init__") rfl)).2.2.2
  have D_EvenSums_call_2 : DM W 13 (fun C => C = He.ga W.K "EvenSums") "call" 2 [] (fun ds _ => ds) (fun _ => sp_Logged_call W) := (DM.one (sp := (fun _ => sp_Logged_call ⟨P, w, K, mg, base, false⟩)) (C := He.ga K "EvenSums") (ok_Logged_call T  F_Logged_call (code_of F_Logged_call)) (BindD.p0 F_Logged_call (fun _ _ _ _ _ _ us hl => match us, hl with | [_, _, _], _ => rfl)) T.c_EvenSums (methC_ok (c.fact 25 (f := fMethC "EvenSums" "call" "Logged") rfl)))
  have D_EvenSums_single_1 : DM W 1 (fun C => C = He.ga W.K "EvenSums") "single" 1 [] (fun ds _ => ds) (fun _ => sp_Sums_single W) := (DM.one (sp := (fun _ => sp_Sums_single ⟨P, w, K, mg, base, false⟩)) (C := He.ga K "EvenSums") (ok_Sums_single T  F_Sums_single (code_of F_Sums_single)) (BindD.p0 F_Sums_single (fun _ _ _ _ _ _ us hl => match us, hl with | [_, _], _ => rfl)) T.c_EvenSums (methC_ok (c.fact 26 (f := fMethC "EvenSums" "single" "Sums") rfl)))
  have D_EvenSums_stepped_3 : DM W 17 (fun C => C = He.ga W.K "EvenSums") "stepped" 3 [] (fun ds _ => ds) (fun _ => sp_EvenSums_stepped W) := (DM.one (sp := (fun _ => sp_EvenSums_stepped ⟨P, w, K, mg, base, false⟩)) (C := He.ga K "EvenSums") (ok_EvenSums_stepped T D_EvenSums_single_1 F_EvenSums_stepped (code_of F_EvenSums_stepped)) (BindD.p0 F_EvenSums_stepped (fun _ _ _ _ _ _ us hl => match us, hl with | [_, _, _, _], _ => rfl)) T.c_EvenSums (methC_ok (c.fact 27 (f := fMethC "EvenSums" "stepped" "EvenSums") rfl)))
  have D_grown_3 : DF W 17 "grown" 3 [] (fun ds _ => ds) (sp_grown W) := DF.of (ok_grown T  F_grown (code_of F_grown)) (BindD.p0 F_grown (fun _ _ _ _ _ _ us hl => match us, hl with | [_, _, _], _ => rfl)) (He.glo_ok X G (c.fact 28 (f := fGlo "grown") rfl)) F_grown.kp
  have D_EvenSums_parts_0 : DM W 18 (fun C => C = He.ga W.K "EvenSums") "parts" 0 [] (fun ds _ => ds) (fun _ => sp_EvenSums_parts W) := (DM.one (sp := (fun _ => sp_EvenSums_parts ⟨P, w, K, mg, base, false⟩)) (C := He.ga K "EvenSums") (ok_EvenSums_parts T  F_EvenSums_parts (code_of F_EvenSums_parts)) (BindD.p0 F_EvenSums_parts (fun _ _ _ _ _ _ us hl => match us, hl with | [_], _ => rfl)) T.c_EvenSums (methC_ok (c.fact 29 (f := fMethC "EvenSums" "parts" "EvenSums") rfl)))
  have D_EvenSums_after_add_3 : DM W 18 (fun C => C = He.ga W.K "EvenSums") "after_add" 3 [] (fun ds _ => ds) (fun _ => sp_EvenSums_after_add W) := (DM.one (sp := (fun _ => sp_EvenSums_after_add ⟨P, w, K, mg, base, false⟩)) (C := He.ga K "EvenSums") (ok_EvenSums_after_add T D_EvenSums_stepped_3 D_grown_3 F_EvenSums_after_add (code_of F_EvenSums_after_add)) (BindD.p0 F_EvenSums_after_add (fun _ _ _ _ _ _ us hl => match us, hl with | [_, _, _, _], _ => rfl)) T.c_EvenSums (methC_ok (c.fact 30 (f := fMethC "EvenSums" "after_add" "EvenSums") rfl)))
  have D_EvenSums_check_ready_0 : DM W 2 (fun C => C = He.ga W.K "EvenSums") "check_ready" 0 [] (fun ds _ => ds) (fun _ => sp_Logged_check_ready W) := (DM.one (sp := (fun _ => sp_Logged_check_ready ⟨P, w, K, mg, base, false⟩)) (C := He.ga K "EvenSums") (ok_Logged_check_ready T D_EvenSums_check_free_0 F_Logged_check_ready (code_of F_Logged_check_ready)) (BindD.p0 F_Logged_check_ready (fun _ _ _ _ _ _ us hl => match us, hl with | [_], _ => rfl)) T.c_EvenSums (methC_ok (c.fact 31 (f := fMethC "EvenSums" "check_ready" "Logged") rfl)))
  have D_EvenSums_joined_2 : DM W 14 (fun C => C = He.ga W.K "EvenSums") "joined" 2 [] (fun ds _ => ds) (fun _ => sp_Sums_joined W) := (DM.one (sp := (fun _ => sp_Sums_joined ⟨P, w, K, mg, base, false⟩)) (C := He.ga K "EvenSums") (ok_Sums_joined T D_EvenSums_call_2 F_Sums_joined (code_of F_Sums_joined)) (BindD.p0 F_Sums_joined (fun _ _ _ _ _ _ us hl => match us, hl with | [_, _, _], _ => rfl)) T.c_EvenSums (methC_ok (c.fact 32 (f := fMethC "EvenSums" "joined" "Sums") rfl)))
  have D_EvenSums_keep_1 : DM W 1 (fun C => C = He.ga W.K "EvenSums") "keep" 1 [] (fun ds _ => ds) (fun _ => sp_Logged_keep W) := (DM.one (sp := (fun _ => sp_Logged_keep ⟨P, w, K, mg, base, false⟩)) (C := He.ga K "EvenSums") (ok_Logged_keep T  F_Logged_keep (code_of F_Logged_keep)) (BindD.p0 F_Logged_keep (fun _ _ _ _ _ _ us hl => match us, hl with | [_, _], _ => rfl)) T.c_EvenSums (methC_ok (c.fact 33 (f := fMethC "EvenSums" "keep" "Logged") rfl)))
  have D_EvenSums_after_remove_2 : DM W 18 (fun C => C = He.ga W.K "EvenSums") "after_remove" 2 [] (fun ds _ => ds) (fun _ => sp_EvenSums_after_remove W) := (DM.one (sp := (fun _ => sp_EvenSums_after_remove ⟨P, w, K, mg, base, false⟩)) (C := He.ga K "EvenSums") (ok_EvenSums_after_remove T D_EvenSums_stepped_3 F_EvenSums_after_remove (code_of F_EvenSums_after_remove)) (BindD.p0 F_EvenSums_after_remove (fun _ _ _ _ _ _ us hl => match us, hl with | [_, _, _], _ => rfl)) T.c_EvenSums (methC_ok (c.fact 34 (f := fMethC "EvenSums" "after_remove" "EvenSums") rfl)))
  have D_EvenSums_check_members_0 : DM W 3 (fun C => C = He.ga W.K "EvenSums") "check_members" 0 [] (fun ds _ => ds) (fun _ => sp_Sums_check_members W) := (DM.one (sp := (fun _ => sp_Sums_check_members ⟨P, w, K, mg, base, false⟩)) (C := He.ga K "EvenSums") (ok_Sums_check_members T D_EvenSums_check_ready_0 F_Sums_check_members (code_of F_Sums_check_members)) (BindD.p0 F_Sums_check_members (fun _ _ _ _ _ _ us hl => match us, hl with | [_], _ => rfl)) T.c_EvenSums (methC_ok (c.fact 35 (f := fMethC "EvenSums" "check_members" "Sums") rfl)))
  have D_EvenSums_whole_1 : DM W 19 (fun C => C = He.ga W.K "EvenSums") "whole" 1 [] (fun ds _ => ds) (fun _ => sp_Sums_whole W) := (DM.one (sp := (fun _ => sp_Sums_whole ⟨P, w, K, mg, base, false⟩)) (C := He.ga K "EvenSums") (ok_Sums_whole T D_EvenSums_parts_0 F_Sums_whole (code_of F_Sums_whole)) (BindD.p0 F_Sums_whole (fun _ _ _ _ _ _ us hl => match us, hl with | [_, _], _ => rfl)) T.c_EvenSums (methC_ok (c.fact 36 (f := fMethC "EvenSums" "whole" "Sums") rfl)))
  have C_Sums___init___3 : DC W 2 "Sums" "__init__" 3 [] (fun ds _ => ds) (sp_Sums___init__ W) := DC.of (ok_Sums___init__ T C_Logged___init___1 F_Sums___init__ (code_of F_Sums___init__)) (BindD.p0 F_Sums___init__ (fun _ _ _ _ _ _ us hl => match us, hl with | [_, _, _], _ => rfl)) (He.glo_ok X G (c.fact 37 (f := fGlo "Sums") rfl)) (dc_ok (c.fact 38 (f := fDC "Sums" "__init__") rfl)).1 (dc_ok (c.fact 38 (f := fDC "Sums" "__init__") rfl)).2.1 (dc_ok (c.fact 38 (f := fDC "Sums" "__init__") rfl)).2.2.1 (dc_ok (c.fact 38 (f := fDC "Sums" "__init__") rfl)).2.2.2
  have D_take_2 : DF W 1 "_law_take" 2 [] (fun ds _ => ds) (sp_take W) := DF.of (ok_take T  F_take (code_of F_take)) (BindD.p0 F_take (fun _ _ _ _ _ _ us hl => match us, hl with | [_, _], _ => rfl)) (He.glo_ok X G (c.fact 39 (f := fGlo "_law_take") rfl)) F_take.kp
  have D_EvenSums_add_1 : DM W 20 (fun C => C = He.ga W.K "EvenSums") "add" 1 [] (fun ds _ => ds) (fun _ => sp_Sums_add W) := (DM.one (sp := (fun _ => sp_Sums_add ⟨P, w, K, mg, base, false⟩)) (C := He.ga K "EvenSums") (ok_Sums_add T D_EvenSums_after_add_3 D_EvenSums_check_ready_0 D_EvenSums_joined_2 D_EvenSums_keep_1 F_Sums_add (code_of F_Sums_add)) (BindD.p0 F_Sums_add (fun _ _ _ _ _ _ us hl => match us, hl with | [_, _], _ => rfl)) T.c_EvenSums (methC_ok (c.fact 40 (f := fMethC "EvenSums" "add" "Sums") rfl)))
  have D_EvenSums_remove_oldest_0 : DM W 20 (fun C => C = He.ga W.K "EvenSums") "remove_oldest" 0 [] (fun ds _ => ds) (fun _ => sp_Sums_remove_oldest W) := (DM.one (sp := (fun _ => sp_Sums_remove_oldest ⟨P, w, K, mg, base, false⟩)) (C := He.ga K "EvenSums") (ok_Sums_remove_oldest T D_EvenSums_after_remove_2 D_EvenSums_check_members_0 D_EvenSums_joined_2 F_Sums_remove_oldest (code_of F_Sums_remove_oldest)) (BindD.p0 F_Sums_remove_oldest (fun _ _ _ _ _ _ us hl => match us, hl with | [_], _ => rfl)) T.c_EvenSums (methC_ok (c.fact 41 (f := fMethC "EvenSums" "remove_oldest" "Sums") rfl)))
  have D_EvenSums_total_0 : DM W 20 (fun C => C = He.ga W.K "EvenSums") "total" 0 [] (fun ds _ => ds) (fun _ => sp_Sums_total W) := (DM.one (sp := (fun _ => sp_Sums_total ⟨P, w, K, mg, base, false⟩)) (C := He.ga K "EvenSums") (ok_Sums_total T D_EvenSums_check_ready_0 D_EvenSums_joined_2 D_EvenSums_whole_1 F_Sums_total (code_of F_Sums_total)) (BindD.p0 F_Sums_total (fun _ _ _ _ _ _ us hl => match us, hl with | [_], _ => rfl)) T.c_EvenSums (methC_ok (c.fact 42 (f := fMethC "EvenSums" "total" "Sums") rfl)))
  have D_counted_3 : DF W 1 "_law_counted" 3 [] (fun ds _ => ds) (sp_counted W) := DF.of (ok_counted T  F_counted (code_of F_counted)) (BindD.p0 F_counted (fun _ _ _ _ _ _ us hl => match us, hl with | [_, _, _], _ => rfl)) (He.glo_ok X G (c.fact 43 (f := fGlo "_law_counted") rfl)) F_counted.kp
  have M_EvenSums_1_zero : DF W 4 "EvenSums" 1 ["zero"] (fun ds es => ds ++ es) (mkSp (He.ga W.K "EvenSums") (sp_EvenSums___init__ W)) := DF.make (ok_EvenSums___init__ T C_Sums___init___3 F_EvenSums___init__ (code_of F_EvenSums___init__)) (BindD.k0 (n := 2) (ks := ["zero"]) F_EvenSums___init__ (fun _ _ _ _ _ _ us ws hl hw => match us, hl, ws, hw with | [_, _], _, [_], _ => rfl)) (He.glo_ok X G (c.fact 44 (f := fGlo "EvenSums") rfl)) (mkrC_ok (c.fact 45 (f := fMkrC "EvenSums" "EvenSums") rfl)) (fun _ _ _ => rfl)
  have D_bag_2 : DF W 1 "_law_bag" 2 [] (fun ds _ => ds) (sp_bag W) := DF.of (ok_bag T  F_bag (code_of F_bag)) (BindD.p0 F_bag (fun _ _ _ _ _ _ us hl => match us, hl with | [_, _], _ => rfl)) (He.glo_ok X G (c.fact 46 (f := fGlo "_law_bag") rfl)) F_bag.kp
  have D_right_2 : DF W 21 "_law_right" 2 [] (fun ds _ => ds) (sp_right W) := DF.of (ok_right T D_EvenSums_add_1 D_EvenSums_remove_oldest_0 D_EvenSums_total_0 D_counted_3 M_EvenSums_1_zero F_right (code_of F_right)) (BindD.p0 F_right (fun _ _ _ _ _ _ us hl => match us, hl with | [_, _], _ => rfl)) (He.glo_ok X G (c.fact 47 (f := fGlo "_law_right") rfl)) F_right.kp
  have D_runs_1 : DF W 2 "_law_runs" 1 [] (fun ds _ => ds) (sp_runs W) := DF.of (ok_runs T D_take_2 F_runs (code_of F_runs)) (BindD.p0 F_runs (fun _ _ _ _ _ _ us hl => match us, hl with | [_], _ => rfl)) (He.glo_ok X G (c.fact 48 (f := fGlo "_law_runs") rfl)) F_runs.kp
  exact ok_law T D_bag_2 D_right_2 D_runs_1 D_take_2 F_law (code_of F_law)
end K62
open PySem PySem.W PySem.Calls PyProof.Rows
theorem PySem.Challenge.cw_oncebuilt_k62_even_sums_bounds_holds : PySem.Challenge.rw_oncebuilt_k62_even_sums_bounds.Holds := by
  w_on; o_law
  refine HandSHeadRun.head_any (r := OpenLaw.row PySem.Challenge.rw_oncebuilt_k62_even_sums_bounds) (q := view (OpenLaw.row PySem.Challenge.rw_oncebuilt_k62_even_sums_bounds).prog [16]) (H := K62.hk) (ob := K62.ob) (M := 20000) (loose := K62.loose) (d := HandSHeadRun.topDef (OpenLaw.row PySem.Challenge.rw_oncebuilt_k62_even_sums_bounds).prog 16) (kwd := []) K62.ob_eq
    (by kernel_rfl) (fun s => by kernel_rfl) K62.run (by kernel_rfl) (by kernel_rfl) (by kernel_rfl) (by rfl) (by first | assumption | decide +kernel) (by decide +kernel) ⟨rfl, rfl, rfl, rfl, rfl, by decide +kernel⟩ ?hw ?hc
  case hw => w_witness2
  case hc =>
    refine G.walk_ofD (l := PySem.Challenge.rw_oncebuilt_k62_even_sums_bounds) (n := 63) (k := 22) (x := "_law_script") rfl (by decide) (by kernel_rfl) ⟨rfl, by decide, by decide⟩ ?F
    intro w mg fa h Y G hmg0
    obtain ⟨K, KX⟩ := Y
    have hmg : mg ("law" : PySem.Str) = some (.ref fa) := by
      have e : (HandSHeadRun.topDef (OpenLaw.row PySem.Challenge.rw_oncebuilt_k62_even_sums_bounds).prog 16).name = ("law" : PySem.Str) := by kernel_rfl
      rw [← e]
      exact hmg0
    obtain ⟨fd, hb, hF⟩ := K62.facts (P := (PySem.Challenge.rw_oncebuilt_k62_even_sums_bounds).prog) (w := w) KX.kin G hmg KX.c
    exact ⟨K, fd, K62.tbl, K62.sp_law ⟨(PySem.Challenge.rw_oncebuilt_k62_even_sums_bounds).prog, w, K, mg, h, false⟩, KX.kin, KX.nl, KX.nd, fun p hp => KX.tab p.1 (List.mem_map.mpr ⟨p, hp, rfl⟩), hb, fun m a ns hl hbits ht hS => K62.entry hl hbits ht hS, fun base _ _ TB => hF base TB⟩
