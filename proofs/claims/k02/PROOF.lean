import PyProof.Rows.All
import Wide.All
import OpenK.AllK
import Wide.FinOn
import KE.KStateDown
import HandS.ForMost
import HandS.ForExc
import HandS.Defaults
import HandS.MakeKwOnly
import HandS.IsInst
import HandS.Wide
import HandS.WideBits
import HandS.WideMore
import HandS.Flow
import HandS.Style
import HandS.SortInts
import HandS.Head0
import HandS.Head1
import HandS.Head2
import HandS.HeadEnd
import HandS.EndBits
import HandS.HeadHook1
import HandS.HeadHook2
import PySem.Challenge.RW_oncebuilt_k02_block_sizes_and_sums
set_option Elab.async false
set_option linter.all false
set_option maxRecDepth 100000
set_option maxHeartbeats 4000000
namespace G
open PySem PySem.Spec PyProof.Rows L2
/-! ### defs by name -/
/-- the module's name x is a def with the parameters ps that keeps sp; the last parameters have the values dvs by default -/
def Df (P : Program) (w : World) (K : PySem.W.Frag) (mg : Str → Option Value) (base : Heap) (k : Nat) (x : Str) (ps : List Str) (dvs : List V) (sp : Sp) : Prop :=
  ∃ (f : Addr) (fd : FuncData) (ds : List Value), mg x = some (.ref f) ∧ PySem.W.keepIn K (.ref f) = true ∧ Vals dvs ds ∧ Binds K fd ps ds ∧ FnOk P w K mg base (L2.CX P w) k f fd ps sp
/-- .. called with n positional arguments and the keywords ks -/
def DfK (P : Program) (w : World) (K : PySem.W.Frag) (mg : Str → Option Value) (base : Heap) (k : Nat) (x : Str) (ps : List Str) (n : Nat) (ks : List Str) (gV : List V → List V → List V) (sp : Sp) : Prop :=
  ∃ (f : Addr) (fd : FuncData) (g : List Value → List Value → List Value), mg x = some (.ref f) ∧ PySem.W.keepIn K (.ref f) = true ∧ KBn K fd ps n ks g gV ∧ FnOk P w K mg base (L2.CX P w) k f fd ps sp
section
variable {X : Cx} {j k n : Nat} {ps ks : List Str} {sp : Sp} {dvs : List V} {E : XK} {x m : Str} {p pos apos : Pos} {e o : Expr} {es : List Expr} {kws : List Keyword} {ta : TE} {t tk : TA} {gV : List V → List V → List V}
theorem pe_callD (D : Df X.prog X.w X.K X.mg X.base k x ps dvs sp) (hr : Room j X.A) (hg : Gl X x) (hx : Passes (L2.CX X.prog X.w) X E) (ha : PA X (e :: es) t) (hk : k ≤ j := by decide)
    (hdb : (x == ("__debug__" : Str)) = false := by decide) (he : starEach (e :: es) X.env = (false, eval e X.env) :: starEach es X.env := by rfl) (hpl : (backTo pos (starEach es X.env)).any (·.1) = false := by rfl) :
    PE X (.Call (.Name x p) (e :: es) [] pos) (tCall sp dvs E t) := by
  obtain ⟨f, fd, ds, h1, h2, h3, h4, h5⟩ := D
  exact pe_call h5 (hr.mono hk) hg h1 h2 h4 h3 hx ha hdb he hpl
theorem pe_call0D (D : Df X.prog X.w X.K X.mg X.base k x ps dvs sp) (hr : Room j X.A) (hg : Gl X x) (hx : Passes (L2.CX X.prog X.w) X E) (hk : k ≤ j := by decide)
    (hdb : (x == ("__debug__" : Str)) = false := by decide) : PE X (.Call (.Name x p) [] [] pos) (tCall sp dvs E tNil) := by
  obtain ⟨f, fd, ds, h1, h2, h3, h4, h5⟩ := D
  exact pe_call0 h5 (hr.mono hk) hg h1 h2 h4 h3 hx hdb
theorem pe_callKD (D : DfK X.prog X.w X.K X.mg X.base k x ps n ks gV sp) (hr : Room j X.A) (hg : Gl X x) (hx : Passes (L2.CX X.prog X.w) X E) (ha : PA X (e :: es) t) (hkw : PK X kws tk) (hk : k ≤ j := by decide)
    (hall : (backToKw pos (keywordEach kws X.env)).all (·.1.isSome) = true := by rfl) (hks : (backToKw pos (keywordEach kws X.env)).filterMap (·.1) = ks := by rfl)
    (hdb : (x == ("__debug__" : Str)) = false := by decide) (he : starEach (e :: es) X.env = (false, eval e X.env) :: starEach es X.env := by rfl)
    (hpl : ((backTo pos (starEach (e :: es) X.env)).any (·.1) || (backToKw pos (keywordEach kws X.env)).any (·.1.isNone)) = false := by rfl) :
    PE X (.Call (.Name x p) (e :: es) kws pos) (tCallN n ks.length sp gV E t tk) := by
  obtain ⟨f, fd, g, h1, h2, h4, h5⟩ := D
  exact pe_callN h5 (hr.mono hk) hg h1 h2 h4 hx ha hkw hall hks hdb he hpl
/-- f(k = v, ..) -/
theorem pe_callK0D (D : DfK X.prog X.w X.K X.mg X.base k x ps 0 ks gV sp) (hr : Room j X.A) (hg : Gl X x) (hx : Passes (L2.CX X.prog X.w) X E) (hkw : PK X kws tk) (hk : k ≤ j := by decide)
    (hall : (backToKw pos (keywordEach kws X.env)).all (·.1.isSome) = true := by rfl) (hks : (backToKw pos (keywordEach kws X.env)).filterMap (·.1) = ks := by rfl)
    (hdb : (x == ("__debug__" : Str)) = false := by decide)
    (hpl : ((backTo pos (starEach [] X.env)).any (·.1) || (backToKw pos (keywordEach kws X.env)).any (·.1.isNone)) = false := by rfl) :
    PE X (.Call (.Name x p) [] kws pos) (tCallN 0 ks.length sp gV E tNil tk) := by
  obtain ⟨f, fd, g, h1, h2, h4, h5⟩ := D
  refine ⟨fun pins s σ H Q I h => ?_⟩
  refine wpAny_Call_Name_kw (ld_glob I hg h1 ?_ hdb)
  refine PySem.W.callWith_KW0 (h₀ := X.base) I.ok.mod.kin h2 hall ?_ hpl
  refine thn (hkw.run pos pins s σ H _ I h) fun ws s2 ⟨zs, H2, I2, rz, l1, l2, q2⟩ => ⟨I2.kIn, ?_⟩
  rw [hks]
  exact run_fnN (us := []) (vs := []) h5 (hr.mono hk) h4 hx I2 .nil rz rfl l2 q2
end
section
variable {P : Program} {w : World} {K : PySem.W.Frag} {mg : Str → Option Value} {base : Heap} {k : Nat} {x : Str} {ps : List Str} {sp : Sp} {st : Stmt} {f : Addr} {fd : FuncData}
abbrev FnP (K : PySem.W.Frag) (x qual : Str) (st : Stmt) (dvs : List V) (f : Addr) (fd : FuncData) : Prop := FunD K x qual (defArgs st) (defBody st) (defScope st) dvs [] f fd
theorem Df.of {qual : Str} {kws : List (Str × V)} (F : FunD K x qual (defArgs st) (defBody st) (defScope st) [] kws f fd) (hm : mg x = some (.ref f)) (ok : FnOk P w K mg base (L2.CX P w) k f fd ps sp)
    (h : ∀ (kV doc pm : Value) (an : Option Addr) (cdv ct : Value) (us : List Value), us.length = ps.length → bindArgs (PySem.W.fnOf x qual (defArgs st) (defBody st) (defScope st) .none kV doc pm an cdv ct) ⟨us, []⟩ = pure (ps.zip us)) :
    Df P w K mg base k x ps [] sp := ⟨f, fd, [], hm, F.kp, .nil, F.bindsN h, ok⟩
end
/-! ### what leaves a def -/
section
variable {CX : CXT} {P : Program} {w : World} {K : PySem.W.Frag} {mg : Str → Option Value} {base : Heap} {N : List Str} {qual : Str} {scope : Scope} {f : Addr} {cd : Value} {A : Around} {outer : List Env} {s : Shared} {H : Hp} {E : XK}
theorem takeE : Takes (cxOf (L2.CX P w) P w K mg base N qual scope f cd A outer s H E) (fun cls d _ H' => E cls d H') := takes_of rfl rfl rfl rfl
theorem passE : Passes (L2.CX P w) (cxOf (L2.CX P w) P w K mg base N qual scope f cd A outer s H E) E := passes_call takeE fun _ _ _ _ h => h
end
/-! ### readings, cut -/
theorem seq_cut {t u : TS} {D : Ends} {σ : L2.St} {H : Hp} (J : L2.St → Hp → Prop) (h1 : ∀ N : L2.St → Hp → Prop, (∀ σ' H', J σ' H' → N σ' H') → t { D with nx := N } σ H) (h2 : ∀ σ' H', J σ' H' → u D σ' H') : tSeq t u D σ H := h1 (u D) h2
theorem seq_cut2 {s1 t u : TS} {D : Ends} {σ : L2.St} {H : Hp} (J : L2.St → Hp → Prop) (h1 : ∀ N : L2.St → Hp → Prop, (∀ σ' H', J σ' H' → N σ' H') → s1 { D with nx := t { D with nx := N } } σ H) (h2 : ∀ σ' H', J σ' H' → u D σ' H') : tSeq s1 (tSeq t u) D σ H := h1 (u D) h2
/-! ### loops and comprehensions -/
/-- what walks over n things that stand still -/
structure ItP (J : It) (n : Nat) (item : Nat → V) (OK : Hp → Prop) : Prop where
  go : ∀ i H, OK H → i < n → J.go i H
  yld : ∀ i H x H', OK H → i < n → J.yld i H x H' → x = item i ∧ H' = H
  stop : ∀ H, OK H → J.stop n H
theorem itp_r (lo : Int) (n : Nat) : ItP (Itr lo n) n (fun i => .int (lo + i)) (fun _ => True) := ⟨fun _ _ _ h => h, fun _ _ _ _ _ _ y => ⟨y.2, y.1⟩, fun _ _ => Nat.le_refl _⟩
theorem itp_c (lo c : Int) (n : Nat) : ItP (Itc lo c n) n (fun i => .int (lo + (i : Nat) * c)) (fun _ => True) := ⟨fun _ _ _ h => h, fun _ _ _ _ _ _ y => ⟨y.2, y.1⟩, fun _ _ => Nat.le_refl _⟩
theorem itp_l (K : PySem.W.Frag) (a : Addr) (xs : List V) : ItP (Itl K a) xs.length (fun i => xs.getD i .non) (fun H => SqL K H a xs) where
  go := fun i H q h => ⟨xs, xs[i], q, List.getElem?_eq_getElem h⟩
  yld := fun i H x H' q h y => ⟨by
    have e := y.2 xs q
    rw [List.getD_eq_getElem?_getD, e]
    rfl, y.1⟩
  stop := fun H q => ⟨xs, q, Nat.le_refl _⟩
theorem itp_t (K : PySem.W.Frag) (a : Addr) (xs : List V) : ItP (Itt K a) xs.length (fun i => xs.getD i .non) (fun H => SqT K H a xs) where
  go := fun i H q h => ⟨xs, xs[i], q, List.getElem?_eq_getElem h⟩
  yld := fun i H x H' q h y => ⟨by
    have e := y.2 xs q
    rw [List.getD_eq_getElem?_getD, e]
    rfl, y.1⟩
  stop := fun H q => ⟨xs, q, Nat.le_refl _⟩
theorem itp_v (K : PySem.W.Frag) (a : Addr) (xs : List V) : ItP (Itv K a xs.length) xs.length (fun i => xs.getD (xs.length - 1 - i) .non) (fun H => SqL K H a xs) where
  go := fun i H q h => ⟨h, xs, xs[xs.length - 1 - i], q, List.getElem?_eq_getElem (by omega)⟩
  yld := fun i H x H' q h y => ⟨by
    have e := y.2 xs q
    rw [List.getD_eq_getElem?_getD, e]
    rfl, y.1⟩
  stop := fun H q => Nat.le_refl _
def tForB (J : It) (g : TG) (tb : TS) (D : Ends) (σ : L2.St) (H1 : Hp) : Prop := ∃ W : Nat → Nat → L2.St → Hp → Prop, (∃ m, W 0 m σ H1) ∧ ∀ i m σ H, W i m σ H →
  (J.stop i H ∧ D.nx σ H) ∨ (J.go i H ∧ ∃ N : L2.St → Hp → Prop, (∀ σ' H', N σ' H' → ∃ m', m' < m ∧ W (i + 1) m' σ' H') ∧ ∀ x H', J.yld i H x H' → g x σ H' fun σ2 H2 => tb { D with nx := N, ct := N, bk := D.nx } σ2 H2)
theorem tFor_eq (wi : TI) (g : TG) (tb : TS) (D : Ends) (σ : L2.St) (H : Hp) : tFor wi g tb D σ H = wi σ H fun J H1 => tForB J g tb D σ H1 := rfl
theorem forB {J : It} {n : Nat} {item : Nat → V} {OK : Hp → Prop} {g : TG} {tb : TS} {D : Ends} {σ : L2.St} {H : Hp} (I : ItP J n item OK) (Pv : Nat → L2.St → Hp → Prop) (h0 : Pv 0 σ H) (hok : ∀ i σ H, i ≤ n → Pv i σ H → OK H)
    (hs : ∀ (i : Nat) (σ : L2.St) (H : Hp) (N : L2.St → Hp → Prop), i < n → Pv i σ H → (∀ σ' H', Pv (i + 1) σ' H' → N σ' H') → g (item i) σ H fun σ2 H2 => tb { D with nx := N, ct := N, bk := D.nx } σ2 H2) (hd : ∀ σ H, Pv n σ H → D.nx σ H) :
    tForB J g tb D σ H := by
  refine ⟨fun i m σ H => m = n - i ∧ i ≤ n ∧ Pv i σ H, ⟨n, by simp, Nat.zero_le _, h0⟩, ?_⟩
  rintro i m σ H ⟨rfl, hi, p⟩
  by_cases hlt : i < n
  · refine .inr ⟨I.go i H (hok i σ H hi p) hlt, Pv (i + 1), fun σ' H' p' => ⟨n - (i + 1), by omega, rfl, hlt, p'⟩, fun x H' y => ?_⟩
    obtain ⟨ex, eH⟩ := I.yld i H x H' (hok i σ H hi p) hlt y
    subst ex eH
    exact hs i σ _ _ hlt p fun _ _ z => z
  · have e : i = n := by omega
    subst e
    exact .inl ⟨I.stop H (hok i σ H hi p), hd σ H p⟩
def tLcB (J : It) (g : TG) (tt : TT) (te : TE) (vs : List Nat) (σ : L2.St) (H1 : Hp) (Q : VK) : Prop := ∀ D, H1 D = none → ∃ W : Nat → Nat → Hp → Prop, (∃ m, W 0 m (upd H1 D (.lst []))) ∧ ∀ i m H, W i m H →
  (J.stop i H ∧ Q (.ref D) H) ∨ (J.go i H ∧ ∃ Nx : Hp → Prop, (∀ H', Nx H' → ∃ m', m' < m ∧ W (i + 1) m' H') ∧ ∀ x H', J.yld i H x H' → g x (wipe σ vs) H' fun σ2 H2 => wipe σ2 vs = wipe σ vs ∧ tt σ2 H2 fun b H3 =>
    if b = true then te σ2 H3 fun y H4 => ∃ acc, H4 D = some (.lst acc) ∧ acc.length < sizeLine ∧ Nx (upd H4 D (.lst (acc ++ [y]))) else Nx H3)
theorem tLc_eq (wi : TI) (g : TG) (tt : TT) (te : TE) (vs : List Nat) (σ : L2.St) (H : Hp) (Q : VK) : tLc wi g tt te vs σ H Q = wi σ H fun J H1 => tLcB J g tt te vs σ H1 Q := rfl
/-- a comprehension: Pv i H: the heap before turn i -/
theorem lcI {J : It} {n : Nat} {item : Nat → V} {OK : Hp → Prop} {g : TG} {tt : TT} {te : TE} {vs : List Nat} {σ : L2.St} {H1 : Hp} {Q : VK} (I : ItP J n item OK) (Pv : Addr → Nat → Hp → Prop) (h0 : ∀ D, H1 D = none → Pv D 0 (upd H1 D (.lst []))) (hok : ∀ D i H, H1 D = none → i ≤ n → Pv D i H → OK H)
    (hs : ∀ (D : Addr) (i : Nat) (H : Hp) (C : Hp → Prop), H1 D = none → i < n → Pv D i H → (∀ H', Pv D (i + 1) H' → C H') → g (item i) (wipe σ vs) H fun σ2 H2 => wipe σ2 vs = wipe σ vs ∧ tt σ2 H2 fun b H3 =>
      if b = true then te σ2 H3 fun y H4 => ∃ acc, H4 D = some (.lst acc) ∧ acc.length < sizeLine ∧ C (upd H4 D (.lst (acc ++ [y]))) else C H3) (hd : ∀ D H, H1 D = none → Pv D n H → Q (.ref D) H) : tLcB J g tt te vs σ H1 Q := by
  intro D hD
  refine ⟨fun i m H => m = n - i ∧ i ≤ n ∧ Pv D i H, ⟨n, by simp, Nat.zero_le _, h0 D hD⟩, ?_⟩
  rintro i m H ⟨rfl, hi, p⟩
  by_cases hlt : i < n
  · refine .inr ⟨I.go i H (hok D i H hD hi p) hlt, Pv D (i + 1), fun H' p' => ⟨n - (i + 1), by omega, rfl, hlt, p'⟩, fun x H' y => ?_⟩
    obtain ⟨ex, eH⟩ := I.yld i H x H' (hok D i H hD hi p) hlt y
    subst ex eH
    exact hs D i _ _ hD hlt p fun _ z => z
  · have e : i = n := by omega
    subst e
    exact .inl ⟨I.stop H (hok D i H hD hi p), hd D H hD p⟩
/-- a comprehension that changes nothing: f i is what the i-th turn gives -/
theorem lcB {J : It} {n : Nat} {item : Nat → V} {OK : Hp → Prop} {g : TG} {tt : TT} {te : TE} {vs : List Nat} {σ : L2.St} {H1 : Hp} {Q : VK} (I : ItP J n item OK) (f : Nat → Option V) (hok : ∀ D acc, H1 D = none → OK (upd H1 D (.lst acc)))
    (hs : ∀ (i : Nat) (D : Addr) (acc : List V) (C : Hp → Prop), i < n → H1 D = none → acc.length ≤ i → ((f i = none → C (upd H1 D (.lst acc))) ∧ ∀ y, f i = some y → C (upd H1 D (.lst (acc ++ [y])))) →
      g (item i) (wipe σ vs) (upd H1 D (.lst acc)) fun σ2 H2 => wipe σ2 vs = wipe σ vs ∧ tt σ2 H2 fun b H3 =>
        if b = true then te σ2 H3 fun y H4 => ∃ acc, H4 D = some (.lst acc) ∧ acc.length < sizeLine ∧ C (upd H4 D (.lst (acc ++ [y]))) else C H3)
    (hd : ∀ D, H1 D = none → Q (.ref D) (upd H1 D (.lst ((List.range n).filterMap f)))) : tLcB J g tt te vs σ H1 Q := by
  refine lcI I (fun D i H => H = upd H1 D (.lst ((List.range i).filterMap f))) (fun D _ => rfl) (fun D i H hD _ e => by rw [e]; exact hok D _ hD) (fun D i H C hD hi e hC => ?_) fun D H hD e => by rw [e]; exact hd D hD
  subst e
  refine hs i D _ C hi hD (Nat.le_trans (List.length_filterMap_le _ _) (by simp)) ⟨fun e => hC _ ?_, fun y e => hC _ ?_⟩
  · rw [List.range_succ, List.filterMap_append]
    simp [e]
  · rw [List.range_succ, List.filterMap_append]
    simp [e]
theorem lcE {H1 : Hp} {D : Addr} {acc : List V} {C : Hp → Prop} {o : Option V} {y : V} (hC : (o = none → C (upd H1 D (.lst acc))) ∧ ∀ y, o = some y → C (upd H1 D (.lst (acc ++ [y])))) (e : o = some y) (hl : acc.length < sizeLine) :
    ∃ acc', (upd H1 D (.lst acc)) D = some (.lst acc') ∧ acc'.length < sizeLine ∧ C (upd (upd H1 D (.lst acc)) D (.lst (acc' ++ [y]))) := ⟨acc, upd_same, hl, by rw [upd_upd]; exact hC.2 y e⟩
def whBody (Pv : L2.St → Hp → Prop) (μ : L2.St → Hp → Nat) (m : Nat) (tb : TS) (D : Ends) (σ : L2.St) (H1 : Hp) : Prop :=
  ∃ N : L2.St → Hp → Prop, (∀ σ' H', N σ' H' → ∃ m', m' < m ∧ m' = μ σ' H' ∧ Pv σ' H') ∧ tb { D with nx := N, ct := N, bk := D.nx } σ H1
theorem whileB {c : TT} {tb : TS} {D : Ends} {σ : L2.St} {H : Hp} (Pv : L2.St → Hp → Prop) (μ : L2.St → Hp → Nat) (h0 : Pv σ H)
    (hs : ∀ σ H, Pv σ H → c σ H fun b H1 => if b = true then whBody Pv μ (μ σ H) tb D σ H1 else D.nx σ H1) : tWhile c tb D σ H := by
  refine ⟨fun m σ H => m = μ σ H ∧ Pv σ H, ⟨_, rfl, h0⟩, ?_⟩
  rintro m σ H ⟨rfl, p⟩
  exact hs σ H p
theorem whI {Pv : L2.St → Hp → Prop} {μ : L2.St → Hp → Nat} {m : Nat} {tb : TS} {D : Ends} {σ : L2.St} {H1 : Hp}
    (h : ∀ N : L2.St → Hp → Prop, (∀ σ' H', Pv σ' H' → μ σ' H' < m → N σ' H') → tb { D with nx := N, ct := N, bk := D.nx } σ H1) : whBody Pv μ m tb D σ H1 :=
  ⟨fun σ' H' => Pv σ' H' ∧ μ σ' H' < m, fun _ _ ⟨p, l⟩ => ⟨_, l, rfl, p⟩, h _ fun _ _ p l => ⟨p, l⟩⟩
theorem isi {K : PySem.W.Frag} {H : Hp} {x : V} {t T : String} {b : Bool} {Q : VK} (ty : TyX K H x (.type t)) (h : kitB t T = some b) (q : Q (.bl b) H) : rIsi K [x, .ty T] H Q := ⟨x, .ty T, .type t, .type T, b, rfl, .ty T, ty, kit_ty h, q⟩
theorem dp_ints {K : PySem.W.Frag} {H : Hp} : ∀ ns : List Int, DpAll K H (ns.map V.int) (ns.map PyData.int)
  | [] => .nil
  | n :: r => .cons (.int n) (dp_ints r)
theorem eqD_same {K : PySem.W.Frag} {H : Hp} {x y : V} {d : PyData} {Q : VK} (hx : Dp K H x d) (hy : Dp K H y d) (hs : SeqAt.shaped d = true) (q : Q (.bl true) H) : rEqD K x y H Q := by
  refine ⟨d, d, hx, hy, hs, hs, ?_⟩
  rw [SeqAt.eqv_refl d (Bool.and_eq_true_iff.mp hs).1]
  exact q
theorem neD_same {K : PySem.W.Frag} {H : Hp} {x y : V} {d : PyData} {Q : VK} (hx : Dp K H x d) (hy : Dp K H y d) (hs : SeqAt.shaped d = true) (q : Q (.bl false) H) : rNeD K x y H Q := by
  refine ⟨d, d, hx, hy, hs, hs, ?_⟩
  rw [SeqAt.eqv_refl d (Bool.and_eq_true_iff.mp hs).1]
  exact q
theorem tyL {K : PySem.W.Frag} {H : Hp} {p : Addr} {xs : List V} (h : H p = some (.lst xs)) : tyV K "list" (.ref p) H := Or.inl ⟨rfl, _, SqL.of h⟩
theorem len_of {K : PySem.W.Frag} {H : Hp} {a : Addr} {xs : List V} (h : SqL K H a xs) : LenV K (.ref a) H xs.length := .inl ⟨xs, h, rfl⟩
theorem lenT_of {K : PySem.W.Frag} {H : Hp} {a : Addr} {xs : List V} (h : SqT K H a xs) : LenV K (.ref a) H xs.length := .inr ⟨xs, h, rfl⟩
theorem Same.upd {H : Hp} {p : Addr} {o : HO} (h : H p = none) : Same H (upd H p o) := fun b o' e => by rw [upd_ne (ne_of_none e h)]; exact e
theorem atI_of {α : Type} {xs : List α} {i : Int} {v : α} (h0 : 0 ≤ i) (h : xs[i.toNat]? = some v) : atI xs i = some v := by
  have e := atI_nat h
  rwa [Int.toNat_of_nonneg h0] at e
/-! ### the head's facts -/
abbrev Fx : Type := PySem.W.Frag → Bool
def obsX (fa : List Fx) (fn : List He.DefD) (K : PySem.W.Frag) : He.AlD := ((fa.all fun f => f K) && fn.all fun d => d.ok K, fn.map fun d => He.fnW K d.at_)
def SaysX (fa : List Fx) (fn : List He.DefD) (K : PySem.W.Frag) : Prop := obsX fa fn K = He.valD fn
def obsXG (n : Nat) (fa : List Fx) (fn : List He.DefD) (g : Addr → Option Obj) : He.AlD := obsX fa fn (He.frG g (He.asD g n))
def hookX (n : Nat) (fa : List Fx) (fn : List He.DefD) : PySem.W.Hook where
  α := He.AlD
  obs := fun s => obsXG n fa fn s.heap.get?
  val := fun _ => He.valD fn
  says := fun _ h => ∃ K : PySem.W.Frag, K.In h ∧ SaysX fa fn K
  of := fun _ _ e => ⟨_, He.frG_in, e⟩
  keeps := fun _ _ _ ⟨K, hK, c⟩ k => ⟨K, PySem.W.Frag.In.keeps hK k, c⟩
theorem obsXG_eq {n : Nat} {fa : List Fx} {fn : List He.DefD} {g : Addr → Option Obj} {s : Shared} (h : ∀ a, g a = s.heap.get? a) : obsXG n fa fn g = (hookX n fa fn).obs s := by
  have e : g = s.heap.get? := funext h
  rw [e] <;> rfl
section
variable {fa : List Fx} {fn : List He.DefD} {K : PySem.W.Frag}
theorem SaysX.fact (c : SaysX fa fn K) (i : Nat) {f : Fx} (h : fa[i]? = some f := by rfl) : f K = true := by
  have c1 := (He.ba (show ((fa.all fun f => f K) && fn.all fun d => d.ok K) = true from congrArg (fun z : He.AlD => z.1) c)).1
  exact List.all_eq_true.mp c1 f (List.mem_of_getElem? h)
theorem SaysX.def_ (c : SaysX fa fn K) (i : Nat) {d : He.DefD} (h : fn[i]? = some d := by rfl) : ∃ fd, FunD K d.name d.qual d.params d.body d.scope (d.dvs K) (d.kws K) (He.fAd K d.at_) fd := by
  have c2 := (He.ba (show ((fa.all fun f => f K) && fn.all fun d => d.ok K) = true from congrArg (fun z : He.AlD => z.1) c)).2
  have e : fn.map (fun d => He.fnW K d.at_) = fn.map He.DefD.val := congrArg (fun z : He.AlD => z.2) c
  have e2 : (fn.map fun d => He.fnW K d.at_)[i]? = (fn.map He.DefD.val)[i]? := by rw [e]
  rw [List.getElem?_map, List.getElem?_map, h] at e2
  exact He.DefD.funD (Option.some.inj e2) (List.all_eq_true.mp c2 d (List.mem_of_getElem? h))
end
def fGlo (x : Str) : Fx := fun K => (He.Fa.glo x).ok K
def fFree (x : Str) : Fx := fun K => (He.Fa.free x).ok K
def fInt (x : Str) (i : Int) : Fx := fun K => (He.Fa.int x i).ok K
def fCls (x : Str) : Fx := fun K => (He.Fa.cls x).ok K
def fNoat (x f : Str) : Fx := fun K => (He.Fa.noat x f).ok K
def fMeth (x f : Str) : Fx := fun K => (He.Fa.meth x f).ok K
def fMkr (x : Str) : Fx := fun K => (He.Fa.mkr x).ok K
def fExc (x : Str) : Fx := fun K => (He.Fa.exc x).ok K
def fExm (x y : Str) (b : Bool) : Fx := fun K => (He.Fa.exm x y b).ok K
/-- keyword calls of a def without defaults -/
theorem DfK.of {P : Program} {w : World} {K : PySem.W.Frag} {mg : Str → Option Value} {base : Heap} {k n : Nat} {x : Str} {ps ks : List Str} {sp : Sp} {st : Stmt} {f : Addr} {fd : FuncData} {qual : Str} {kws : List (Str × V)}
    (F : FunD K x qual (defArgs st) (defBody st) (defScope st) [] kws f fd) (hm : mg x = some (.ref f)) (ok : FnOk P w K mg base (L2.CX P w) k f fd ps sp) (g : {α : Type} → List α → List α → List α)
    (hrel : ∀ {vs zs : List V} {us ws : List Value}, Vals vs us → Vals zs ws → Vals (g vs zs) (g us ws))
    (h : ∀ (kV doc pm : Value) (an : Option Addr) (cdv ct : Value) (us ws : List Value), us.length = n → ws.length = ks.length → bindArgs (PySem.W.fnOf x qual (defArgs st) (defBody st) (defScope st) .none kV doc pm an cdv ct) ⟨us, ks.zip ws⟩ = pure (ps.zip (g us ws))) :
    DfK P w K mg base k x ps n ks (fun vs zs => g vs zs) sp := by
  obtain ⟨oc, od, dV, kV, doc, pm, an, cdv, ct, osl, rfl, lk, hcd, hD, hK⟩ := F.ex
  rcases hD with ⟨_, rfl⟩ | ⟨e, _⟩
  · exact ⟨f, _, fun us ws => g us ws, hm, F.kp, ⟨fun s us ws _ l1 l2 => .of_eq (h kV doc pm an cdv ct us ws l1 l2), fun r1 r2 => hrel r1 r2⟩, ok⟩
  · exact absurd rfl e
/-- positional calls of a def with defaults: n values are written, the defaults behind the first j fill up -/
theorem Df.ofD {P : Program} {w : World} {K : PySem.W.Frag} {mg : Str → Option Value} {base : Heap} {k : Nat} {x : Str} {ps : List Str} {sp : Sp} {st : Stmt} {f : Addr} {fd : FuncData} {qual : Str} {kws : List (Str × V)} {dvs : List V}
    (F : FunD K x qual (defArgs st) (defBody st) (defScope st) dvs kws f fd) (hm : mg x = some (.ref f)) (ok : FnOk P w K mg base (L2.CX P w) k f fd ps sp) (n j : Nat) (hd : dvs ≠ []) (hn : n + (dvs.length - j) = ps.length)
    (h : ∀ (T : Addr) (kV doc pm : Value) (an : Option Addr) (cdv ct : Value) (us its : List Value), us.length = n → its.length = dvs.length →
      ∃ k, bindArgs (PySem.W.fnOf x qual (defArgs st) (defBody st) (defScope st) (.ref T) kV doc pm an cdv ct) ⟨us, []⟩ = seqItems? (.ref T) >>= k ∧ k (some its.toArray) = pure (ps.zip (us ++ its.drop j))) :
    Df P w K mg base k x ps (dvs.drop j) sp := by
  obtain ⟨ds, h1, h2⟩ := F.binds1 n j hd hn h
  exact ⟨f, fd, ds, hm, F.kp, h1, h2, ok⟩
/-! ### the end of a law -/
theorem walk_ofG {l : PySem.W.OpenLaw} {n k : Nat} {q : Program} {loose : List Str} {XP : (Str → Option Value) → Heap → Prop} {YP : World → Heap → Prop} {d : DefRec} {x : Str}
    (hn : l.most = some n) (hn2 : n ≤ sizeLine) (hdf : d.params.defaults = []) (hr : Room k callerA)
    (F : ∀ (w : World) (mg : Str → Option Value) (fa : Addr) (h : Heap), YP w h → h.Ns mainGlobals mg → mg d.name = some (.ref fa) →
      ∃ (K : PySem.W.Frag) (fd : FuncData) (sp : Sp), K.In h ∧ (∀ (s : Shared) (u : Value), BindsTo s fd ⟨[u], []⟩ [(x, u)]) ∧
        (∀ (H : Hp) (a : Addr) (ns : List Int), ns.length ≤ n → (∀ z ∈ ns, Builtin.Int.intBits z ≤ 1048576) → Only H → SqL K H a (ns.map V.int) → sp [.ref a] H (fun v _ => v = .bl true) fun _ _ _ => False) ∧
        ∀ base : Heap, K.In base → base.Ns mainGlobals mg → FnOk l.prog w K mg base (L2.CX l.prog w) k fa fd [x] sp) :
    PySem.W.WalkO q loose XP YP l.row.toRowW d [] (fun f vs => PySem.call f vs) := by
  refine Att.attach_callB hn hdf fun w s₀ s₁ mg mb fa o pm cd doc a vs ns G Y ho hd hcd hmg hobj hints hlen hbits hg => ?_
  obtain ⟨K, fd, sp, KX, hb, hsp, hF⟩ := F w mg fa _ Y G.T.g hmg
  refine law_call KX G.T.g G.T.b G.T.builtins G.T.nolimit hg hobj hints (Nat.le_trans hlen hn2) hr hF hb (fun H hO hS => hsp H a ns hlen hbits hO hS) fun H e s' h => ?_
  obtain ⟨_, _, _, _, _, _, _, _, _, _, _, _, z⟩ := h
  exact z
end G
namespace K02
open PySem PySem.Spec PyProof.Rows L2 G
def top (i : Nat) : Stmt := PySem.Challenge.pw_oncebuilt_k02_block_sizes_and_sums.main.body.getD i (.Pass ⟨0, 0, 0, 0⟩)
local macro_rules | `(tactic| walk_at "rd") => `(tactic| try simp only [tSeq, tAsg, tC, gName, tIfS, tTest, tB, tOp, tUn, rI0, rI, rU, tVar, tCB, tCons, tNil, tNext, tRet, tRetN, tDrop, tLst, tTup, rIxL, rIxT, tCall, tCallN, tPar, tAug, ipI, tAnd, tOr, tNot, tAndV, tOrV, tNotV, tIf, tBits, gSub, rSetL, cxOf, L2.start, gTup, gCons, gNil, if_true, if_false, Bool.not_true, Bool.not_false, Bool.false_eq_true, tFor_eq, tLc_eq, tYes, wipe, rEq, rNe, tBreak, tCont, tChain, iRng1, iRng2, iRng3, iList, tBM, tBM0, rAppend, TruV, List.map_cons, List.map_nil, List.length_cons, List.length_nil, Nat.reduceAdd, Nat.reduceSub, List.replicate_succ, List.replicate_zero, List.replicate, List.cons_append, List.nil_append, List.append_nil, List.getElem?_cons_zero, List.getElem?_cons_succ, Option.some.injEq, exists_eq_left', exists_eq_left, List.set_cons_zero, List.set_cons_succ, V.int.injEq, V.bl.injEq, V.ref.injEq, V.str.injEq, List.cons.injEq, and_true, true_and, and_assoc, exists_and_left, decide_eq_true_eq, exists_const])
structure Txt (K : PySem.W.Frag) (mg : Str → Option Value) : Prop where
  b_ValueError : mg "ValueError" = none
  b_abs : mg "abs" = none
  b_bool : mg "bool" = none
  b_int : mg "int" = none
  b_isinstance : mg "isinstance" = none
  b_len : mg "len" = none
  b_list : mg "list" = none
  b_min : mg "min" = none
  b_range : mg "range" = none
  b_sum : mg "sum" = none
  h_GREATEST : ∃ t, mg "GREATEST" = some (.int 1000000000000000000000000000000 t)
variable {P : Program} {w : World} {K : PySem.W.Frag} {mg : Str → Option Value} {base : Heap} {f : Addr} {fd : FuncData}
abbrev s_bag : Stmt := top 10
theorem sc_bag : FnScope ["_law_script", "_law_at", "_law_cell", "_law_great", "_law_primes"] ["_law_script", "_law_at"] (defScope s_bag) := ⟨rfl, rfl, rfl, by decide +kernel, rfl, by decide +kernel, by decide +kernel⟩
def sp_bag (K : PySem.W.Frag) : Sp := fun vs H Q _ => ∃ (a : Addr) (ns : List Int) (i : Int), vs = [.ref a, .int i] ∧ SqL K H a (ns.map V.int) ∧ ns.length ≤ 63 ∧ 0 ≤ i ∧ i ≤ 1000 ∧
  ∀ (p : Addr) (H' : Hp) (g s : Int), Same H H' → H p = none → H' p = some (.lst [.int g, .int s, .int 0]) → Q (.ref p) H'
theorem ok_bag (T : Txt K mg)  (F : FunD K "_law_bag" "_law_bag" (defArgs s_bag) (defBody s_bag) (defScope s_bag) [] [] f fd) : FnOk P w K mg base (L2.CX P w) 1 f fd ["_law_script", "_law_at"] (sp_bag K) := by
  refine F.ok sc_bag (fun vs H Q E h => ?_) (fun cdv A outer s H vs Q E hr h => ?_)
  · obtain ⟨a, ns, i, rfl, _⟩ := h
    rfl
  · have hu := hu_of hr
    obtain ⟨a, ns, i, rfl, hS, hl, h0, h1, k⟩ := h
    refine ⟨_, (pss_cons (ps_set (i := 2) sc_bag.nd rfl (Or.inl rfl) pe_int)
      (pss_cons (ps_if (pt_cmpR op_lt (pv 1) (pe_callB call_len (by rfl) T.b_len (by decide +kernel) (pa_cons (pv 0) pa_nil)) (nomark _)) (pss_one (ps_set (i := 2) sc_bag.nd rfl (Or.inl rfl) (pe_ix ix_list (pv 0) (pv 1) (fun _ _ => rfl)))) pss_nil)
      (pss_cons (ps_set (i := 3) sc_bag.nd rfl (Or.inl rfl) pe_int)
      (pss_cons (ps_if (pt_cmpR op_ge (pe_callB call_abs (by rfl) T.b_abs (by decide +kernel) (pa_cons (pv 2) pa_nil)) (pe_op op_pow pe_int pe_int) (nomark _)) (pss_one (ps_set (i := 3) sc_bag.nd rfl (Or.inl rfl) (pe_callB call_abs (by rfl) T.b_abs (by decide +kernel) (pa_cons (pv 2) pa_nil)))) pss_nil)
      (pss_cons (ps_set (i := 4) sc_bag.nd rfl (Or.inl rfl) (pe_lst (pa_cons pe_int (pa_cons pe_int (pa_cons pe_int (pa_cons pe_int (pa_cons pe_int (pa_cons pe_int (pa_cons pe_int (pa_cons pe_int pa_nil))))))))))
      (pss_one (ps_ret (pe_lst (pa_cons (pv 3) (pa_cons (pe_op op_mod (pe_op op_pow (pe_op op_add (pe_op op_add (pe_op op_mod (pv 2) pe_int) (pe_op op_mul pe_int (pv 1))) pe_int) pe_int) (pe_ix ix_list (pv 4) (pe_op op_mod (pv 1) pe_int) (fun _ _ => rfl))) (pa_cons pe_int pa_nil))))))))))), ?_⟩
    refine seq_cut2 (fun σ H' => H' = H ∧ ∃ c : Int, σ = [some (.ref a), some (.int i), some (.int c), none, none]) (fun N hN => ?_) ?_
    · walk_at "rd"
      refine ⟨_, len_of hS, ite2 (fun hi => ?_) (fun _ => hN _ _ ⟨rfl, _, rfl⟩)⟩
      rw [List.length_map] at hi
      have hi2 : i.toNat < ns.length := by omega
      refine ⟨_, hS, _, atI_of h0 (v := .int ns[i.toNat]) (by simp [hi2]), hN _ _ ⟨rfl, _, rfl⟩⟩
    · rintro _ H1 ⟨rfl, c, rfl⟩
      refine seq_cut2 (fun σ H' => H' = H1 ∧ ∃ g : Int, σ = [some (.ref a), some (.int i), some (.int c), some (.int g), none]) (fun N hN => ?_) ?_
      · walk_at "rd"
        exact ⟨⟨by decide, by decide, by decide⟩, ite2 (fun _ => hN _ _ ⟨rfl, _, rfl⟩) (fun _ => hN _ _ ⟨rfl, _, rfl⟩)⟩
      · rintro _ H2 ⟨rfl, g, rfl⟩
        walk_at "rd"
        have hm := Int.emod_nonneg c (show (2147483647 : Int) ≠ 0 by decide)
        have hm2 := Int.emod_lt_of_pos c (show (0 : Int) < 2147483647 by decide)
        refine ⟨by decide, fun p hp => ⟨by decide, .inl ⟨by decide, by decide⟩, ⟨by decide, by decide, by omega⟩, by decide, _, SqL.of upd_same, ?_⟩⟩
        have h8 : i % 8 = 0 ∨ i % 8 = 1 ∨ i % 8 = 2 ∨ i % 8 = 3 ∨ i % 8 = 4 ∨ i % 8 = 5 ∨ i % 8 = 6 ∨ i % 8 = 7 := by omega
        rcases h8 with e | e | e | e | e | e | e | e <;> rw [e] <;> refine ⟨_, rfl, _, rfl, by decide, by decide, fun q hq => k q _ _ _ ?_ ?_ upd_same⟩
        all_goals first
          | exact (G.Same.upd hp).trans (G.Same.upd hq)
          | exact (G.Same.upd hp).free hq
abbrev s_take : Stmt := top 11
theorem sc_take : FnScope ["_law_bag_here", "_law_count", "_law_digit"] ["_law_bag_here", "_law_count"] (defScope s_take) := ⟨rfl, rfl, rfl, by decide +kernel, rfl, by decide +kernel, by decide +kernel⟩
def sp_take : Sp := fun vs H Q _ => ∃ (b : Addr) (g s c n : Int), vs = [.ref b, .int n] ∧ H b = some (.lst [.int g, .int s, .int c]) ∧ 0 < n ∧ n < 2 ^ 200 ∧
  ∀ r g' s' c' : Int, 0 ≤ r → r < n → Q (.int r) (upd H b (.lst [.int g', .int s', .int c']))
theorem ok_take (T : Txt K mg)  (F : FunD K "_law_take" "_law_take" (defArgs s_take) (defBody s_take) (defScope s_take) [] [] f fd) : FnOk P w K mg base (L2.CX P w) 1 f fd ["_law_bag_here", "_law_count"] sp_take := by
  refine F.ok sc_take (fun vs H Q E h => ?_) (fun cdv A outer s H vs Q E hr h => ?_)
  · obtain ⟨b, g, s, c, n, rfl, _⟩ := h
    rfl
  · have hu := hu_of hr
    obtain ⟨b, g, s', c, n, rfl, hb, n0, n1, k⟩ := h
    refine ⟨_, (pss_cons (ps_if (pt_cmpR op_gt (pe_ix ix_list (pv 0) pe_int (fun _ _ => rfl)) pe_int (nomark _)) (pss_cons (ps_set (i := 2) sc_take.nd rfl (Or.inl rfl) (pe_op op_mod (pe_ix ix_list (pv 0) pe_int (fun _ _ => rfl)) (pv 1)))
        (pss_cons (ps_asg (pe_op op_fdivW (pe_ix ix_list (pv 0) pe_int (fun _ _ => rfl)) (pv 1)) (pg_sub (pv 0) pe_int set_list))
        (pss_one (ps_ret (pv 2))))) pss_nil)
      (pss_cons (ps_asg (pe_op op_add (pe_ix ix_list (pv 0) pe_int (fun _ _ => rfl)) pe_int) (pg_sub (pv 0) pe_int set_list))
      (pss_cons (ps_asg (pe_op op_mod (pe_op op_add (pe_op op_add (pe_op op_mul (pe_ix ix_list (pv 0) pe_int (fun _ _ => rfl)) pe_int) (pe_op op_mul pe_int (pe_ix ix_list (pv 0) pe_int (fun _ _ => rfl)))) pe_int) pe_int) (pg_sub (pv 0) pe_int set_list))
      (pss_one (ps_ret (pe_op op_mod (pe_op op_mod (pe_op op_pow (pe_op op_fdiv (pe_ix ix_list (pv 0) pe_int (fun _ _ => rfl)) pe_int) pe_int) pe_int) (pv 1))))))), ?_⟩
    walk_at "rd"
    refine ⟨_, SqL.of hb, _, rfl, _, rfl, ?_⟩
    refine ite2 (fun hg => ?_) (fun hg => ?_)
    · refine ⟨_, SqL.of hb, _, rfl, _, rfl, n0, _, SqL.of hb, _, rfl, _, rfl, wide_div n0 (b := 200) (by omega) (by decide) (by decide), _, hb, _, rfl, ?_⟩
      exact k _ _ _ _ (Int.emod_nonneg _ (by omega)) (Int.emod_lt_of_pos _ n0)
    · refine ⟨_, SqL.of hb, _, rfl, _, rfl, _, hb, _, rfl, _, SqL.of upd_same, _, rfl, _, rfl, .inr ⟨by decide, by decide⟩, _, SqL.of upd_same, _, rfl, _, rfl, .inl ⟨by decide, by decide⟩, by decide, _, upd_same, _, rfl, _, SqL.of upd_same, _, rfl, _, rfl, ⟨by decide, by decide⟩, ?_⟩
      refine ⟨⟨by decide, by decide, ?_⟩, by decide, n0, ?_⟩
      · have hm := Int.emod_nonneg (s' * 69621 + 6007 * (c + 1) + 19) (show (2147483647 : Int) ≠ 0 by decide)
        have hm2 := Int.emod_lt_of_pos (s' * 69621 + 6007 * (c + 1) + 19) (show (0 : Int) < 2147483647 by decide)
        omega
      · rw [upd_upd]
        exact k _ _ _ _ (Int.emod_nonneg _ (by omega)) (Int.emod_lt_of_pos _ n0)
namespace M
/-- the bits of n below 2 ^ b, the greatest first -/
def bl (n : Nat) : Nat → List Nat
  | 0 => []
  | b + 1 => (if n / 2 ^ b % 2 = 1 then [2 ^ b] else []) ++ bl n b
theorem bl_range (n : Nat) : ∀ b, (List.range b).filterMap (fun i => if n / 2 ^ (b - 1 - i) % 2 = 1 then some (2 ^ (b - 1 - i)) else none) = bl n b
  | 0 => rfl
  | b + 1 => by
    rw [List.range_succ_eq_map, List.filterMap_cons, List.filterMap_map]
    have e : ((fun i => if n / 2 ^ (b + 1 - 1 - i) % 2 = 1 then some (2 ^ (b + 1 - 1 - i)) else none) ∘ Nat.succ) = (fun i => if n / 2 ^ (b - 1 - i) % 2 = 1 then some (2 ^ (b - 1 - i)) else none) := by
      funext i
      have q : b + 1 - 1 - i.succ = b - 1 - i := by omega
      simp only [Function.comp, q]
    rw [e, bl_range n b]
    have q : b + 1 - 1 - 0 = b := by omega
    have eb : bl n (b + 1) = (if n / 2 ^ b % 2 = 1 then [2 ^ b] else []) ++ bl n b := rfl
    rw [q, eb]
    by_cases h : n / 2 ^ b % 2 = 1
    · rw [if_pos h, if_pos h]
      rfl
    · rw [if_neg h, if_neg h]
      rfl
theorem mod_pow (n b : Nat) : n % 2 ^ (b + 1) = (n / 2 ^ b % 2) * 2 ^ b + n % 2 ^ b := by
  have h := Nat.mod_mul (a := 2 ^ b) (b := 2) (x := n)
  rw [Nat.pow_succ, h, Nat.mul_comm, Nat.add_comm]
theorem bl_sum (n : Nat) : ∀ b, (bl n b).sum = n % 2 ^ b
  | 0 => by simp [bl, Nat.mod_one]
  | b + 1 => by
    rw [mod_pow]
    unfold bl
    rw [List.sum_append, bl_sum n b]
    have h2 : n / 2 ^ b % 2 = 0 ∨ n / 2 ^ b % 2 = 1 := by omega
    rcases h2 with h | h <;> simp [h]
theorem bl_pow (n : Nat) : ∀ b, ∀ x ∈ bl n b, ∃ j, j < b ∧ x = 2 ^ j
  | 0, x, h => by cases h
  | b + 1, x, h => by
    unfold bl at h
    rcases List.mem_append.mp h with h | h
    · split at h
      · rw [List.mem_singleton.mp h]
        exact ⟨b, by omega, rfl⟩
      · cases h
    · obtain ⟨j, h1, h2⟩ := bl_pow n b x h
      exact ⟨j, by omega, h2⟩
theorem bl_desc (n : Nat) : ∀ b, (bl n b).Pairwise (fun x y => y < x)
  | 0 => List.Pairwise.nil
  | b + 1 => by
    unfold bl
    refine List.pairwise_append.mpr ⟨?_, bl_desc n b, fun x hx y hy => ?_⟩
    · split <;> simp
    · split at hx
      · rw [List.mem_singleton.mp hx]
        obtain ⟨j, h1, h2⟩ := bl_pow n b y hy
        rw [h2]
        exact Nat.pow_lt_pow_right (by decide) h1
      · cases hx
theorem bl_len (n : Nat) : ∀ b, (bl n b).length ≤ b
  | 0 => Nat.le_refl _
  | b + 1 => by
    unfold bl
    rw [List.length_append]
    have := bl_len n b
    split <;> simp <;> omega
/-- the greatest power of two that divides n (1 for 0) -/
def low (n : Nat) : Nat := if h : n ≠ 0 ∧ n % 2 = 0 then 2 * low (n / 2) else 1
termination_by n
decreasing_by omega
theorem low_odd {n : Nat} (h : n % 2 = 1) : low n = 1 := by
  unfold low
  rw [dif_neg (by omega)]
theorem low_even {n : Nat} (h : n ≠ 0) (h2 : n % 2 = 0) : low n = 2 * low (n / 2) := by
  rw [low, dif_pos ⟨h, h2⟩]
theorem low_pow : ∀ j, low (2 ^ j) = 2 ^ j
  | 0 => low_odd rfl
  | j + 1 => by
    have h : 2 ^ (j + 1) = 2 * 2 ^ j := by rw [Nat.pow_succ, Nat.mul_comm]
    have p : 0 < 2 ^ j := Nat.pow_pos (by decide)
    rw [low_even (by omega) (by omega), h]
    have e : 2 * 2 ^ j / 2 = 2 ^ j := by omega
    rw [e, low_pow j]
/-- total, by halves -/
def tot (n : Nat) : Nat := if h : n = 0 then 0 else (n - n / 2) + 2 * tot (n / 2)
termination_by n
decreasing_by omega
theorem tot_pos (n : Nat) : tot n = (n - n / 2) + 2 * tot (n / 2) := by
  by_cases h : n = 0
  · subst h
    simp [tot]
  · rw [tot, dif_neg h]
theorem tot_zero : tot 0 = 0 := by rw [tot, dif_pos rfl]
theorem tot_succ : ∀ n, tot (n + 1) = tot n + low (n + 1) := by
  intro n
  induction n using Nat.strongRecOn with
  | _ n ih =>
    rw [tot_pos (n + 1), tot_pos n]
    rcases Nat.mod_two_eq_zero_or_one n with h | h
    · have e : (n + 1) / 2 = n / 2 := by omega
      rw [e, low_odd (by omega)]
      omega
    · have e : (n + 1) / 2 = n / 2 + 1 := by omega
      have l := low_even (n := n + 1) (by omega) (by omega)
      rw [l, e, ih (n / 2) (by omega)]
      omega
theorem tot_low : ∀ m, ((List.range m).map (fun i => low (1 + i))).sum = tot m
  | 0 => by rw [tot_zero]; rfl
  | m + 1 => by
    rw [List.range_succ, List.map_append, List.sum_append, tot_low m, tot_succ]
    simp [Nat.add_comm]
theorem tot_places : ∀ b n, n < 2 ^ b → ((List.range b).map (fun i => (n / 2 ^ i - n / 2 ^ (i + 1)) * 2 ^ i)).sum = tot n
  | 0, n, h => by
    have : n = 0 := by simpa using h
    rw [this, tot_zero]
    rfl
  | b + 1, n, h => by
    have h2 : n / 2 < 2 ^ b := by rw [Nat.pow_succ] at h; omega
    rw [List.range_succ_eq_map, List.map_cons, List.map_map, List.sum_cons, tot_pos n, ← tot_places b (n / 2) h2]
    have e : ((fun i => (n / 2 ^ i - n / 2 ^ (i + 1)) * 2 ^ i) ∘ Nat.succ) = fun i => 2 * ((n / 2 / 2 ^ i - n / 2 / 2 ^ (i + 1)) * 2 ^ i) := by
      funext i
      have e1 : n / 2 ^ (i + 1) = n / 2 / 2 ^ i := by rw [Nat.pow_succ, Nat.mul_comm, Nat.div_div_eq_div_mul]
      have e2 : n / 2 ^ (i + 1 + 1) = n / 2 / 2 ^ (i + 1) := by rw [Nat.pow_succ 2 (i + 1), Nat.mul_comm, Nat.div_div_eq_div_mul]
      simp only [Function.comp, Nat.succ_eq_add_one]
      rw [e1, e2, Nat.pow_succ, Nat.mul_comm (2 ^ i) 2, ← Nat.mul_assoc, Nat.mul_comm _ 2, Nat.mul_assoc]
    rw [e]
    have e3 : ∀ l : List Nat, ∀ g : Nat → Nat, (l.map fun i => 2 * g i).sum = 2 * (l.map g).sum := by
      intro l g
      induction l with
      | nil => rfl
      | cons x r ih => simp only [List.map_cons, List.sum_cons, ih]; omega
    rw [e3]
    simp
end M
theorem bits_eq (n : Nat) : Builtin.Int.intBits (n : Int) = if n = 0 then 0 else n.log2 + 1 := by
  unfold Builtin.Int.intBits
  by_cases h : n = 0
  · subst h
    rfl
  · have e : ((n : Int) == 0) = false := beq_eq_false_iff_ne.mpr (by omega)
    rw [e, if_neg h]
    rfl
theorem bits_lt (n : Nat) : n < 2 ^ Builtin.Int.intBits (n : Int) := by
  rw [bits_eq]
  split
  · rename_i h
    subst h
    decide
  · exact Nat.lt_log2_self
theorem bits_big {n : Nat} (h : (n : Int) ≤ 1000000000000000000000000000000) : Builtin.Int.intBits (n : Int) ≤ 100 := by
  rw [bits_eq]
  split
  · decide
  · rename_i h0
    have := (Nat.log2_lt h0 (k := 100)).mpr (by omega)
    omega
theorem bits_le {a b : Nat} (h : a < 2 ^ b) : Builtin.Int.intBits (a : Int) ≤ b := by
  rw [bits_eq]
  split
  · exact Nat.zero_le _
  · rename_i h0
    have := (Nat.log2_lt h0 (k := b)).mpr h
    omega
theorem pow_cast (j : Nat) : ((2 ^ j : Nat) : Int) = 2 ^ j := by simp
theorem div_pow_cast (n j : Nat) : (n : Int) / 2 ^ j = ((n / 2 ^ j : Nat) : Int) := by simp
theorem divw_pow (i : Int) {j : Nat} (h : j ≤ 1000) : CDivW i ((2 ^ j : Nat) : Int) := by
  have p : 0 < 2 ^ j := Nat.pow_pos (by decide)
  refine ⟨by omega, ?_⟩
  show (2 ^ j).log2 < 9000
  rw [Nat.log2_two_pow]
  omega
theorem cshl_nat {a j : Nat} (b : Nat) (h : a < 2 ^ b) (hb : b ≤ 1000) (hj : j ≤ 1000) : CShl (a : Int) (j : Int) := by
  refine ⟨by omega, ?_⟩
  have := bits_le h
  omega
abbrev s_is_integer : Stmt := top 5
theorem sc_is_integer : FnScope ["thing"] ["thing"] (defScope s_is_integer) := ⟨rfl, rfl, rfl, by decide +kernel, rfl, by decide +kernel, by decide +kernel⟩
def sp_is_integer : Sp := fun vs H Q _ => ∃ n : Int, vs = [.int n] ∧ Q (.bl true) H
theorem ok_is_integer (T : Txt K mg)  (F : FunD K "is_integer" "is_integer" (defArgs s_is_integer) (defBody s_is_integer) (defScope s_is_integer) [] [] f fd) : FnOk P w K mg base (L2.CX P w) 1 f fd ["thing"] sp_is_integer := by
  refine F.ok sc_is_integer (fun vs H Q E h => ?_) (fun cdv A outer s H vs Q E hr h => ?_)
  · obtain ⟨n, rfl, _⟩ := h
    rfl
  · have hu := hu_of hr
    obtain ⟨n, rfl, k⟩ := h
    refine ⟨_, (pss_one (ps_ret (pe_and (pe_callB call_isi (by rfl) T.b_isinstance (by decide +kernel) (pa_cons (pv 0) (pa_cons (pe_bltn (v := .ty "int") (by rfl) T.b_int (by decide +kernel) rfl) pa_nil))) (pe_one (pe_not (pe_callB call_isi (by rfl) T.b_isinstance (by decide +kernel) (pa_cons (pv 0) (pa_cons (pe_bltn (v := .ty "bool") (by rfl) T.b_bool (by decide +kernel) rfl) pa_nil)))))))), ?_⟩
    walk_at "rd"
    refine isi (.base (.int n)) (by decide +kernel) ⟨_, rfl, iteT (isi (b := false) (.base (.int n)) (by decide +kernel) ⟨_, rfl, k⟩)⟩
abbrev s_check_number : Stmt := top 6
theorem sc_check_number : FnScope ["thing", "least"] ["thing", "least"] (defScope s_check_number) := ⟨rfl, rfl, rfl, by decide +kernel, rfl, by decide +kernel, by decide +kernel⟩
def sp_check_number : Sp := fun vs H Q _ => ∃ n l : Int, vs = [.int n, .int l] ∧ l ≤ n ∧ n ≤ 1000000000000000000000000000000 ∧ Q .non H
theorem ok_check_number (T : Txt K mg) (D_is_integer : Df P w K mg base 1 "is_integer" ["thing"] [] sp_is_integer) (F : FunD K "check_number" "check_number" (defArgs s_check_number) (defBody s_check_number) (defScope s_check_number) [.int 0] [] f fd) : FnOk P w K mg base (L2.CX P w) 2 f fd ["thing", "least"] sp_check_number := by
  refine F.ok sc_check_number (fun vs H Q E h => ?_) (fun cdv A outer s H vs Q E hr h => ?_)
  · obtain ⟨n, l, rfl, _⟩ := h
    rfl
  · have hu := hu_of hr
    obtain ⟨n, l, rfl, h1, h2, k⟩ := h
    obtain ⟨tg, hg⟩ := T.h_GREATEST
    refine ⟨_, (pss_one (ps_if (PW.pt (pw_or (pt_not (pt_val (pe_callD D_is_integer hr (by rfl) passL (pa_cons (pv 0) pa_nil)))) (pw_or1 (pt_not (pt_chain op_le op_le (pv 1) (pv 0) (pe_glob (by rfl) hg (v := .int 1000000000000000000000000000000) ⟨_, rfl⟩)))))) (pss_one ps_never) pss_nil)), ?_⟩
    walk_at "rd"
    refine ⟨n, rfl, _, rfl, ?_⟩
    simp only [Bool.not_true, Bool.false_eq_true, if_false, ↓reduceIte, h1, h2, decide_true, V.bl.injEq, exists_eq_left', tNever]
    exact k
abbrev s_block_sizes : Stmt := top 7
theorem sc_block_sizes : FnScope ["many", "place"] ["many"] (defScope s_block_sizes) := ⟨rfl, rfl, rfl, by decide +kernel, rfl, by decide +kernel, by decide +kernel⟩
def sp_block_sizes : Sp := fun vs H Q _ => ∃ n : Nat, vs = [.int n] ∧ (n : Int) ≤ 1000000000000000000000000000000 ∧ ∀ p, H p = none → Q (.ref p) (upd H p (.lst ((M.bl n (Builtin.Int.intBits (n : Int))).map fun x => V.int (x : Nat))))
theorem ok_block_sizes (T : Txt K mg) (D_check_number_1 : Df P w K mg base 2 "check_number" ["thing", "least"] [.int 0] sp_check_number) (F : FunD K "block_sizes" "block_sizes" (defArgs s_block_sizes) (defBody s_block_sizes) (defScope s_block_sizes) [] [] f fd) : FnOk P w K mg base (L2.CX P w) 3 f fd ["many"] sp_block_sizes := by
  refine F.ok sc_block_sizes (fun vs H Q E h => ?_) (fun cdv A outer s H vs Q E hr h => ?_)
  · obtain ⟨n, rfl, _⟩ := h
    rfl
  · have hu := hu_of hr
    obtain ⟨n, rfl, h1, k⟩ := h
    refine ⟨_, (pss_cons (ps_expr (pe_callD D_check_number_1 hr (by rfl) passL (pa_cons (pv 0) pa_nil)))
      (pss_one (ps_ret (pe_lc (own := [("place", 1)]) rfl sc_block_sizes.nd (pi_range3 (by rfl) T.b_range (pa_cons (pe_op op_sub (pe_bits (pv 0)) pe_int) (pa_cons (pe_un un_neg pe_int) (pa_cons (pe_un un_neg pe_int) pa_nil)))) (blkOk_by (own := [("place", 1)]) (N := ["many", "place"]) (sc := defScope s_block_sizes) (by decide +kernel)) (fun _ _ _ _ _ => (pg_name (i := 1) sc_block_sizes.nd rfl (Or.inl rfl))) (fun _ _ _ _ _ => (pts_one (pt_cmpR op_eq (pe_op op_odd (pe_op op_shrN (pv 0) (pv 1)) pe_int) pe_int (nomark _)))) (fun _ _ _ _ _ => (pe_op op_shlW pe_int (pv 1))))))), ?_⟩
    walk_at "rd"
    refine ⟨n, 0, rfl, by omega, h1, ?_⟩
    walk_at "rd"
    have hb := bits_big h1
    generalize eb : Builtin.Int.intBits (n : Int) = b at *
    refine ⟨_, RgC.neg (i := (b : Int) - 1) (j := -1) (by omega) (by omega) (by omega) (by omega), ?_⟩
    have en : ((b : Int) - 1 - -1).toNat = b := by omega
    rw [en]
    refine lcB (itp_c _ _ _) (fun i => if n / 2 ^ (b - 1 - i) % 2 = 1 then some (V.int ((2 ^ (b - 1 - i) : Nat) : Int)) else none) (fun _ _ _ => trivial) (fun i D acc C hi hD ha hC => ?_) (fun D hD => ?_)
    · walk_at "rd"
      have ep : (b : Int) - 1 + (i : Int) * -1 = ((b - 1 - i : Nat) : Int) := by omega
      rw [ep]
      have hj : b - 1 - i ≤ 100 := by omega
      generalize b - 1 - i = j at *
      refine ⟨j, rfl, n / 2 ^ j, div_pow_cast n j, rfl, ite2 (fun h => ?_) (fun h => ?_)⟩
      · refine ⟨cshl_nat (a := 1) 1 (by decide) (by decide) (by omega), ?_⟩
        rw [Int.toNat_natCast, Int.one_mul, ← pow_cast]
        exact lcE hC (if_pos (by omega)) (Nat.lt_of_le_of_lt ha (by have : sizeLine = 16777216 := sizeLine_eq; omega))
      · exact hC.1 (if_neg (by omega))
    · have e := congrArg (List.map fun x : Nat => V.int (x : Int)) (M.bl_range n b)
      rw [List.map_filterMap] at e
      have e2 : (fun i => Option.map (fun x : Nat => V.int (x : Int)) (if n / 2 ^ (b - 1 - i) % 2 = 1 then some (2 ^ (b - 1 - i)) else none)) = fun i => if n / 2 ^ (b - 1 - i) % 2 = 1 then some (V.int ((2 ^ (b - 1 - i) : Nat) : Int)) else none := by
        funext i
        split <;> rfl
      rw [e2] at e
      rw [e]
      exact k D hD
abbrev s_total_built : Stmt := top 8
theorem sc_total_built : FnScope ["many", "place"] ["many"] (defScope s_total_built) := ⟨rfl, rfl, rfl, by decide +kernel, rfl, by decide +kernel, by decide +kernel⟩
def sp_total_built : Sp := fun vs H Q _ => ∃ n : Nat, vs = [.int n] ∧ (n : Int) ≤ 1000000000000000000000000000000 ∧ ∀ H', Same H H' → Q (.int (M.tot n : Nat)) H'
theorem ok_total_built (T : Txt K mg) (D_check_number_1 : Df P w K mg base 2 "check_number" ["thing", "least"] [.int 0] sp_check_number) (F : FunD K "total_built" "total_built" (defArgs s_total_built) (defBody s_total_built) (defScope s_total_built) [] [] f fd) : FnOk P w K mg base (L2.CX P w) 3 f fd ["many"] sp_total_built := by
  refine F.ok sc_total_built (fun vs H Q E h => ?_) (fun cdv A outer s H vs Q E hr h => ?_)
  · obtain ⟨n, rfl, _⟩ := h
    rfl
  · have hu := hu_of hr
    obtain ⟨n, rfl, h1, k⟩ := h
    refine ⟨_, (pss_cons (ps_expr (pe_callD D_check_number_1 hr (by rfl) passL (pa_cons (pv 0) pa_nil)))
      (pss_one (ps_ret (pe_callB (cr_sum rfl) (by rfl) T.b_sum (by decide +kernel) (pa_cons (pe_lc (own := [("place", 1)]) rfl sc_total_built.nd (pi_range1 (by rfl) T.b_range (pa_cons (pe_bits (pv 0)) pa_nil)) (blkOk_by (own := [("place", 1)]) (N := ["many", "place"]) (sc := defScope s_total_built) (by decide +kernel)) (fun _ _ _ _ _ => (pg_name (i := 1) sc_total_built.nd rfl (Or.inl rfl))) (fun _ _ _ _ _ => pts_nil) (fun _ _ _ _ _ => (pe_op op_shlW (pe_op op_sub (pe_op op_fdivW (pv 0) (pe_op op_shlW pe_int (pv 1))) (pe_op op_fdivW (pv 0) (pe_op op_shlW pe_int (pv 1)))) (pv 1)))) pa_nil))))), ?_⟩
    walk_at "rd"
    refine ⟨n, 0, rfl, by omega, h1, ?_⟩
    walk_at "rd"
    have hb := bits_big h1
    refine ⟨by omega, by omega, ?_⟩
    refine lcB (itp_r _ _) (fun i => some (V.int (((n / 2 ^ i - n / 2 ^ (i + 1)) * 2 ^ i : Nat) : Int))) (fun _ _ _ => trivial) (fun i D acc C hi hD ha hC => ?_) (fun D hD => ?_)
    · walk_at "rd"
      rw [Int.zero_add, Int.toNat_natCast, Int.one_mul, show (2 : Int) * 2 ^ i = ((2 ^ (i + 1) : Nat) : Int) by rw [pow_cast, Int.pow_succ, Int.mul_comm], ← pow_cast]
      have e1 : (n : Int) / ((2 ^ i : Nat) : Int) = ((n / 2 ^ i : Nat) : Int) := by simp
      have e2 : (n : Int) / ((2 ^ (i + 1) : Nat) : Int) = ((n / 2 ^ (i + 1) : Nat) : Int) := by simp
      have e3 : n / 2 ^ (i + 1) ≤ n / 2 ^ i := by
        rw [Nat.pow_succ, ← Nat.div_div_eq_div_mul]
        exact Nat.div_le_self _ _
      have e4 : n / 2 ^ i ≤ n := Nat.div_le_self _ _
      rw [e1, e2, ← Int.ofNat_sub e3, ← Int.natCast_mul]
      refine ⟨cshl_nat (a := 1) 1 (by decide) (by decide) (by omega), divw_pow _ (by omega), cshl_nat (a := 2) 2 (by decide) (by decide) (by omega), divw_pow _ (by omega), cshl_nat 100 (Nat.lt_of_le_of_lt (Nat.sub_le _ _) (Nat.lt_of_le_of_lt e4 (by omega))) (by decide) (by omega), ?_⟩
      exact lcE hC rfl (Nat.lt_of_le_of_lt ha (by have : sizeLine = 16777216 := sizeLine_eq; omega))
    · refine ⟨D, (List.range (Builtin.Int.intBits (n : Int))).map (fun i => (((n / 2 ^ i - n / 2 ^ (i + 1)) * 2 ^ i : Nat) : Int)), rfl, ?_, ?_⟩
      · rw [List.map_map]
        refine SqL.of (upd_same.trans ?_)
        rw [Int.toNat_natCast, List.filterMap_eq_map']
        rfl
      · have e : ((List.range (Builtin.Int.intBits (n : Int))).map (fun i => (((n / 2 ^ i - n / 2 ^ (i + 1)) * 2 ^ i : Nat) : Int))).sum = (M.tot n : Nat) := by
          rw [← M.tot_places _ n (bits_lt n)]
          generalize List.range _ = l
          induction l with
          | nil => rfl
          | cons x r ih => rw [List.map_cons, List.map_cons, List.sum_cons, List.sum_cons, ih, Int.natCast_add]
        rw [e]
        exact k _ (G.Same.upd hD)
abbrev s_lowest : Stmt := top 12
theorem sc_lowest : FnScope ["_law_number_here", "_law_found"] ["_law_number_here"] (defScope s_lowest) := ⟨rfl, rfl, rfl, by decide +kernel, rfl, by decide +kernel, by decide +kernel⟩
def sp_lowest : Sp := fun vs H Q _ => ∃ n : Nat, vs = [.int n] ∧ 0 < n ∧ Q (.int (M.low n : Nat)) H
theorem ok_lowest (T : Txt K mg)  (F : FunD K "_law_lowest" "_law_lowest" (defArgs s_lowest) (defBody s_lowest) (defScope s_lowest) [] [] f fd) : FnOk P w K mg base (L2.CX P w) 1 f fd ["_law_number_here"] sp_lowest := by
  refine F.ok sc_lowest (fun vs H Q E h => ?_) (fun cdv A outer s H vs Q E hr h => ?_)
  · obtain ⟨n, rfl, _⟩ := h
    rfl
  · have hu := hu_of hr
    obtain ⟨n, rfl, h1, k⟩ := h
    refine ⟨_, (pss_cons (ps_set (i := 1) sc_lowest.nd rfl (Or.inl rfl) pe_int)
      (pss_cons (ps_while (passes_of rfl) (pt_cmpR op_eq (pe_op op_mod (pv 0) (pe_op op_mul pe_int (pv 1))) pe_int (nomark _)) (pss_one (ps_set (i := 1) sc_lowest.nd rfl (Or.inl rfl) (pe_op op_mul pe_int (pv 1)))))
      (pss_one (ps_ret (pv 1))))), ?_⟩
    walk_at "rd"
    refine whileB (fun σ H' => H' = H ∧ ∃ j : Nat, σ = [some (.int n), some (.int ((2 ^ j : Nat) : Int))] ∧ n % 2 ^ j = 0 ∧ M.low n = 2 ^ j * M.low (n / 2 ^ j)) (fun σ H' => match σ with | [_, some (.int x)] => n - x.toNat | _ => 0) ⟨rfl, 0, rfl, Nat.mod_one _, by simp⟩ ?_
    rintro _ H1 ⟨rfl, j, rfl, h2, h3⟩
    have p : 0 < 2 ^ j := Nat.pow_pos (by decide)
    have e2 : (2 : Int) * ((2 ^ j : Nat) : Int) = ((2 ^ (j + 1) : Nat) : Int) := by rw [Nat.pow_succ, Int.natCast_mul, Int.mul_comm]; rfl
    have p2 : 0 < 2 ^ (j + 1) := Nat.pow_pos (by decide)
    walk_at "rd"
    rw [e2]
    have md := Nat.mod_mul (a := 2 ^ j) (b := 2) (x := n)
    rw [← Nat.pow_succ, h2, Nat.zero_add] at md
    refine ⟨.inl ⟨by decide, by decide⟩, by omega, rfl, ite2 (fun hc => whI fun N hN => ?_) (fun hc => ?_)⟩
    · walk_at "rd"
      refine ⟨.inl ⟨by decide, by decide⟩, ?_⟩
      rw [e2]
      have hc2 : n % 2 ^ (j + 1) = 0 := by omega
      have hev : n / 2 ^ j % 2 = 0 := by
        rw [hc2] at md
        rcases Nat.mul_eq_zero.mp md.symm with z | z <;> omega
      have hle := Nat.le_of_dvd h1 (Nat.dvd_of_mod_eq_zero hc2)
      have hle2 := Nat.le_of_dvd h1 (Nat.dvd_of_mod_eq_zero h2)
      have hne : n / 2 ^ j ≠ 0 := by
        have := Nat.div_pos hle2 p
        omega
      refine hN _ _ ⟨rfl, j + 1, rfl, hc2, ?_⟩ ?_
      · rw [h3, M.low_even hne hev, Nat.div_div_eq_div_mul, ← Nat.pow_succ, Nat.pow_succ, Nat.mul_assoc]
      · show n - (((2 ^ (j + 1) : Nat) : Int)).toNat < n - (((2 ^ j : Nat) : Int)).toNat
        rw [Int.toNat_natCast, Int.toNat_natCast]
        have : 2 ^ (j + 1) = 2 ^ j * 2 := Nat.pow_succ ..
        omega
    · have hodd : n / 2 ^ j % 2 = 1 := by
        rcases Nat.mod_two_eq_zero_or_one (n / 2 ^ j) with z | z
        · rw [z, Nat.mul_zero] at md
          exact absurd (by rw [← Int.natCast_emod, md]; rfl) hc
        · exact z
      rw [M.low_odd hodd, Nat.mul_one] at h3
      rw [← h3]
      exact k
abbrev s_total : Stmt := top 13
theorem sc_total : FnScope ["_law_number_here", "_law_found", "_law_factor"] ["_law_number_here"] (defScope s_total) := ⟨rfl, rfl, rfl, by decide +kernel, rfl, by decide +kernel, by decide +kernel⟩
def sp_total : Sp := fun vs H Q _ => ∃ n : Nat, vs = [.int n] ∧ (n : Int) ≤ 1000000000000000000000000000000 ∧ ∀ H', Same H H' → Q (.int (M.tot n : Nat)) H'
theorem ok_total (T : Txt K mg)  (F : FunD K "_law_total" "_law_total" (defArgs s_total) (defBody s_total) (defScope s_total) [] [] f fd) : FnOk P w K mg base (L2.CX P w) 1 f fd ["_law_number_here"] sp_total := by
  refine F.ok sc_total (fun vs H Q E h => ?_) (fun cdv A outer s H vs Q E hr h => ?_)
  · obtain ⟨n, rfl, _⟩ := h
    rfl
  · have hu := hu_of hr
    obtain ⟨n, rfl, h1, k⟩ := h
    refine ⟨_, (pss_cons (ps_asg (pe_tup (pa_cons pe_int (pa_cons pe_int pa_nil))) (pg_tup (n := 2) (by rfl) (pgs_cons (pg_name (i := 1) sc_total.nd rfl (Or.inl rfl)) (pgs_cons (pg_name (i := 2) sc_total.nd rfl (Or.inl rfl)) pgs_nil))))
      (pss_cons (ps_while (passes_of rfl) (pt_cmpR op_gt (pv 0) pe_int (nomark _)) (pss_cons (ps_set (i := 1) sc_total.nd rfl (Or.inl rfl) (pe_op op_add (pv 1) (pe_op op_mulW (pv 2) (pe_op op_sub (pv 0) (pe_op op_fdiv (pv 0) pe_int)))))
        (pss_one (ps_par (i := 0) (j := 2) (by rfl) sc_total.nd rfl rfl (by decide) rfl rfl (pa_cons (pe_op op_fdiv (pv 0) pe_int) (pa_cons (pe_op op_mul pe_int (pv 2)) pa_nil)) (by rfl)))))
      (pss_one (ps_ret (pv 1))))), ?_⟩
    walk_at "rd"
    refine ⟨by decide, fun q hq => ⟨_, SqT.of upd_same, rfl, ?_⟩⟩
    walk_at "rd"
    refine whileB (fun σ H' => H' = upd H q (.tup [.int 0, .int 1]) ∧ ∃ m c t : Nat, σ = [some (.int m), some (.int t), some (.int c)] ∧ c * m ≤ n ∧ 0 < c ∧ M.tot n = t + c * M.tot m) (fun σ H' => match σ with | [some (.int x), _, _] => x.toNat | _ => 0) ⟨rfl, n, 1, 0, rfl, by omega, by omega, by omega⟩ ?_
    rintro _ _ ⟨rfl, m, c, t, rfl, h2, h3, h4⟩
    walk_at "rd"
    refine ite2 (fun hc => whI fun N hN => ?_) (fun hc => ?_)
    · walk_at "rd"
      have hm : 0 < m := by omega
      have hc1 : c ≤ n := Nat.le_trans (Nat.le_mul_of_pos_right c hm) h2
      have hm1 : m ≤ n := Nat.le_trans (Nat.le_mul_of_pos_left m h3) h2
      refine ⟨⟨by decide, by decide⟩, wide_mul (a := 100) (b := 100) (by omega) (by omega) (by decide) (by decide) (by decide), ⟨by decide, by decide⟩, .inl ⟨by decide, by decide⟩, ?_⟩
      have e1 : (m : Int) - (m : Int) / 2 = ((m - m / 2 : Nat) : Int) := by omega
      have e2 : (m : Int) / 2 = ((m / 2 : Nat) : Int) := by omega
      have e3 : (2 : Int) * (c : Int) = ((2 * c : Nat) : Int) := by omega
      rw [e1, e2, e3, ← Int.natCast_mul, ← Int.natCast_add]
      refine hN _ _ ⟨rfl, m / 2, 2 * c, t + c * (m - m / 2), rfl, ?_, by omega, ?_⟩ ?_
      · have : 2 * c * (m / 2) ≤ c * m := by
          rw [Nat.mul_comm 2 c, Nat.mul_assoc]
          exact Nat.mul_le_mul_left _ (by omega)
        omega
      · rw [h4, M.tot_pos m, Nat.mul_add, Nat.mul_comm 2 c, Nat.mul_assoc]
        omega
      · show (((m / 2 : Nat) : Int)).toNat < ((m : Int)).toNat
        omega
    · have hm : m = 0 := by omega
      subst hm
      rw [M.tot_zero, Nat.mul_zero, Nat.add_zero] at h4
      rw [← h4]
      exact k _ (G.Same.upd hq)
abbrev s_sizes_right : Stmt := top 14
theorem sc_sizes_right : FnScope ["_law_number_here", "_law_sizes", "_law_k", "_law_due"] ["_law_number_here"] (defScope s_sizes_right) := ⟨rfl, rfl, rfl, by decide +kernel, rfl, by decide +kernel, by decide +kernel⟩
def sp_sizes_right : Sp := fun vs H Q _ => ∃ n : Nat, vs = [.int n] ∧ (n : Int) ≤ 1000000000000000000000000000000 ∧ ∀ H', Same H H' → Q (.bl true) H'
theorem ok_sizes_right (T : Txt K mg) (D_block_sizes : Df P w K mg base 3 "block_sizes" ["many"] [] sp_block_sizes) (D_block_sizes_0_many : DfK P w K mg base 3 "block_sizes" ["many"] 0 ["many"] (fun vs zs => vs ++ zs) sp_block_sizes) (D_lowest : Df P w K mg base 1 "_law_lowest" ["_law_number_here"] [] sp_lowest) (F : FunD K "_law_sizes_right" "_law_sizes_right" (defArgs s_sizes_right) (defBody s_sizes_right) (defScope s_sizes_right) [] [] f fd) : FnOk P w K mg base (L2.CX P w) 4 f fd ["_law_number_here"] sp_sizes_right := by
  refine F.ok sc_sizes_right (fun vs H Q E h => ?_) (fun cdv A outer s H vs Q E hr h => ?_)
  · obtain ⟨n, rfl, _⟩ := h
    rfl
  · have hu := hu_of hr
    obtain ⟨n, rfl, h1, k⟩ := h
    refine ⟨_, (pss_cons (ps_set (i := 1) sc_sizes_right.nd rfl (Or.inl rfl) (pe_callD D_block_sizes hr (by rfl) passL (pa_cons (pv 0) pa_nil)))
      (pss_cons (ps_if (PW.pt (pw_or (pt_not (pt_val (pe_callB call_isi (by rfl) T.b_isinstance (by decide +kernel) (pa_cons (pv 1) (pa_cons (pe_bltn (v := .ty "list") (by rfl) T.b_list (by decide +kernel) rfl) pa_nil))))) (pw_or1 (pt_cmpR op_ne (pe_callB (cr_sum rfl) (by rfl) T.b_sum (by decide +kernel) (pa_cons (pv 1) pa_nil)) (pv 0) (nomark _))))) (pss_one (ps_ret pe_bl)) pss_nil)
      (pss_cons (ps_for (passes_of rfl) rfl (pi_range1 (by rfl) T.b_range (pa_cons (pe_callB call_len (by rfl) T.b_len (by decide +kernel) (pa_cons (pv 1) pa_nil)) pa_nil)) (pg_name (i := 2) sc_sizes_right.nd rfl (Or.inl rfl)) (pss_cons (ps_if (PW.pt (pw_or (pt_not (pt_val (pe_callB call_isi (by rfl) T.b_isinstance (by decide +kernel) (pa_cons (pe_ix ix_list (pv 1) (pv 2) (fun _ _ => rfl)) (pa_cons (pe_bltn (v := .ty "int") (by rfl) T.b_int (by decide +kernel) rfl) pa_nil))))) (pw_or (pt_val (pe_callB call_isi (by rfl) T.b_isinstance (by decide +kernel) (pa_cons (pe_ix ix_list (pv 1) (pv 2) (fun _ _ => rfl)) (pa_cons (pe_bltn (v := .ty "bool") (by rfl) T.b_bool (by decide +kernel) rfl) pa_nil)))) (pw_or1 (pt_cmpR op_lt (pe_ix ix_list (pv 1) (pv 2) (fun _ _ => rfl)) pe_int (nomark _)))))) (pss_one (ps_ret pe_bl)) pss_nil)
        (pss_cons (ps_if (pt_cmpR op_ne (pe_callD D_lowest hr (by rfl) passL (pa_cons (pe_ix ix_list (pv 1) (pv 2) (fun _ _ => rfl)) pa_nil)) (pe_ix ix_list (pv 1) (pv 2) (fun _ _ => rfl)) (nomark _)) (pss_one (ps_ret pe_bl)) pss_nil)
        (pss_one (ps_if (PW.pt (pw_and (pt_cmpR op_gt (pv 2) pe_int (nomark _)) (pw_and1 (pt_cmpR op_ge (pe_ix ix_list (pv 1) (pv 2) (fun _ _ => rfl)) (pe_ix ix_list (pv 1) (pe_op op_sub (pv 2) pe_int) (fun _ _ => rfl)) (nomark _))))) (pss_one (ps_ret pe_bl)) pss_nil)))))
      (pss_cons (ps_set (i := 3) sc_sizes_right.nd rfl (Or.inl rfl) (pe_callTy call_list_of (by rfl) T.b_list (by decide +kernel) (pa_cons (pv 1) pa_nil)))
      (pss_cons (ps_expr (pe_bm PySem.F.plainAttrs_list PySem.F.slot_list_append PySem.F.type_list_append mt_append (pv 1) (pa_cons pe_int pa_nil)))
      (pss_one (ps_ret (pe_cmpR (op_eqD hr.units) (pe_callK0D D_block_sizes_0_many hr (by rfl) passL (pk_cons (pv 0) pk_nil)) (pv 3) (nomark _))))))))), ?_⟩
    walk_at "rd"
    refine ⟨n, rfl, h1, fun p hp => ?_⟩
    refine isi (b := true) (.base (.lst upd_same)) (by decide +kernel) ?_
    walk_at "rd"
    have hb := bits_big h1
    generalize eb : Builtin.Int.intBits (n : Int) = b at *
    have eL : (M.bl n b).map (fun x => V.int ((x : Nat) : Int)) = ((M.bl n b).map (fun x : Nat => (x : Int))).map V.int := by rw [List.map_map]; rfl
    refine ⟨p, (M.bl n b).map (fun x : Nat => (x : Int)), rfl, SqL.of (upd_same.trans (by rw [eL])), rfl, ?_⟩
    have es : ((M.bl n b).map (fun x : Nat => (x : Int))).sum = (n : Int) := by
      have e1 : ∀ l : List Nat, (l.map (fun x : Nat => (x : Int))).sum = ((l.sum : Nat) : Int) := fun l => by
        induction l with
        | nil => rfl
        | cons x r ih => rw [List.map_cons, List.sum_cons, List.sum_cons, ih, Int.natCast_add]
      rw [e1, M.bl_sum, Nat.mod_eq_of_lt (by rw [← eb]; exact bits_lt n)]
    rw [es]
    have hlen := M.bl_len n b
    have hcell : ∀ i, i < (M.bl n b).length → ∃ j, ((M.bl n b).map (fun x => V.int ((x : Nat) : Int)))[i]? = some (.int ((2 ^ j : Nat) : Int)) ∧ (M.bl n b)[i]? = some (2 ^ j) := fun i hi => by
      obtain ⟨j, _, e⟩ := M.bl_pow n b _ (List.getElem_mem hi)
      have e2 : (M.bl n b)[i]? = some (2 ^ j) := by rw [List.getElem?_eq_getElem hi, e]
      exact ⟨j, by rw [List.getElem?_map, e2]; rfl, e2⟩
    refine iteNS rfl ⟨_, len_of (SqL.of upd_same), by omega, by rw [List.length_map]; omega, ?_⟩
    rw [List.length_map, Int.toNat_natCast]
    refine forB (itp_r _ _) (fun i σ H' => H' = upd H p (.lst ((M.bl n b).map fun x => V.int ((x : Nat) : Int))) ∧ ∃ v, σ = [some (.int n), some (.ref p), v, none]) ⟨rfl, none, rfl⟩ (fun _ _ _ _ _ => trivial) ?_ ?_
    · rintro i _ _ N hi ⟨rfl, v, rfl⟩ hN
      obtain ⟨j, e1, e2⟩ := hcell i hi
      have pj : 0 < 2 ^ j := Nat.pow_pos (by decide)
      have ix : ∃ xs, SqL K (upd H p (.lst ((M.bl n b).map fun x => V.int ((x : Nat) : Int)))) p xs ∧ atI xs (0 + (i : Int)) = some (.int ((2 ^ j : Nat) : Int)) := ⟨_, SqL.of upd_same, by rw [Int.zero_add]; exact atI_nat e1⟩
      obtain ⟨xs, hx1, hx2⟩ := ix
      walk_at "rd"
      refine ⟨xs, hx1, _, hx2, isi (b := true) (.base (.int _)) (by decide +kernel) ⟨_, rfl, ?_⟩⟩
      walk_at "rd"
      refine ⟨xs, hx1, _, hx2, isi (b := false) (.base (.int _)) (by decide +kernel) ⟨_, rfl, ?_⟩⟩
      walk_at "rd"
      refine ⟨xs, hx1, _, hx2, _, rfl, ?_⟩
      rw [if_neg (by omega)]
      refine ⟨xs, hx1, _, hx2, 2 ^ j, rfl, pj, xs, hx1, _, hx2, rfl, ?_⟩
      rw [M.low_pow]
      refine iteNS rfl ?_
      have fin : N [some (V.int n), some (V.ref p), some (V.int (0 + (i : Int))), none] (upd H p (.lst ((M.bl n b).map fun x => V.int ((x : Nat) : Int)))) := hN _ _ ⟨rfl, _, rfl⟩
      refine ite2 (fun h0 => ?_) (fun _ => fin)
      obtain ⟨j', e1', e2'⟩ := hcell (i - 1) (by omega)
      refine ⟨xs, hx1, _, hx2, _, SqL.of upd_same, .int ((2 ^ j' : Nat) : Int), ?_, _, rfl, _, rfl, ?_⟩
      · have : (0 : Int) + (i : Int) - 1 = ((i - 1 : Nat) : Int) := by omega
        rw [this]
        exact atI_nat e1'
      · have hd := List.pairwise_iff_getElem.mp (M.bl_desc n b) (i - 1) i (by omega) hi (by omega)
        have q1 := (List.getElem?_eq_some_iff.mp e2).2
        have q2 := (List.getElem?_eq_some_iff.mp e2').2
        rw [q1, q2] at hd
        rw [if_neg (by omega)]
        exact fin
    · rintro _ _ ⟨rfl, v, rfl⟩
      walk_at "rd"
      refine ⟨_, Or.inl (SqL.of upd_same), fun l hl => ⟨?_, ?_⟩⟩
      · exact tyL (xs := (M.bl n b).map fun x => V.int ((x : Nat) : Int)) ((upd_ne (ne_of_none upd_same hl)).trans upd_same)
      · have npl : p ≠ l := ne_of_none upd_same hl
        refine ⟨_, (upd_ne npl).trans upd_same, ?_, n, rfl, h1, fun r hr => ?_⟩
        · rw [List.length_map, show sizeLine = 16777216 from sizeLine_eq]
          omega
        · rw [eb]
          have nlr : l ≠ r := ne_of_none ((upd_ne npl.symm).trans upd_same) hr
          refine eqD_same (d := .list (((M.bl n b).map (fun x : Nat => (x : Int))).map PyData.int)) ?_ ?_ (PySem.W.shaped_ints _) (k _ ?_)
          · refine .lst (SqL.of upd_same) ?_
            rw [eL]
            exact dp_ints _
          · refine .lst (xs := ((M.bl n b).map (fun x : Nat => (x : Int))).map V.int) (SqL.of ?_) (dp_ints _)
            rw [upd_ne nlr, upd_ne npl.symm, upd_same, eL]
          · intro q o e
            have n1 : q ≠ p := ne_of_none e hp
            have n2 : q ≠ l := ne_of_none ((upd_ne n1).trans e) hl
            have n3 : q ≠ r := ne_of_none (H := upd (upd (upd H p _) l _) p _) (((upd_ne n1).trans ((upd_ne n2).trans ((upd_ne n1).trans e)))) hr
            rw [upd_ne n3, upd_ne n1, upd_ne n2, upd_ne n1]
            exact e
abbrev s_number : Stmt := top 15
theorem sc_number : FnScope ["_law_bag_here", "_law_power", "_law_some"] ["_law_bag_here"] (defScope s_number) := ⟨rfl, rfl, rfl, by decide +kernel, rfl, by decide +kernel, by decide +kernel⟩
def sp_number : Sp := fun vs H Q _ => ∃ (b : Addr) (g s c : Int), vs = [.ref b] ∧ H b = some (.lst [.int g, .int s, .int c]) ∧
  ∀ (r : Nat) (H' : Hp) (g s c : Int), (r : Int) ≤ 1000000000000000000000000000000 → (∀ q o, q ≠ b → H q = some o → H' q = some o) → H' b = some (.lst [.int g, .int s, .int c]) → Q (.int r) H'
theorem ok_number (T : Txt K mg) (D_take : Df P w K mg base 1 "_law_take" ["_law_bag_here", "_law_count"] [] sp_take) (F : FunD K "_law_number" "_law_number" (defArgs s_number) (defBody s_number) (defScope s_number) [] [] f fd) : FnOk P w K mg base (L2.CX P w) 2 f fd ["_law_bag_here"] sp_number := by
  refine F.ok sc_number (fun vs H Q E h => ?_) (fun cdv A outer s H vs Q E hr h => ?_)
  · obtain ⟨b, g, s, c, rfl, _⟩ := h
    rfl
  · have hu := hu_of hr
    obtain ⟨b, g, s', c, rfl, hb, k⟩ := h
    refine ⟨_, (pss_cons (ps_set (i := 1) sc_number.nd rfl (Or.inl rfl) (pe_op op_shlW pe_int (pe_callD D_take hr (by rfl) passL (pa_cons (pv 0) (pa_cons pe_int pa_nil)))))
      (pss_cons (ps_set (i := 2) sc_number.nd rfl (Or.inl rfl) (pe_lst (pa_cons (pe_callD D_take hr (by rfl) passL (pa_cons (pv 0) (pa_cons pe_int pa_nil))) (pa_cons (pe_callD D_take hr (by rfl) passL (pa_cons (pv 0) (pa_cons (pe_op op_pow pe_int pe_int) pa_nil))) (pa_cons (pv 1) (pa_cons (pe_op op_sub (pv 1) pe_int) (pa_cons (pe_op op_add (pv 1) pe_int) (pa_cons (pe_op op_pow pe_int pe_int) pa_nil))))))))
      (pss_one (ps_ret (pe_ix ix_list (pv 2) (pe_callD D_take hr (by rfl) passL (pa_cons (pv 0) (pa_cons pe_int pa_nil))) (fun _ _ => rfl)))))), ?_⟩
    walk_at "rd"
    refine ⟨b, _, _, _, _, rfl, hb, by decide, by decide, fun r1 g1 s1 c1 l1 u1 => ⟨_, rfl, ?_⟩⟩
    obtain ⟨j, rfl⟩ := Int.eq_ofNat_of_zero_le l1
    have pj : 2 ^ j ≤ 2 ^ 98 := Nat.pow_le_pow_right (by decide) (by omega)
    have pj0 : 0 < 2 ^ j := Nat.pow_pos (by decide)
    refine ⟨cshl_nat (a := 1) 1 (by decide) (by decide) (by omega), b, _, _, _, _, rfl, upd_same, by decide, by decide, fun r2 g2 s2 c2 l2 u2 => ⟨⟨by decide, by decide, by decide⟩, ?_⟩⟩
    rw [upd_upd, Int.one_mul, Int.toNat_natCast, ← pow_cast]
    refine ⟨b, _, _, _, _, rfl, upd_same, by decide, by decide, fun r3 g3 s3 c3 l3 u3 => ⟨⟨by decide, by decide, by decide⟩, by decide, fun p hp => ?_⟩⟩
    rw [upd_upd] at hp ⊢
    have hbp : b ≠ p := ne_of_none upd_same hp
    refine ⟨b, _, _, _, _, rfl, (upd_ne hbp).trans upd_same, by decide, by decide, fun r4 g4 s4 c4 l4 u4 => ⟨_, _, rfl, SqL.of ((upd_ne hbp.symm).trans upd_same), ?_⟩⟩
    have fin : ∀ r : Nat, (r : Int) ≤ 1000000000000000000000000000000 → Q (.int r) (upd (upd (upd H b (.lst [.int g3, .int s3, .int c3])) p (.lst [.int r2, .int r3, .int ((2 ^ j : Nat) : Int), .int (((2 ^ j : Nat) : Int) - 1), .int (((2 ^ j : Nat) : Int) + 1), .int ((10 : Int) ^ (30 : Int).toNat)])) b (.lst [.int g4, .int s4, .int c4])) := fun r hr => by
      refine k r _ g4 s4 c4 hr (fun q o hq e => ?_) upd_same
      rw [upd_ne hq, upd_ne, upd_ne hq]
      · exact e
      · rintro rfl
        rw [upd_ne hq] at hp
        rw [hp] at e
        cases e
    have hv : ∀ v : Int, 0 ≤ v → v ≤ 1000000000000000000000000000000 → Q (.int v) _ := fun v h0 h9 => by
      obtain ⟨r, rfl⟩ := Int.eq_ofNat_of_zero_le h0
      exact fin r h9
    have h6 : r4 = 0 ∨ r4 = 1 ∨ r4 = 2 ∨ r4 = 3 ∨ r4 = 4 ∨ r4 = 5 := by omega
    have e10 : (10 : Int) ^ (30 : Int).toNat = 1000000000000000000000000000000 := by decide
    have u3' := Int.le_of_lt (Int.lt_of_lt_of_le u3 (Int.le_of_eq e10))
    rcases h6 with e | e | e | e | e | e <;> subst e <;> refine ⟨_, rfl, hv _ ?_ ?_⟩
    all_goals first | omega | exact u3' | decide
abbrev s_law : Stmt := top 16
theorem sc_law : FnScope ["_law_script", "_law_k", "_law_bag_here", "_law_number_here", "_law_small", "_law_one", "_law_told"] ["_law_script"] (defScope s_law) := ⟨rfl, rfl, rfl, by decide +kernel, rfl, by decide +kernel, by decide +kernel⟩
def sp_law (K : PySem.W.Frag) : Sp := fun vs H Q _ => ∃ (a : Addr) (ns : List Int), vs = [.ref a] ∧ SqL K H a (ns.map V.int) ∧ ns.length ≤ 63 ∧ (∀ z ∈ ns, Builtin.Int.intBits z ≤ 1048576) ∧ ∀ H', Q (.bl true) H'
theorem ok_law (T : Txt K mg) (D_bag : Df P w K mg base 1 "_law_bag" ["_law_script", "_law_at"] [] (sp_bag K)) (D_lowest : Df P w K mg base 1 "_law_lowest" ["_law_number_here"] [] sp_lowest) (D_number : Df P w K mg base 2 "_law_number" ["_law_bag_here"] [] sp_number) (D_sizes_right : Df P w K mg base 4 "_law_sizes_right" ["_law_number_here"] [] sp_sizes_right) (D_take : Df P w K mg base 1 "_law_take" ["_law_bag_here", "_law_count"] [] sp_take) (D_total : Df P w K mg base 1 "_law_total" ["_law_number_here"] [] sp_total) (D_total_built : Df P w K mg base 3 "total_built" ["many"] [] sp_total_built) (D_total_built_0_many : DfK P w K mg base 3 "total_built" ["many"] 0 ["many"] (fun vs zs => vs ++ zs) sp_total_built) (F : FunD K "law" "law" (defArgs s_law) (defBody s_law) (defScope s_law) [] [] f fd) : FnOk P w K mg base (L2.CX P w) 5 f fd ["_law_script"] (sp_law K) := by
  refine F.ok sc_law (fun vs H Q E h => ?_) (fun cdv A outer s H vs Q E hr h => ?_)
  · obtain ⟨a, ns, rfl, _⟩ := h
    rfl
  · have hu := hu_of hr
    obtain ⟨a, ns, rfl, hS, hl, _, k⟩ := h
    refine ⟨_, (pss_cons (ps_for (passes_of rfl) rfl (pi_range1 (by rfl) T.b_range (pa_cons (pe_op op_add pe_int (pe_callB (call_min2 rfl) (by rfl) T.b_min (by decide +kernel) (pa_cons pe_int (pa_cons (pe_callB call_len (by rfl) T.b_len (by decide +kernel) (pa_cons (pv 0) pa_nil)) pa_nil)))) pa_nil)) (pg_name (i := 1) sc_law.nd rfl (Or.inl rfl)) (pss_cons (ps_set (i := 2) sc_law.nd rfl (Or.inl rfl) (pe_callD D_bag hr (by rfl) passL (pa_cons (pv 0) (pa_cons (pv 1) pa_nil))))
        (pss_cons (ps_par (i := 3) (j := 4) (by rfl) sc_law.nd rfl rfl (by decide) rfl rfl (pa_cons (pe_callD D_number hr (by rfl) passL (pa_cons (pv 2) pa_nil)) (pa_cons (pe_callD D_take hr (by rfl) passL (pa_cons (pv 2) (pa_cons pe_int pa_nil))) pa_nil)) (by rfl))
        (pss_cons (ps_for (passes_of rfl) rfl (pi_list (pe_lst (pa_cons (pv 3) (pa_cons (pv 4) (pa_cons pe_int pa_nil))))) (pg_name (i := 5) sc_law.nd rfl (Or.inl rfl)) (pss_cons (ps_set (i := 6) sc_law.nd rfl (Or.inl rfl) (pe_callD D_total_built hr (by rfl) passL (pa_cons (pv 5) pa_nil)))
          (pss_one (ps_if (PW.pt (pw_or (pt_not (pt_val (pe_callD D_sizes_right hr (by rfl) passL (pa_cons (pv 5) pa_nil)))) (pw_or (pt_cmpR op_ne (pv 6) (pe_callD D_total hr (by rfl) passL (pa_cons (pv 5) pa_nil)) (nomark _)) (pw_or1 (pt_val (pe_callB call_isi (by rfl) T.b_isinstance (by decide +kernel) (pa_cons (pv 6) (pa_cons (pe_bltn (v := .ty "bool") (by rfl) T.b_bool (by decide +kernel) rfl) pa_nil)))))))) (pss_one (ps_ret pe_bl)) pss_nil))))
        (pss_one (ps_if (pt_cmpR op_ne (pe_callK0D D_total_built_0_many hr (by rfl) passL (pk_cons (pv 4) pk_nil)) (pe_callB (cr_sum rfl) (by rfl) T.b_sum (by decide +kernel) (pa_cons (pe_lc (own := [("_law_one", 5)]) rfl sc_law.nd (pi_range2 (by rfl) T.b_range (pa_cons pe_int (pa_cons (pe_op op_add (pv 4) pe_int) pa_nil))) (blkOk_by (own := [("_law_one", 5)]) (N := ["_law_script", "_law_k", "_law_bag_here", "_law_number_here", "_law_small", "_law_one", "_law_told"]) (sc := defScope s_law) (by decide +kernel)) (fun _ _ _ _ _ => (pg_name (i := 5) sc_law.nd rfl (Or.inl rfl))) (fun _ _ _ _ _ => pts_nil) (fun _ _ _ _ _ => (pe_callD D_lowest hr (by rfl) passL (pa_cons (pv 5) pa_nil)))) pa_nil)) (nomark _)) (pss_one (ps_ret pe_bl)) pss_nil))))))
      (pss_one (ps_ret pe_bl))), ?_⟩
    walk_at "rd"
    refine ⟨_, len_of hS, ?_⟩
    rw [List.length_map]
    generalize en : (1 + if (ns.length : Int) < 5 then (ns.length : Int) else 5) = m
    have hm : 0 ≤ m ∧ m ≤ 6 := by rw [← en]; split <;> omega
    refine ⟨by omega, by omega, ?_⟩
    refine forB (itp_r _ _) (fun i σ H' => Same H H' ∧ ∃ v1 v2 v3 v4 v5 v6, σ = [some (.ref a), v1, v2, v3, v4, v5, v6]) ⟨Same.refl _, none, none, none, none, none, none, rfl⟩ (fun _ _ _ _ _ => trivial) ?_ (fun _ H' _ => by walk_at "rd"; exact k H')
    rintro i _ H1 N hi ⟨S1, v1, v2, v3, v4, v5, v6, rfl⟩ hN
    walk_at "rd"
    refine ⟨a, ns, _, rfl, S1.seq hS, hl, by omega, by omega, fun b H2 g s2 S2 hb2 hb => ?_⟩
    walk_at "rd"
    refine ⟨b, _, _, _, rfl, hb, fun r H3 g3 s3 c3 hr3 S3 hb3 => ?_⟩
    refine ⟨b, _, _, _, _, rfl, hb3, by decide, by decide, fun r4 g4 s4 c4 l4 u4 => ?_⟩
    obtain ⟨m4, rfl⟩ := Int.eq_ofNat_of_zero_le l4
    walk_at "rd"
    have S4 : Same H1 (upd H3 b (.lst [.int g4, .int s4, .int c4])) := fun q o e => by
      have nq : q ≠ b := ne_of_none e hb2
      rw [upd_ne nq]
      exact S3 q o nq (S2 q o e)
    generalize upd H3 b (.lst [.int g4, .int s4, .int c4]) = H4 at S4 ⊢
    refine ⟨by decide, fun p hp => ⟨⟨_, SqL.of upd_same⟩, ?_⟩⟩
    refine forB (itp_l K p [.int (r : Int), .int (m4 : Int), .int 0]) (fun i' σ H' => Same (upd H4 p (.lst [.int r, .int m4, .int 0])) H' ∧ ∃ v5 v6, σ = [some (.ref a), some (.int (0 + (i : Int))), some (.ref b), some (.int r), some (.int m4), v5, v6]) ⟨Same.refl _, v5, v6, rfl⟩ (fun i' σ H' _ h => h.1.seq (SqL.of upd_same)) ?_ ?_
    · rintro i' _ H5 N2 hi' ⟨S5, v5', v6', rfl⟩ hN2
      have hx : ∃ x : Nat, [V.int (r : Int), .int (m4 : Int), .int 0].getD i' .non = .int (x : Int) ∧ (x : Int) ≤ 1000000000000000000000000000000 := by
        have h3 : i' = 0 ∨ i' = 1 ∨ i' = 2 := by simp at hi'; omega
        rcases h3 with e | e | e <;> subst e
        · exact ⟨r, rfl, hr3⟩
        · exact ⟨m4, rfl, by omega⟩
        · exact ⟨0, rfl, by decide⟩
      obtain ⟨x, ex, hx⟩ := hx
      rw [ex]
      walk_at "rd"
      refine ⟨x, rfl, hx, fun H6 S6 => ?_⟩
      refine ⟨x, rfl, hx, fun H7 S7 => ⟨_, rfl, ?_⟩⟩
      walk_at "rd"
      refine ⟨x, rfl, hx, fun H8 S8 => ⟨rfl, iteNS rfl ?_⟩⟩
      refine isi (b := false) (.base (.int _)) (by decide +kernel) ⟨_, rfl, ?_⟩
      walk_at "rd"
      exact hN2 _ _ ⟨((S5.trans S6).trans S7).trans S8, _, _, rfl⟩
    · rintro _ H5 ⟨S5, v5', v6', rfl⟩
      walk_at "rd"
      refine ⟨m4, rfl, by omega, fun H6 S6 => ⟨by decide, by decide, by omega, by omega, ?_⟩⟩
      have e1 : ((m4 : Int) + 1 - 1).toNat = m4 := by omega
      rw [e1]
      refine lcB (itp_r _ _) (fun i => some (.int ((M.low (1 + i) : Nat) : Int))) (fun _ _ _ => trivial) (fun i' D acc C hi' hD ha hC => ?_) (fun D hD => ?_)
      · walk_at "rd"
        refine ⟨1 + i', by rw [show (1 : Int) + (i' : Int) = ((1 + i' : Nat) : Int) by omega], by omega, ?_⟩
        exact lcE hC rfl (Nat.lt_of_le_of_lt ha (by have : sizeLine = 16777216 := sizeLine_eq; omega))
      · refine ⟨D, (List.range m4).map (fun i => ((M.low (1 + i) : Nat) : Int)), rfl, SqL.of (upd_same.trans ?_), ?_⟩
        · rw [List.map_map, List.filterMap_eq_map']
          rfl
        · have e : ((List.range m4).map (fun i => ((M.low (1 + i) : Nat) : Int))).sum = ((M.tot m4 : Nat) : Int) := by
            rw [← M.tot_low m4]
            generalize List.range m4 = l
            induction l with
            | nil => rfl
            | cons x r ih => rw [List.map_cons, List.map_cons, List.sum_cons, List.sum_cons, ih, Int.natCast_add]
          rw [e]
          refine ⟨rfl, iteNS rfl (hN _ _ ⟨?_, _, _, _, _, _, _, rfl⟩)⟩
          exact (((S1.trans S4).trans ((G.Same.upd hp).trans S5)).trans S6).trans (G.Same.upd hD)
def d_bag : He.DefD := ⟨("_law_bag", none), "_law_bag", "_law_bag", defArgs s_bag, defBody s_bag, defScope s_bag, [], []⟩
def d_take : He.DefD := ⟨("_law_take", none), "_law_take", "_law_take", defArgs s_take, defBody s_take, defScope s_take, [], []⟩
def d_is_integer : He.DefD := ⟨("is_integer", none), "is_integer", "is_integer", defArgs s_is_integer, defBody s_is_integer, defScope s_is_integer, [], []⟩
def d_check_number : He.DefD := ⟨("check_number", none), "check_number", "check_number", defArgs s_check_number, defBody s_check_number, defScope s_check_number, [.int 0], []⟩
def d_block_sizes : He.DefD := ⟨("block_sizes", none), "block_sizes", "block_sizes", defArgs s_block_sizes, defBody s_block_sizes, defScope s_block_sizes, [], []⟩
def d_total_built : He.DefD := ⟨("total_built", none), "total_built", "total_built", defArgs s_total_built, defBody s_total_built, defScope s_total_built, [], []⟩
def d_lowest : He.DefD := ⟨("_law_lowest", none), "_law_lowest", "_law_lowest", defArgs s_lowest, defBody s_lowest, defScope s_lowest, [], []⟩
def d_total : He.DefD := ⟨("_law_total", none), "_law_total", "_law_total", defArgs s_total, defBody s_total, defScope s_total, [], []⟩
def d_sizes_right : He.DefD := ⟨("_law_sizes_right", none), "_law_sizes_right", "_law_sizes_right", defArgs s_sizes_right, defBody s_sizes_right, defScope s_sizes_right, [], []⟩
def d_number : He.DefD := ⟨("_law_number", none), "_law_number", "_law_number", defArgs s_number, defBody s_number, defScope s_number, [], []⟩
def d_law : He.DefD := ⟨("law", none), "law", "law", defArgs s_law, defBody s_law, defScope s_law, [], []⟩
def fn : List He.DefD := [d_bag, d_take, d_is_integer, d_check_number, d_block_sizes, d_total_built, d_lowest, d_total, d_sizes_right, d_number, d_law]
def fa : List Fx := [fFree "ValueError", fFree "abs", fFree "bool", fFree "int", fFree "isinstance", fFree "len", fFree "list", fFree "min", fFree "range", fFree "sum", fInt "GREATEST" 1000000000000000000000000000000, fGlo "_law_bag", fGlo "_law_take", fGlo "is_integer", fGlo "check_number", fGlo "block_sizes", fGlo "total_built", fGlo "_law_lowest", fGlo "_law_total", fGlo "_law_sizes_right", fGlo "_law_number", fGlo "law"]
abbrev R : PySem.W.OpenRow := PySem.W.OpenLaw.row PySem.Challenge.rw_oncebuilt_k02_block_sizes_and_sums
abbrev hk : PySem.W.Hook := hookX 6 fa fn
def ob (s : PySem.W.SharedT) : He.AlD := obsXG 6 fa fn (HandSHeadRun.getT s)
theorem ob_eq (s : PySem.W.SharedT) : ob s = hk.obs s.abs := obsXG_eq (HandSHeadRun.getT_eq s)
def loose : List Str := (["OnceError", "BadNumber", "GREATEST", "is_integer", "check_number", "block_sizes", "total_built", "_law_bag", "_law_take", "_law_lowest", "_law_total", "_law_sizes_right", "_law_number"] : List Str)
theorem run (w : World) : HandSHeadRun.RunEq R (PySem.W.view R.prog [16]) hk ob 20000 loose w := by
  intro os
  kernel_rfl
theorem facts {P : Program} {w : World} {K : PySem.W.Frag} {h : Heap} {mg : Str → Option Value} {f : Addr} (X : K.In h) (G : h.Ns mainGlobals mg) (hfa : mg ("law" : Str) = some (.ref f)) (c : SaysX fa fn K) :
    ∃ fd : FuncData, (∀ (s : Shared) (v : Value), BindsTo s fd ⟨[v], []⟩ [("_law_script", v)]) ∧ ∀ base : Heap, K.In base → base.Ns mainGlobals mg → FnOk P w K mg base (L2.CX P w) 5 f fd ["_law_script"] (sp_law K) := by
  obtain ⟨fd_bag, F_bag⟩ := c.def_ 0 (d := d_bag) rfl
  obtain ⟨fd_take, F_take⟩ := c.def_ 1 (d := d_take) rfl
  obtain ⟨fd_is_integer, F_is_integer⟩ := c.def_ 2 (d := d_is_integer) rfl
  obtain ⟨fd_check_number, F_check_number⟩ := c.def_ 3 (d := d_check_number) rfl
  obtain ⟨fd_block_sizes, F_block_sizes⟩ := c.def_ 4 (d := d_block_sizes) rfl
  obtain ⟨fd_total_built, F_total_built⟩ := c.def_ 5 (d := d_total_built) rfl
  obtain ⟨fd_lowest, F_lowest⟩ := c.def_ 6 (d := d_lowest) rfl
  obtain ⟨fd_total, F_total⟩ := c.def_ 7 (d := d_total) rfl
  obtain ⟨fd_sizes_right, F_sizes_right⟩ := c.def_ 8 (d := d_sizes_right) rfl
  obtain ⟨fd_number, F_number⟩ := c.def_ 9 (d := d_number) rfl
  obtain ⟨fd_law, F_law⟩ := c.def_ 10 (d := d_law) rfl
  have e := hfa.symm.trans (He.glo_ok X G (c.fact 21 (f := fGlo "law") rfl))
  cases e
  have T : Txt K mg := ⟨(He.free_ok X G (c.fact 0)), (He.free_ok X G (c.fact 1)), (He.free_ok X G (c.fact 2)), (He.free_ok X G (c.fact 3)), (He.free_ok X G (c.fact 4)), (He.free_ok X G (c.fact 5)), (He.free_ok X G (c.fact 6)), (He.free_ok X G (c.fact 7)), (He.free_ok X G (c.fact 8)), (He.free_ok X G (c.fact 9)), (He.int_ok X G (c.fact 10))⟩
  have b := FunD.bindsA (ps := ["_law_script"]) F_law fun _ _ _ _ _ _ us hl => match us, hl with | [_], _ => rfl
  refine ⟨fd_law, fun s v => b s [v] rfl, fun base _ _ => ?_⟩
  have D_is_integer : Df P w K mg base 1 "is_integer" ["thing"] [] sp_is_integer := Df.of (st := s_is_integer) F_is_integer (He.glo_ok X G (c.fact 13 (f := fGlo "is_integer") rfl)) (ok_is_integer T  F_is_integer) fun _ _ _ _ _ _ us hl => match us, hl with | [_], _ => rfl
  have D_check_number_1 : Df P w K mg base 2 "check_number" ["thing", "least"] [.int 0] sp_check_number := Df.ofD (st := s_check_number) F_check_number (He.glo_ok X G (c.fact 14 (f := fGlo "check_number") rfl)) (ok_check_number T D_is_integer F_check_number) 1 0 (fun z => nomatch z) rfl fun _ _ _ _ _ _ _ us its hl hi => match us, hl, its, hi with | [_], _, [_], _ => ⟨_, rfl, rfl⟩
  have D_block_sizes : Df P w K mg base 3 "block_sizes" ["many"] [] sp_block_sizes := Df.of (st := s_block_sizes) F_block_sizes (He.glo_ok X G (c.fact 15 (f := fGlo "block_sizes") rfl)) (ok_block_sizes T D_check_number_1 F_block_sizes) fun _ _ _ _ _ _ us hl => match us, hl with | [_], _ => rfl
  have D_block_sizes_0_many : DfK P w K mg base 3 "block_sizes" ["many"] 0 ["many"] (fun vs zs => vs ++ zs) sp_block_sizes := DfK.of (st := s_block_sizes) F_block_sizes (He.glo_ok X G (c.fact 15 (f := fGlo "block_sizes") rfl)) (ok_block_sizes T D_check_number_1 F_block_sizes) (fun us ws => us ++ ws) (fun r1 r2 => r1.append r2) fun _ _ _ _ _ _ us ws hl hw => match us, hl, ws, hw with | [], _, [_], _ => rfl
  have D_lowest : Df P w K mg base 1 "_law_lowest" ["_law_number_here"] [] sp_lowest := Df.of (st := s_lowest) F_lowest (He.glo_ok X G (c.fact 17 (f := fGlo "_law_lowest") rfl)) (ok_lowest T  F_lowest) fun _ _ _ _ _ _ us hl => match us, hl with | [_], _ => rfl
  have D_take : Df P w K mg base 1 "_law_take" ["_law_bag_here", "_law_count"] [] sp_take := Df.of (st := s_take) F_take (He.glo_ok X G (c.fact 12 (f := fGlo "_law_take") rfl)) (ok_take T  F_take) fun _ _ _ _ _ _ us hl => match us, hl with | [_, _], _ => rfl
  have D_bag : Df P w K mg base 1 "_law_bag" ["_law_script", "_law_at"] [] (sp_bag K) := Df.of (st := s_bag) F_bag (He.glo_ok X G (c.fact 11 (f := fGlo "_law_bag") rfl)) (ok_bag T  F_bag) fun _ _ _ _ _ _ us hl => match us, hl with | [_, _], _ => rfl
  have D_number : Df P w K mg base 2 "_law_number" ["_law_bag_here"] [] sp_number := Df.of (st := s_number) F_number (He.glo_ok X G (c.fact 20 (f := fGlo "_law_number") rfl)) (ok_number T D_take F_number) fun _ _ _ _ _ _ us hl => match us, hl with | [_], _ => rfl
  have D_sizes_right : Df P w K mg base 4 "_law_sizes_right" ["_law_number_here"] [] sp_sizes_right := Df.of (st := s_sizes_right) F_sizes_right (He.glo_ok X G (c.fact 19 (f := fGlo "_law_sizes_right") rfl)) (ok_sizes_right T D_block_sizes D_block_sizes_0_many D_lowest F_sizes_right) fun _ _ _ _ _ _ us hl => match us, hl with | [_], _ => rfl
  have D_total : Df P w K mg base 1 "_law_total" ["_law_number_here"] [] sp_total := Df.of (st := s_total) F_total (He.glo_ok X G (c.fact 18 (f := fGlo "_law_total") rfl)) (ok_total T  F_total) fun _ _ _ _ _ _ us hl => match us, hl with | [_], _ => rfl
  have D_total_built : Df P w K mg base 3 "total_built" ["many"] [] sp_total_built := Df.of (st := s_total_built) F_total_built (He.glo_ok X G (c.fact 16 (f := fGlo "total_built") rfl)) (ok_total_built T D_check_number_1 F_total_built) fun _ _ _ _ _ _ us hl => match us, hl with | [_], _ => rfl
  have D_total_built_0_many : DfK P w K mg base 3 "total_built" ["many"] 0 ["many"] (fun vs zs => vs ++ zs) sp_total_built := DfK.of (st := s_total_built) F_total_built (He.glo_ok X G (c.fact 16 (f := fGlo "total_built") rfl)) (ok_total_built T D_check_number_1 F_total_built) (fun us ws => us ++ ws) (fun r1 r2 => r1.append r2) fun _ _ _ _ _ _ us ws hl hw => match us, hl, ws, hw with | [], _, [_], _ => rfl
  exact ok_law T D_bag D_lowest D_number D_sizes_right D_take D_total D_total_built D_total_built_0_many F_law
end K02
open PySem PySem.W PySem.Calls PyProof.Rows
theorem PySem.Challenge.cw_oncebuilt_k02_block_sizes_and_sums_holds : PySem.Challenge.rw_oncebuilt_k02_block_sizes_and_sums.Holds := by
  w_on; o_law
  refine HandSHeadRun.head_any (r := OpenLaw.row PySem.Challenge.rw_oncebuilt_k02_block_sizes_and_sums) (q := view (OpenLaw.row PySem.Challenge.rw_oncebuilt_k02_block_sizes_and_sums).prog [16]) (H := K02.hk) (ob := K02.ob) (M := 20000) (loose := K02.loose) (d := HandSHeadRun.topDef (OpenLaw.row PySem.Challenge.rw_oncebuilt_k02_block_sizes_and_sums).prog 16) (kwd := []) K02.ob_eq
    (by kernel_rfl) (fun s => by kernel_rfl) K02.run (by kernel_rfl) (by kernel_rfl) (by kernel_rfl) (by rfl) (by first | assumption | decide +kernel) (by decide +kernel) ⟨rfl, rfl, rfl, rfl, rfl, by decide +kernel⟩ ?hw ?hc
  case hw => w_witness2
  case hc =>
    refine G.walk_ofG (l := PySem.Challenge.rw_oncebuilt_k02_block_sizes_and_sums) (n := 63) (k := 5) (x := "_law_script") rfl (by decide) (by kernel_rfl) ⟨rfl, by decide, by decide⟩ ?F
    intro w mg fa h Y G hmg0
    obtain ⟨K, KX, c⟩ := Y
    have hmg : mg ("law" : PySem.Str) = some (.ref fa) := by
      have e : (HandSHeadRun.topDef (OpenLaw.row PySem.Challenge.rw_oncebuilt_k02_block_sizes_and_sums).prog 16).name = ("law" : PySem.Str) := by kernel_rfl
      rw [← e]
      exact hmg0
    obtain ⟨fd, hb, hF⟩ := K02.facts (P := (PySem.Challenge.rw_oncebuilt_k02_block_sizes_and_sums).prog) (w := w) KX G hmg c
    exact ⟨K, fd, (K02.sp_law K), KX, hb, fun H a ns hl hbits _ hS => ⟨a, ns, rfl, hS, hl, hbits, fun _ => rfl⟩, hF⟩
