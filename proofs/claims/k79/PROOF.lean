import PyProof.Rows.All
import Wide.All
import OpenK.AllK
import Wide.FinOn
import KE.KStateDown
import HandS.ForMost
import HandS.ForExc
import HandS.Defaults
import HandS.MakeKwOnly
import HandS.IsInst
import HandS.Wide
import HandS.WideBits
import HandS.WideMore
import HandS.Flow
import HandS.Style
import HandS.SortInts
import HandS.Conv
import HandS.Deep
import HandS.Head0
import HandS.Head1
import HandS.Head2
import HandS.HeadEnd
import HandS.EndBits
import HandS.HeadHook1
import HandS.HeadHook2
import PySem.Challenge.RW_oncebuilt_k79_sums_without_carry
set_option Elab.async false
set_option linter.all false
set_option maxRecDepth 100000
set_option maxHeartbeats 4000000
namespace G
open PySem PySem.Spec PyProof.Rows L2
/-! ### defs by name -/
/-- the module's name x is a def with the parameters ps that keeps sp; the last parameters have the values dvs by default -/
def Df (P : Program) (w : World) (K : PySem.W.Frag) (mg : Str → Option Value) (base : Heap) (k : Nat) (x : Str) (ps : List Str) (dvs : List V) (sp : Sp) : Prop :=
  ∃ (f : Addr) (fd : FuncData) (ds : List Value), mg x = some (.ref f) ∧ PySem.W.keepIn K (.ref f) = true ∧ Vals dvs ds ∧ Binds K fd ps ds ∧ FnOk P w K mg base (L2.CX P w) k f fd ps sp
/-- .. called with n positional arguments and the keywords ks -/
def DfK (P : Program) (w : World) (K : PySem.W.Frag) (mg : Str → Option Value) (base : Heap) (k : Nat) (x : Str) (ps : List Str) (n : Nat) (ks : List Str) (gV : List V → List V → List V) (sp : Sp) : Prop :=
  ∃ (f : Addr) (fd : FuncData) (g : List Value → List Value → List Value), mg x = some (.ref f) ∧ PySem.W.keepIn K (.ref f) = true ∧ KBn K fd ps n ks g gV ∧ FnOk P w K mg base (L2.CX P w) k f fd ps sp
section
variable {X : Cx} {j k n : Nat} {ps ks : List Str} {sp : Sp} {dvs : List V} {E : XK} {x m : Str} {p pos apos : Pos} {e o : Expr} {es : List Expr} {kws : List Keyword} {ta : TE} {t tk : TA} {gV : List V → List V → List V}
theorem pe_callD (D : Df X.prog X.w X.K X.mg X.base k x ps dvs sp) (hr : Room j X.A) (hg : Gl X x) (hx : Passes (L2.CX X.prog X.w) X E) (ha : PA X (e :: es) t) (hk : k ≤ j := by decide)
    (hdb : (x == ("__debug__" : Str)) = false := by decide) (he : starEach (e :: es) X.env = (false, eval e X.env) :: starEach es X.env := by rfl) (hpl : (backTo pos (starEach es X.env)).any (·.1) = false := by rfl) :
    PE X (.Call (.Name x p) (e :: es) [] pos) (tCall sp dvs E t) := by
  obtain ⟨f, fd, ds, h1, h2, h3, h4, h5⟩ := D
  exact pe_call h5 (hr.mono hk) hg h1 h2 h4 h3 hx ha hdb he hpl
theorem pe_call0D (D : Df X.prog X.w X.K X.mg X.base k x ps dvs sp) (hr : Room j X.A) (hg : Gl X x) (hx : Passes (L2.CX X.prog X.w) X E) (hk : k ≤ j := by decide)
    (hdb : (x == ("__debug__" : Str)) = false := by decide) : PE X (.Call (.Name x p) [] [] pos) (tCall sp dvs E tNil) := by
  obtain ⟨f, fd, ds, h1, h2, h3, h4, h5⟩ := D
  exact pe_call0 h5 (hr.mono hk) hg h1 h2 h4 h3 hx hdb
theorem pe_callKD (D : DfK X.prog X.w X.K X.mg X.base k x ps n ks gV sp) (hr : Room j X.A) (hg : Gl X x) (hx : Passes (L2.CX X.prog X.w) X E) (ha : PA X (e :: es) t) (hkw : PK X kws tk) (hk : k ≤ j := by decide)
    (hall : (backToKw pos (keywordEach kws X.env)).all (·.1.isSome) = true := by rfl) (hks : (backToKw pos (keywordEach kws X.env)).filterMap (·.1) = ks := by rfl)
    (hdb : (x == ("__debug__" : Str)) = false := by decide) (he : starEach (e :: es) X.env = (false, eval e X.env) :: starEach es X.env := by rfl)
    (hpl : ((backTo pos (starEach (e :: es) X.env)).any (·.1) || (backToKw pos (keywordEach kws X.env)).any (·.1.isNone)) = false := by rfl) :
    PE X (.Call (.Name x p) (e :: es) kws pos) (tCallN n ks.length sp gV E t tk) := by
  obtain ⟨f, fd, g, h1, h2, h4, h5⟩ := D
  exact pe_callN h5 (hr.mono hk) hg h1 h2 h4 hx ha hkw hall hks hdb he hpl
/-- f(k = v, ..) -/
theorem pe_callK0D (D : DfK X.prog X.w X.K X.mg X.base k x ps 0 ks gV sp) (hr : Room j X.A) (hg : Gl X x) (hx : Passes (L2.CX X.prog X.w) X E) (hkw : PK X kws tk) (hk : k ≤ j := by decide)
    (hall : (backToKw pos (keywordEach kws X.env)).all (·.1.isSome) = true := by rfl) (hks : (backToKw pos (keywordEach kws X.env)).filterMap (·.1) = ks := by rfl)
    (hdb : (x == ("__debug__" : Str)) = false := by decide)
    (hpl : ((backTo pos (starEach [] X.env)).any (·.1) || (backToKw pos (keywordEach kws X.env)).any (·.1.isNone)) = false := by rfl) :
    PE X (.Call (.Name x p) [] kws pos) (tCallN 0 ks.length sp gV E tNil tk) := by
  obtain ⟨f, fd, g, h1, h2, h4, h5⟩ := D
  refine ⟨fun pins s σ H Q I h => ?_⟩
  refine wpAny_Call_Name_kw (ld_glob I hg h1 ?_ hdb)
  refine PySem.W.callWith_KW0 (h₀ := X.base) I.ok.mod.kin h2 hall ?_ hpl
  refine thn (hkw.run pos pins s σ H _ I h) fun ws s2 ⟨zs, H2, I2, rz, l1, l2, q2⟩ => ⟨I2.kIn, ?_⟩
  rw [hks]
  exact run_fnN (us := []) (vs := []) h5 (hr.mono hk) h4 hx I2 .nil rz rfl l2 q2
end
section
variable {P : Program} {w : World} {K : PySem.W.Frag} {mg : Str → Option Value} {base : Heap} {k : Nat} {x : Str} {ps : List Str} {sp : Sp} {st : Stmt} {f : Addr} {fd : FuncData}
abbrev FnP (K : PySem.W.Frag) (x qual : Str) (st : Stmt) (dvs : List V) (f : Addr) (fd : FuncData) : Prop := FunD K x qual (defArgs st) (defBody st) (defScope st) dvs [] f fd
theorem Df.of {qual : Str} {kws : List (Str × V)} (F : FunD K x qual (defArgs st) (defBody st) (defScope st) [] kws f fd) (hm : mg x = some (.ref f)) (ok : FnOk P w K mg base (L2.CX P w) k f fd ps sp)
    (h : ∀ (kV doc pm : Value) (an : Option Addr) (cdv ct : Value) (us : List Value), us.length = ps.length → bindArgs (PySem.W.fnOf x qual (defArgs st) (defBody st) (defScope st) .none kV doc pm an cdv ct) ⟨us, []⟩ = pure (ps.zip us)) :
    Df P w K mg base k x ps [] sp := ⟨f, fd, [], hm, F.kp, .nil, F.bindsN h, ok⟩
end
/-! ### what leaves a def -/
section
variable {CX : CXT} {P : Program} {w : World} {K : PySem.W.Frag} {mg : Str → Option Value} {base : Heap} {N : List Str} {qual : Str} {scope : Scope} {f : Addr} {cd : Value} {A : Around} {outer : List Env} {s : Shared} {H : Hp} {E : XK}
theorem takeE : Takes (cxOf (L2.CX P w) P w K mg base N qual scope f cd A outer s H E) (fun cls d _ H' => E cls d H') := takes_of rfl rfl rfl rfl
theorem passE : Passes (L2.CX P w) (cxOf (L2.CX P w) P w K mg base N qual scope f cd A outer s H E) E := passes_call takeE fun _ _ _ _ h => h
end
/-! ### readings, cut -/
theorem seq_cut {t u : TS} {D : Ends} {σ : L2.St} {H : Hp} (J : L2.St → Hp → Prop) (h1 : ∀ N : L2.St → Hp → Prop, (∀ σ' H', J σ' H' → N σ' H') → t { D with nx := N } σ H) (h2 : ∀ σ' H', J σ' H' → u D σ' H') : tSeq t u D σ H := h1 (u D) h2
theorem if_cut {c : TT} {t u : TS} {D : Ends} {σ : L2.St} {H : Hp} (R : Bool → Hp → Prop) (h1 : ∀ Q : Bool → Hp → Prop, (∀ b H', R b H' → Q b H') → c σ H Q) (h2 : ∀ H', R true H' → t D σ H') (h3 : ∀ H', R false H' → u D σ H') : tIfS c t u D σ H :=
  h1 _ fun b H' r => by
    cases b with
    | true => exact iteT (h2 H' r)
    | false => exact iteF (h3 H' r)
theorem seq_cut2 {s1 t u : TS} {D : Ends} {σ : L2.St} {H : Hp} (J : L2.St → Hp → Prop) (h1 : ∀ N : L2.St → Hp → Prop, (∀ σ' H', J σ' H' → N σ' H') → s1 { D with nx := t { D with nx := N } } σ H) (h2 : ∀ σ' H', J σ' H' → u D σ' H') : tSeq s1 (tSeq t u) D σ H := h1 (u D) h2
/-! ### loops and comprehensions -/
/-- what walks over n things that stand still -/
structure ItP (J : It) (n : Nat) (item : Nat → V) (OK : Hp → Prop) : Prop where
  go : ∀ i H, OK H → i < n → J.go i H
  yld : ∀ i H x H', OK H → i < n → J.yld i H x H' → x = item i ∧ H' = H
  stop : ∀ H, OK H → J.stop n H
theorem itp_r (lo : Int) (n : Nat) : ItP (Itr lo n) n (fun i => .int (lo + i)) (fun _ => True) := ⟨fun _ _ _ h => h, fun _ _ _ _ _ _ y => ⟨y.2, y.1⟩, fun _ _ => Nat.le_refl _⟩
theorem itp_c (lo c : Int) (n : Nat) : ItP (Itc lo c n) n (fun i => .int (lo + (i : Nat) * c)) (fun _ => True) := ⟨fun _ _ _ h => h, fun _ _ _ _ _ _ y => ⟨y.2, y.1⟩, fun _ _ => Nat.le_refl _⟩
theorem itp_l (K : PySem.W.Frag) (a : Addr) (xs : List V) : ItP (Itl K a) xs.length (fun i => xs.getD i .non) (fun H => SqL K H a xs) where
  go := fun i H q h => ⟨xs, xs[i], q, List.getElem?_eq_getElem h⟩
  yld := fun i H x H' q h y => ⟨by
    have e := y.2 xs q
    rw [List.getD_eq_getElem?_getD, e]
    rfl, y.1⟩
  stop := fun H q => ⟨xs, q, Nat.le_refl _⟩
theorem itp_t (K : PySem.W.Frag) (a : Addr) (xs : List V) : ItP (Itt K a) xs.length (fun i => xs.getD i .non) (fun H => SqT K H a xs) where
  go := fun i H q h => ⟨xs, xs[i], q, List.getElem?_eq_getElem h⟩
  yld := fun i H x H' q h y => ⟨by
    have e := y.2 xs q
    rw [List.getD_eq_getElem?_getD, e]
    rfl, y.1⟩
  stop := fun H q => ⟨xs, q, Nat.le_refl _⟩
theorem itp_v (K : PySem.W.Frag) (a : Addr) (xs : List V) : ItP (Itv K a xs.length) xs.length (fun i => xs.getD (xs.length - 1 - i) .non) (fun H => SqL K H a xs) where
  go := fun i H q h => ⟨h, xs, xs[xs.length - 1 - i], q, List.getElem?_eq_getElem (by omega)⟩
  yld := fun i H x H' q h y => ⟨by
    have e := y.2 xs q
    rw [List.getD_eq_getElem?_getD, e]
    rfl, y.1⟩
  stop := fun H q => Nat.le_refl _
def tForB (J : It) (g : TG) (tb : TS) (D : Ends) (σ : L2.St) (H1 : Hp) : Prop := ∃ W : Nat → Nat → L2.St → Hp → Prop, (∃ m, W 0 m σ H1) ∧ ∀ i m σ H, W i m σ H →
  (J.stop i H ∧ D.nx σ H) ∨ (J.go i H ∧ ∃ N : L2.St → Hp → Prop, (∀ σ' H', N σ' H' → ∃ m', m' < m ∧ W (i + 1) m' σ' H') ∧ ∀ x H', J.yld i H x H' → g x σ H' fun σ2 H2 => tb { D with nx := N, ct := N, bk := D.nx } σ2 H2)
theorem tFor_eq (wi : TI) (g : TG) (tb : TS) (D : Ends) (σ : L2.St) (H : Hp) : tFor wi g tb D σ H = wi σ H fun J H1 => tForB J g tb D σ H1 := rfl
theorem forB {J : It} {n : Nat} {item : Nat → V} {OK : Hp → Prop} {g : TG} {tb : TS} {D : Ends} {σ : L2.St} {H : Hp} (I : ItP J n item OK) (Pv : Nat → L2.St → Hp → Prop) (h0 : Pv 0 σ H) (hok : ∀ i σ H, i ≤ n → Pv i σ H → OK H)
    (hs : ∀ (i : Nat) (σ : L2.St) (H : Hp) (N : L2.St → Hp → Prop), i < n → Pv i σ H → (∀ σ' H', Pv (i + 1) σ' H' → N σ' H') → g (item i) σ H fun σ2 H2 => tb { D with nx := N, ct := N, bk := D.nx } σ2 H2) (hd : ∀ σ H, Pv n σ H → D.nx σ H) :
    tForB J g tb D σ H := by
  refine ⟨fun i m σ H => m = n - i ∧ i ≤ n ∧ Pv i σ H, ⟨n, by simp, Nat.zero_le _, h0⟩, ?_⟩
  rintro i m σ H ⟨rfl, hi, p⟩
  by_cases hlt : i < n
  · refine .inr ⟨I.go i H (hok i σ H hi p) hlt, Pv (i + 1), fun σ' H' p' => ⟨n - (i + 1), by omega, rfl, hlt, p'⟩, fun x H' y => ?_⟩
    obtain ⟨ex, eH⟩ := I.yld i H x H' (hok i σ H hi p) hlt y
    subst ex eH
    exact hs i σ _ _ hlt p fun _ _ z => z
  · have e : i = n := by omega
    subst e
    exact .inl ⟨I.stop H (hok i σ H hi p), hd σ H p⟩
def tLcB (J : It) (g : TG) (tt : TT) (te : TE) (vs : List Nat) (σ : L2.St) (H1 : Hp) (Q : VK) : Prop := ∀ D, H1 D = none → ∃ W : Nat → Nat → Hp → Prop, (∃ m, W 0 m (upd H1 D (.lst []))) ∧ ∀ i m H, W i m H →
  (J.stop i H ∧ Q (.ref D) H) ∨ (J.go i H ∧ ∃ Nx : Hp → Prop, (∀ H', Nx H' → ∃ m', m' < m ∧ W (i + 1) m' H') ∧ ∀ x H', J.yld i H x H' → g x (wipe σ vs) H' fun σ2 H2 => wipe σ2 vs = wipe σ vs ∧ tt σ2 H2 fun b H3 =>
    if b = true then te σ2 H3 fun y H4 => ∃ acc, H4 D = some (.lst acc) ∧ acc.length < sizeLine ∧ Nx (upd H4 D (.lst (acc ++ [y]))) else Nx H3)
theorem tLc_eq (wi : TI) (g : TG) (tt : TT) (te : TE) (vs : List Nat) (σ : L2.St) (H : Hp) (Q : VK) : tLc wi g tt te vs σ H Q = wi σ H fun J H1 => tLcB J g tt te vs σ H1 Q := rfl
/-- a comprehension: Pv i H: the heap before turn i -/
theorem lcI {J : It} {n : Nat} {item : Nat → V} {OK : Hp → Prop} {g : TG} {tt : TT} {te : TE} {vs : List Nat} {σ : L2.St} {H1 : Hp} {Q : VK} (I : ItP J n item OK) (Pv : Addr → Nat → Hp → Prop) (h0 : ∀ D, H1 D = none → Pv D 0 (upd H1 D (.lst []))) (hok : ∀ D i H, H1 D = none → i ≤ n → Pv D i H → OK H)
    (hs : ∀ (D : Addr) (i : Nat) (H : Hp) (C : Hp → Prop), H1 D = none → i < n → Pv D i H → (∀ H', Pv D (i + 1) H' → C H') → g (item i) (wipe σ vs) H fun σ2 H2 => wipe σ2 vs = wipe σ vs ∧ tt σ2 H2 fun b H3 =>
      if b = true then te σ2 H3 fun y H4 => ∃ acc, H4 D = some (.lst acc) ∧ acc.length < sizeLine ∧ C (upd H4 D (.lst (acc ++ [y]))) else C H3) (hd : ∀ D H, H1 D = none → Pv D n H → Q (.ref D) H) : tLcB J g tt te vs σ H1 Q := by
  intro D hD
  refine ⟨fun i m H => m = n - i ∧ i ≤ n ∧ Pv D i H, ⟨n, by simp, Nat.zero_le _, h0 D hD⟩, ?_⟩
  rintro i m H ⟨rfl, hi, p⟩
  by_cases hlt : i < n
  · refine .inr ⟨I.go i H (hok D i H hD hi p) hlt, Pv D (i + 1), fun H' p' => ⟨n - (i + 1), by omega, rfl, hlt, p'⟩, fun x H' y => ?_⟩
    obtain ⟨ex, eH⟩ := I.yld i H x H' (hok D i H hD hi p) hlt y
    subst ex eH
    exact hs D i _ _ hD hlt p fun _ z => z
  · have e : i = n := by omega
    subst e
    exact .inl ⟨I.stop H (hok D i H hD hi p), hd D H hD p⟩
/-- a comprehension that changes nothing: f i is what the i-th turn gives -/
theorem lcB {J : It} {n : Nat} {item : Nat → V} {OK : Hp → Prop} {g : TG} {tt : TT} {te : TE} {vs : List Nat} {σ : L2.St} {H1 : Hp} {Q : VK} (I : ItP J n item OK) (f : Nat → Option V) (hok : ∀ D acc, H1 D = none → OK (upd H1 D (.lst acc)))
    (hs : ∀ (i : Nat) (D : Addr) (acc : List V) (C : Hp → Prop), i < n → H1 D = none → acc.length ≤ i → ((f i = none → C (upd H1 D (.lst acc))) ∧ ∀ y, f i = some y → C (upd H1 D (.lst (acc ++ [y])))) →
      g (item i) (wipe σ vs) (upd H1 D (.lst acc)) fun σ2 H2 => wipe σ2 vs = wipe σ vs ∧ tt σ2 H2 fun b H3 =>
        if b = true then te σ2 H3 fun y H4 => ∃ acc, H4 D = some (.lst acc) ∧ acc.length < sizeLine ∧ C (upd H4 D (.lst (acc ++ [y]))) else C H3)
    (hd : ∀ D, H1 D = none → Q (.ref D) (upd H1 D (.lst ((List.range n).filterMap f)))) : tLcB J g tt te vs σ H1 Q := by
  refine lcI I (fun D i H => H = upd H1 D (.lst ((List.range i).filterMap f))) (fun D _ => rfl) (fun D i H hD _ e => by rw [e]; exact hok D _ hD) (fun D i H C hD hi e hC => ?_) fun D H hD e => by rw [e]; exact hd D hD
  subst e
  refine hs i D _ C hi hD (Nat.le_trans (List.length_filterMap_le _ _) (by simp)) ⟨fun e => hC _ ?_, fun y e => hC _ ?_⟩
  · rw [List.range_succ, List.filterMap_append]
    simp [e]
  · rw [List.range_succ, List.filterMap_append]
    simp [e]
theorem filterMap_get {α : Type} (l : List α) (f : α → V) : (List.range l.length).filterMap (fun j => (l[j]?).map f) = l.map f := by
  have e : ∀ n, n ≤ l.length → (List.range n).filterMap (fun j => (l[j]?).map f) = (l.take n).map f := by
    intro n
    induction n with
    | zero => intro _; rfl
    | succ n ih =>
      intro h
      rw [List.range_succ, List.filterMap_append, ih (by omega), List.take_succ, List.getElem?_eq_getElem (by omega), List.map_append]
      simp [List.getElem?_eq_getElem (show n < l.length by omega)]
  rw [e _ (Nat.le_refl _), List.take_length]
theorem lcE {H1 : Hp} {D : Addr} {acc : List V} {C : Hp → Prop} {o : Option V} {y : V} (hC : (o = none → C (upd H1 D (.lst acc))) ∧ ∀ y, o = some y → C (upd H1 D (.lst (acc ++ [y])))) (e : o = some y) (hl : acc.length < sizeLine) :
    ∃ acc', (upd H1 D (.lst acc)) D = some (.lst acc') ∧ acc'.length < sizeLine ∧ C (upd (upd H1 D (.lst acc)) D (.lst (acc' ++ [y]))) := ⟨acc, upd_same, hl, by rw [upd_upd]; exact hC.2 y e⟩
def whBody (Pv : L2.St → Hp → Prop) (μ : L2.St → Hp → Nat) (m : Nat) (tb : TS) (D : Ends) (σ : L2.St) (H1 : Hp) : Prop :=
  ∃ N : L2.St → Hp → Prop, (∀ σ' H', N σ' H' → ∃ m', m' < m ∧ m' = μ σ' H' ∧ Pv σ' H') ∧ tb { D with nx := N, ct := N, bk := D.nx } σ H1
theorem whileB {c : TT} {tb : TS} {D : Ends} {σ : L2.St} {H : Hp} (Pv : L2.St → Hp → Prop) (μ : L2.St → Hp → Nat) (h0 : Pv σ H)
    (hs : ∀ σ H, Pv σ H → c σ H fun b H1 => if b = true then whBody Pv μ (μ σ H) tb D σ H1 else D.nx σ H1) : tWhile c tb D σ H := by
  refine ⟨fun m σ H => m = μ σ H ∧ Pv σ H, ⟨_, rfl, h0⟩, ?_⟩
  rintro m σ H ⟨rfl, p⟩
  exact hs σ H p
theorem whI {Pv : L2.St → Hp → Prop} {μ : L2.St → Hp → Nat} {m : Nat} {tb : TS} {D : Ends} {σ : L2.St} {H1 : Hp}
    (h : ∀ N : L2.St → Hp → Prop, (∀ σ' H', Pv σ' H' → μ σ' H' < m → N σ' H') → tb { D with nx := N, ct := N, bk := D.nx } σ H1) : whBody Pv μ m tb D σ H1 :=
  ⟨fun σ' H' => Pv σ' H' ∧ μ σ' H' < m, fun _ _ ⟨p, l⟩ => ⟨_, l, rfl, p⟩, h _ fun _ _ p l => ⟨p, l⟩⟩
theorem isi {K : PySem.W.Frag} {H : Hp} {x : V} {t T : String} {b : Bool} {Q : VK} (ty : TyX K H x (.type t)) (h : kitB t T = some b) (q : Q (.bl b) H) : rIsi K [x, .ty T] H Q := ⟨x, .ty T, .type t, .type T, b, rfl, .ty T, ty, kit_ty h, q⟩
theorem dp_ints {K : PySem.W.Frag} {H : Hp} : ∀ ns : List Int, DpAll K H (ns.map V.int) (ns.map PyData.int)
  | [] => .nil
  | n :: r => .cons (.int n) (dp_ints r)
theorem eqD_same {K : PySem.W.Frag} {H : Hp} {x y : V} {d : PyData} {Q : VK} (hx : Dp K H x d) (hy : Dp K H y d) (hs : SeqAt.shaped d = true) (q : Q (.bl true) H) : rEqD K x y H Q := by
  refine ⟨d, d, hx, hy, hs, hs, ?_⟩
  rw [SeqAt.eqv_refl d (Bool.and_eq_true_iff.mp hs).1]
  exact q
theorem neD_same {K : PySem.W.Frag} {H : Hp} {x y : V} {d : PyData} {Q : VK} (hx : Dp K H x d) (hy : Dp K H y d) (hs : SeqAt.shaped d = true) (q : Q (.bl false) H) : rNeD K x y H Q := by
  refine ⟨d, d, hx, hy, hs, hs, ?_⟩
  rw [SeqAt.eqv_refl d (Bool.and_eq_true_iff.mp hs).1]
  exact q
theorem tyL {K : PySem.W.Frag} {H : Hp} {p : Addr} {xs : List V} (h : H p = some (.lst xs)) : tyV K "list" (.ref p) H := Or.inl ⟨rfl, _, SqL.of h⟩
theorem last_get {α : Type} (xs : List α) (v : α) : (xs ++ [v])[(xs ++ [v]).length - 1]? = some v := by simp
theorem len_of {K : PySem.W.Frag} {H : Hp} {a : Addr} {xs : List V} (h : SqL K H a xs) : LenV K (.ref a) H xs.length := .inl ⟨xs, h, rfl⟩
theorem lenT_of {K : PySem.W.Frag} {H : Hp} {a : Addr} {xs : List V} (h : SqT K H a xs) : LenV K (.ref a) H xs.length := .inr ⟨xs, h, rfl⟩
theorem Same.upd {H : Hp} {p : Addr} {o : HO} (h : H p = none) : Same H (upd H p o) := fun b o' e => by rw [upd_ne (ne_of_none e h)]; exact e
theorem atI_of {α : Type} {xs : List α} {i : Int} {v : α} (h0 : 0 ≤ i) (h : xs[i.toNat]? = some v) : atI xs i = some v := by
  have e := atI_nat h
  rwa [Int.toNat_of_nonneg h0] at e
/-! ### the head's facts -/
abbrev Fx : Type := PySem.W.Frag → Bool
def obsX (fa : List Fx) (fn : List He.DefD) (K : PySem.W.Frag) : He.AlD := ((fa.all fun f => f K) && fn.all fun d => d.ok K, fn.map fun d => He.fnW K d.at_)
def SaysX (fa : List Fx) (fn : List He.DefD) (K : PySem.W.Frag) : Prop := obsX fa fn K = He.valD fn
def obsXG (n : Nat) (fa : List Fx) (fn : List He.DefD) (g : Addr → Option Obj) : He.AlD := obsX fa fn (He.frG g (He.asD g n))
def hookX (n : Nat) (fa : List Fx) (fn : List He.DefD) : PySem.W.Hook where
  α := He.AlD
  obs := fun s => obsXG n fa fn s.heap.get?
  val := fun _ => He.valD fn
  says := fun _ h => ∃ K : PySem.W.Frag, K.In h ∧ SaysX fa fn K
  of := fun _ _ e => ⟨_, He.frG_in, e⟩
  keeps := fun _ _ _ ⟨K, hK, c⟩ k => ⟨K, PySem.W.Frag.In.keeps hK k, c⟩
theorem obsXG_eq {n : Nat} {fa : List Fx} {fn : List He.DefD} {g : Addr → Option Obj} {s : Shared} (h : ∀ a, g a = s.heap.get? a) : obsXG n fa fn g = (hookX n fa fn).obs s := by
  have e : g = s.heap.get? := funext h
  rw [e] <;> rfl
section
variable {fa : List Fx} {fn : List He.DefD} {K : PySem.W.Frag}
theorem SaysX.fact (c : SaysX fa fn K) (i : Nat) {f : Fx} (h : fa[i]? = some f := by rfl) : f K = true := by
  have c1 := (He.ba (show ((fa.all fun f => f K) && fn.all fun d => d.ok K) = true from congrArg (fun z : He.AlD => z.1) c)).1
  exact List.all_eq_true.mp c1 f (List.mem_of_getElem? h)
theorem SaysX.def_ (c : SaysX fa fn K) (i : Nat) {d : He.DefD} (h : fn[i]? = some d := by rfl) : ∃ fd, FunD K d.name d.qual d.params d.body d.scope (d.dvs K) (d.kws K) (He.fAd K d.at_) fd := by
  have c2 := (He.ba (show ((fa.all fun f => f K) && fn.all fun d => d.ok K) = true from congrArg (fun z : He.AlD => z.1) c)).2
  have e : fn.map (fun d => He.fnW K d.at_) = fn.map He.DefD.val := congrArg (fun z : He.AlD => z.2) c
  have e2 : (fn.map fun d => He.fnW K d.at_)[i]? = (fn.map He.DefD.val)[i]? := by rw [e]
  rw [List.getElem?_map, List.getElem?_map, h] at e2
  exact He.DefD.funD (Option.some.inj e2) (List.all_eq_true.mp c2 d (List.mem_of_getElem? h))
end
def fGlo (x : Str) : Fx := fun K => (He.Fa.glo x).ok K
def fFree (x : Str) : Fx := fun K => (He.Fa.free x).ok K
def fInt (x : Str) (i : Int) : Fx := fun K => (He.Fa.int x i).ok K
def fCls (x : Str) : Fx := fun K => (He.Fa.cls x).ok K
def fNoat (x f : Str) : Fx := fun K => (He.Fa.noat x f).ok K
def fMeth (x f : Str) : Fx := fun K => (He.Fa.meth x f).ok K
def fMkr (x : Str) : Fx := fun K => (He.Fa.mkr x).ok K
def fExc (x : Str) : Fx := fun K => (He.Fa.exc x).ok K
def fExm (x y : Str) (b : Bool) : Fx := fun K => (He.Fa.exm x y b).ok K
/-- keyword calls of a def without defaults -/
theorem DfK.of {P : Program} {w : World} {K : PySem.W.Frag} {mg : Str → Option Value} {base : Heap} {k n : Nat} {x : Str} {ps ks : List Str} {sp : Sp} {st : Stmt} {f : Addr} {fd : FuncData} {qual : Str} {kws : List (Str × V)}
    (F : FunD K x qual (defArgs st) (defBody st) (defScope st) [] kws f fd) (hm : mg x = some (.ref f)) (ok : FnOk P w K mg base (L2.CX P w) k f fd ps sp) (g : {α : Type} → List α → List α → List α)
    (hrel : ∀ {vs zs : List V} {us ws : List Value}, Vals vs us → Vals zs ws → Vals (g vs zs) (g us ws))
    (h : ∀ (kV doc pm : Value) (an : Option Addr) (cdv ct : Value) (us ws : List Value), us.length = n → ws.length = ks.length → bindArgs (PySem.W.fnOf x qual (defArgs st) (defBody st) (defScope st) .none kV doc pm an cdv ct) ⟨us, ks.zip ws⟩ = pure (ps.zip (g us ws))) :
    DfK P w K mg base k x ps n ks (fun vs zs => g vs zs) sp := by
  obtain ⟨oc, od, dV, kV, doc, pm, an, cdv, ct, osl, rfl, lk, hcd, hD, hK⟩ := F.ex
  rcases hD with ⟨_, rfl⟩ | ⟨e, _⟩
  · exact ⟨f, _, fun us ws => g us ws, hm, F.kp, ⟨fun s us ws _ l1 l2 => .of_eq (h kV doc pm an cdv ct us ws l1 l2), fun r1 r2 => hrel r1 r2⟩, ok⟩
  · exact absurd rfl e
/-- positional calls of a def with defaults: n values are written, the defaults behind the first j fill up -/
theorem Df.ofD {P : Program} {w : World} {K : PySem.W.Frag} {mg : Str → Option Value} {base : Heap} {k : Nat} {x : Str} {ps : List Str} {sp : Sp} {st : Stmt} {f : Addr} {fd : FuncData} {qual : Str} {kws : List (Str × V)} {dvs : List V}
    (F : FunD K x qual (defArgs st) (defBody st) (defScope st) dvs kws f fd) (hm : mg x = some (.ref f)) (ok : FnOk P w K mg base (L2.CX P w) k f fd ps sp) (n j : Nat) (hd : dvs ≠ []) (hn : n + (dvs.length - j) = ps.length)
    (h : ∀ (T : Addr) (kV doc pm : Value) (an : Option Addr) (cdv ct : Value) (us its : List Value), us.length = n → its.length = dvs.length →
      ∃ k, bindArgs (PySem.W.fnOf x qual (defArgs st) (defBody st) (defScope st) (.ref T) kV doc pm an cdv ct) ⟨us, []⟩ = seqItems? (.ref T) >>= k ∧ k (some its.toArray) = pure (ps.zip (us ++ its.drop j))) :
    Df P w K mg base k x ps (dvs.drop j) sp := by
  obtain ⟨ds, h1, h2⟩ := F.binds1 n j hd hn h
  exact ⟨f, fd, ds, hm, F.kp, h1, h2, ok⟩
/-! ### methods and makers by name -/
def Dm (P : Program) (w : World) (K : PySem.W.Frag) (mg : Str → Option Value) (base : Heap) (k : Nat) (C : Addr) (m : Str) (ps : List Str) (dvs : List V) (sp : Sp) : Prop :=
  ∃ (f : Addr) (fd : FuncData) (ds : List Value), Cls K C ∧ Meth K C m f ∧ Vals dvs ds ∧ Binds K fd ps ds ∧ FnOk P w K mg base (L2.CX P w) k f fd ps sp
def DmK (P : Program) (w : World) (K : PySem.W.Frag) (mg : Str → Option Value) (base : Heap) (k : Nat) (C : Addr) (m : Str) (ps : List Str) (n : Nat) (ks : List Str) (gV : List V → List V → List V) (sp : Sp) : Prop :=
  ∃ (f : Addr) (fd : FuncData) (g : List Value → List Value → List Value), Cls K C ∧ Meth K C m f ∧ KBn K fd ps (n + 1) ks g gV ∧ FnOk P w K mg base (L2.CX P w) k f fd ps sp
def Dn (P : Program) (w : World) (K : PySem.W.Frag) (mg : Str → Option Value) (base : Heap) (k : Nat) (C : Addr) (x : Str) (ps : List Str) (dvs : List V) (sp : Sp) : Prop :=
  ∃ (f : Addr) (fd : FuncData) (ds : List Value), mg x = some (.ref C) ∧ Mk K C f ∧ Vals dvs ds ∧ Binds K fd ps ds ∧ FnOk P w K mg base (L2.CX P w) k f fd ps sp
def tMethK (C : Addr) (m : Str) (n nk : Nat) (sp : Sp) (gV : List V → List V → List V) (E : XK) (ta : TE) (t tk : TA) : TE := fun σ H Q => ta σ H fun x H1 => ∃ a dx fs, x = .ref a ∧ H1 a = some (.ins C dx fs) ∧ fs.lookup m = none ∧
  t σ H1 fun vs H2 => tk σ H2 fun zs H3 => vs.length = n ∧ zs.length = nk ∧ sp (gV (x :: vs) zs) H3 Q E
section
variable {X : Cx} {j k n : Nat} {C : Addr} {ps ks : List Str} {sp : Sp} {dvs : List V} {E : XK} {x m : Str} {p pos apos : Pos} {e o : Expr} {es : List Expr} {kws : List Keyword} {ta : TE} {t tk : TA} {gV : List V → List V → List V}
theorem pe_methD {pl : Sem Bool} (he : PE X o ta) (D : Dm X.prog X.w X.K X.mg X.base k C m ps dvs sp) (hr : Room j X.A) (hx : Passes (L2.CX X.prog X.w) X E) (ha : PA X (e :: es) t) (hk : k ≤ j := by decide)
    (hst : starEach (e :: es) X.env = (false, eval e X.env) :: starEach es X.env := by rfl) (hpl : (backTo pos (starEach es X.env)).any (·.1) = false := by rfl)
    (ht : eval (.Call (.Attribute o m apos) (e :: es) [] pos) X.env = (do
      let ov ← eval o X.env
      standAt apos.atName
      let (f, first) ← holding [ov] (getMethod ov m pl)
      callWith pos f first (backTo pos (starEach (e :: es) X.env)) (backToKw pos (keywordEach [] X.env))) := by rfl) :
    PE X (.Call (.Attribute o m apos) (e :: es) [] pos) (tMeth C m sp dvs E ta t) := by
  obtain ⟨f, fd, ds, h1, h2, h3, h4, h5⟩ := D
  exact pe_meth he h1 h2 h5 (hr.mono hk) h4 h3 hx ha hst hpl ht
theorem pe_meth0D {pl : Sem Bool} (he : PE X o ta) (D : Dm X.prog X.w X.K X.mg X.base k C m ps dvs sp) (hr : Room j X.A) (hx : Passes (L2.CX X.prog X.w) X E) (hk : k ≤ j := by decide)
    (ht : eval (.Call (.Attribute o m apos) [] [] pos) X.env = (do
      let ov ← eval o X.env
      standAt apos.atName
      let (f, first) ← holding [ov] (getMethod ov m pl)
      callWith pos f first (backTo pos (starEach [] X.env)) (backToKw pos (keywordEach [] X.env))) := by rfl) :
    PE X (.Call (.Attribute o m apos) [] [] pos) (tMeth C m sp dvs E ta tNil) := by
  obtain ⟨f, fd, ds, h1, h2, h3, h4, h5⟩ := D
  exact pe_meth0 he h1 h2 h5 (hr.mono hk) h4 h3 hx ht
/-- o.m(k = v, ..) -/
theorem pe_methK0D {pl : Sem Bool} (he : PE X o ta) (D : DmK X.prog X.w X.K X.mg X.base k C m ps 0 ks gV sp) (hr : Room j X.A) (hx : Passes (L2.CX X.prog X.w) X E) (hkw : PK X kws tk) (hk : k ≤ j := by decide)
    (hall : (backToKw pos (keywordEach kws X.env)).all (·.1.isSome) = true := by rfl) (hks : (backToKw pos (keywordEach kws X.env)).filterMap (·.1) = ks := by rfl)
    (hpl : ((backTo pos (starEach [] X.env)).any (·.1) || (backToKw pos (keywordEach kws X.env)).any (·.1.isNone)) = false := by rfl)
    (ht : eval (.Call (.Attribute o m apos) [] kws pos) X.env = (do
      let ov ← eval o X.env
      standAt apos.atName
      let (f, first) ← holding [ov] (getMethod ov m pl)
      callWith pos f first (backTo pos (starEach [] X.env)) (backToKw pos (keywordEach kws X.env))) := by rfl) :
    PE X (.Call (.Attribute o m apos) [] kws pos) (tMethK C m 0 ks.length sp gV E ta tNil tk) := by
  obtain ⟨f, fd, g, h1, h2, h4, h5⟩ := D
  refine ⟨fun pins s σ H Q I h => ?_⟩
  refine PySem.W.methodCall_KW (pl := pl) (thn (he.run pins s σ H _ I h) fun u s1 ⟨x, H1, I1, rx, a, dx, fs, ex, ea, l, q⟩ => ?_) ht
  subst ex
  obtain rfl : u = Value.ref a := rx
  refine getmeth_ok I1 ea h1 h2 l ?_
  refine PySem.W.callWith_KW0 (first := [.ref a]) (h₀ := X.base) I.ok.mod.kin h2.kp hall ?_ hpl
  refine thn (hkw.run pos pins s1 σ H1 _ I1 q) fun ws s2 ⟨zs, H2, I2, rz, l1, l2, q2⟩ => ⟨I2.kIn, ?_⟩
  rw [hks]
  exact run_fnN (us := [.ref a]) (vs := [.ref a]) h5 (hr.mono hk) h4 hx I2 (.cons rfl .nil) rz rfl l2 q2
/-- o.m(e, .., k = v, ..) -/
theorem pe_methKD {pl : Sem Bool} (he : PE X o ta) (D : DmK X.prog X.w X.K X.mg X.base k C m ps n ks gV sp) (hr : Room j X.A) (hx : Passes (L2.CX X.prog X.w) X E) (ha : PA X (e :: es) t) (hkw : PK X kws tk) (hk : k ≤ j := by decide)
    (hall : (backToKw pos (keywordEach kws X.env)).all (·.1.isSome) = true := by rfl) (hks : (backToKw pos (keywordEach kws X.env)).filterMap (·.1) = ks := by rfl)
    (hst : starEach (e :: es) X.env = (false, eval e X.env) :: starEach es X.env := by rfl)
    (hpl : ((backTo pos (starEach (e :: es) X.env)).any (·.1) || (backToKw pos (keywordEach kws X.env)).any (·.1.isNone)) = false := by rfl)
    (ht : eval (.Call (.Attribute o m apos) (e :: es) kws pos) X.env = (do
      let ov ← eval o X.env
      standAt apos.atName
      let (f, first) ← holding [ov] (getMethod ov m pl)
      callWith pos f first (backTo pos (starEach (e :: es) X.env)) (backToKw pos (keywordEach kws X.env))) := by rfl) :
    PE X (.Call (.Attribute o m apos) (e :: es) kws pos) (tMethK C m n ks.length sp gV E ta t tk) := by
  obtain ⟨f, fd, g, h1, h2, h4, h5⟩ := D
  refine ⟨fun pins s σ H Q I h => ?_⟩
  refine PySem.W.methodCall_KW (pl := pl) (thn (he.run pins s σ H _ I h) fun u s1 ⟨x, H1, I1, rx, a, dx, fs, ex, ea, l, q⟩ => ?_) ht
  subst ex
  obtain rfl : u = Value.ref a := rx
  refine getmeth_ok I1 ea h1 h2 l ?_
  refine PySem.W.callWith_KW (first := [.ref a]) (h₀ := X.base) I.ok.mod.kin h2.kp hall (thn (ha.run pos pins s1 σ H1 _ I1 q) fun us s1' ⟨vs, H1', I1', r, q'⟩ => ?_) hpl hst
  refine thn (hkw.run pos pins s1' σ H1' _ I1' q') fun ws s2 ⟨zs, H2, I2, rz, l1, l2, q2⟩ => ⟨I2.kIn, ?_⟩
  rw [hks]
  exact run_fnN (us := .ref a :: us) (vs := .ref a :: vs) h5 (hr.mono hk) h4 hx I2 (.cons rfl r) rz (congrArg Nat.succ l1) l2 q2
theorem pe_makeD (D : Dn X.prog X.w X.K X.mg X.base k C x ps dvs sp) (hr : Room j X.A) (hg : Gl X x) (hx : Passes (L2.CX X.prog X.w) X E) (ha : PA X (e :: es) t) (hk : k + 1 ≤ j := by decide)
    (hdb : (x == ("__debug__" : Str)) = false := by decide) (he : starEach (e :: es) X.env = (false, eval e X.env) :: starEach es X.env := by rfl) (hpl : (backTo pos (starEach es X.env)).any (·.1) = false := by rfl) :
    PE X (.Call (.Name x p) (e :: es) [] pos) (tMake C sp dvs E t) := by
  obtain ⟨f, fd, ds, h1, h2, h3, h4, h5⟩ := D
  exact pe_make h2 h5 (hr.mono hk) hg h1 h4 h3 hx ha hdb he hpl
theorem pe_make0D (D : Dn X.prog X.w X.K X.mg X.base k C x ps dvs sp) (hr : Room j X.A) (hg : Gl X x) (hx : Passes (L2.CX X.prog X.w) X E) (hk : k + 1 ≤ j := by decide)
    (hdb : (x == ("__debug__" : Str)) = false := by decide) : PE X (.Call (.Name x p) [] [] pos) (tMake C sp dvs E tNil) := by
  obtain ⟨f, fd, ds, h1, h2, h3, h4, h5⟩ := D
  exact pe_make0 h2 h5 (hr.mono hk) hg h1 h4 h3 hx hdb
end
section
variable {P : Program} {w : World} {K : PySem.W.Frag} {mg : Str → Option Value} {base : Heap} {k : Nat} {m : Str} {ps ks : List Str} {sp : Sp} {st : Stmt} {f C : Addr} {fd : FuncData} {qual : Str} {kws : List (Str × V)} {dvs : List V}
theorem Dm.of (F : FunD K m qual (defArgs st) (defBody st) (defScope st) [] kws f fd) (hc : Cls K C) (hm : Meth K C m f) (ok : FnOk P w K mg base (L2.CX P w) k f fd ps sp)
    (h : ∀ (kV doc pm : Value) (an : Option Addr) (cdv ct : Value) (us : List Value), us.length = ps.length → bindArgs (PySem.W.fnOf m qual (defArgs st) (defBody st) (defScope st) .none kV doc pm an cdv ct) ⟨us, []⟩ = pure (ps.zip us)) :
    Dm P w K mg base k C m ps [] sp := ⟨f, fd, [], hc, hm, .nil, F.bindsN h, ok⟩
theorem Dm.ofD (F : FunD K m qual (defArgs st) (defBody st) (defScope st) dvs kws f fd) (hc : Cls K C) (hm : Meth K C m f) (ok : FnOk P w K mg base (L2.CX P w) k f fd ps sp) (n j : Nat) (hd : dvs ≠ []) (hn : n + (dvs.length - j) = ps.length)
    (h : ∀ (T : Addr) (kV doc pm : Value) (an : Option Addr) (cdv ct : Value) (us its : List Value), us.length = n → its.length = dvs.length →
      ∃ k, bindArgs (PySem.W.fnOf m qual (defArgs st) (defBody st) (defScope st) (.ref T) kV doc pm an cdv ct) ⟨us, []⟩ = seqItems? (.ref T) >>= k ∧ k (some its.toArray) = pure (ps.zip (us ++ its.drop j))) :
    Dm P w K mg base k C m ps (dvs.drop j) sp := by
  obtain ⟨ds, h1, h2⟩ := F.binds1 n j hd hn h
  exact ⟨f, fd, ds, hc, hm, h1, h2, ok⟩
theorem DmK.of {n : Nat} (F : FunD K m qual (defArgs st) (defBody st) (defScope st) [] kws f fd) (hc : Cls K C) (hm : Meth K C m f) (ok : FnOk P w K mg base (L2.CX P w) k f fd ps sp) (g : {α : Type} → List α → List α → List α)
    (hrel : ∀ {vs zs : List V} {us ws : List Value}, Vals vs us → Vals zs ws → Vals (g vs zs) (g us ws))
    (h : ∀ (kV doc pm : Value) (an : Option Addr) (cdv ct : Value) (us ws : List Value), us.length = n + 1 → ws.length = ks.length → bindArgs (PySem.W.fnOf m qual (defArgs st) (defBody st) (defScope st) .none kV doc pm an cdv ct) ⟨us, ks.zip ws⟩ = pure (ps.zip (g us ws))) :
    DmK P w K mg base k C m ps n ks (fun vs zs => g vs zs) sp := by
  obtain ⟨oc, od, dV, kV, doc, pm, an, cdv, ct, osl, rfl, lk, hcd, hD, hK⟩ := F.ex
  rcases hD with ⟨_, rfl⟩ | ⟨e, _⟩
  · exact ⟨f, _, fun us ws => g us ws, hc, hm, ⟨fun s us ws _ l1 l2 => .of_eq (h kV doc pm an cdv ct us ws l1 l2), fun r1 r2 => hrel r1 r2⟩, ok⟩
  · exact absurd rfl e
theorem Dn.of {x : Str} (F : FunD K m qual (defArgs st) (defBody st) (defScope st) [] kws f fd) (hg : mg x = some (.ref C)) (hm : Mk K C f) (ok : FnOk P w K mg base (L2.CX P w) k f fd ps sp)
    (h : ∀ (kV doc pm : Value) (an : Option Addr) (cdv ct : Value) (us : List Value), us.length = ps.length → bindArgs (PySem.W.fnOf m qual (defArgs st) (defBody st) (defScope st) .none kV doc pm an cdv ct) ⟨us, []⟩ = pure (ps.zip us)) :
    Dn P w K mg base k C x ps [] sp := ⟨f, fd, [], hg, hm, .nil, F.bindsN h, ok⟩
end
/-! ### more built-ins -/
section
variable {X : Cx}
theorem call_repr_bool : CallR X (.builtin "repr") (fun xs H Q => ∃ b : Bool, xs = [.bl b] ∧ Q (.str (if b then "True" else "False")) H) := by
  intro pins s σ H xs us Q I r h
  obtain ⟨b, rfl, q⟩ := h
  obtain ⟨u, rfl, rx⟩ := vals1 r
  cases rx
  exact PySem.P.repr_of_bool ⟨.str _, H, I.tok _, ⟨_, rfl⟩, q⟩
end
/-- all but the object at b stays -/
def But (b : Addr) (H H' : Hp) : Prop := ∀ q o, q ≠ b → H q = some o → H' q = some o
theorem But.refl (b : Addr) (H : Hp) : But b H H := fun _ _ _ e => e
theorem But.trans {b : Addr} {H H1 H2 : Hp} (x : But b H H1) (y : But b H1 H2) : But b H H2 := fun q o n e => y q o n (x q o n e)
theorem But.of {b : Addr} {H H' : Hp} (x : Same H H') : But b H H' := fun q o _ e => x q o e
theorem But.upd {b : Addr} {H : Hp} {o : HO} : But b H (upd H b o) := fun q o' n e => by rw [upd_ne n]; exact e
theorem But.same {b : Addr} {H H1 H2 : Hp} (x : Same H H1) (n : H b = none) (y : But b H1 H2) : Same H H2 := fun q o e => y q o (ne_of_none e n) (x q o e)
/-! ### footprints -/
/-- all that stands outside F stays -/
def Keep (F : List Addr) (H H' : Hp) : Prop := ∀ a o, a ∉ F → H a = some o → H' a = some o
/-- F' is made of F and of new places -/
def New (F F' : List Addr) (H : Hp) : Prop := ∀ a ∈ F', a ∈ F ∨ H a = none
def Dis (F G : List Addr) : Prop := ∀ a ∈ F, a ∉ G
def Trk (F : List Addr) (H : Hp) : Prop := ∀ a ∈ F, ∃ o, H a = some o
/-- the places of F are free in H0 -/
def Fre (H0 : Hp) (F : List Addr) : Prop := ∀ a ∈ F, H0 a = none
theorem Keep.refl (F : List Addr) (H : Hp) : Keep F H H := fun _ _ _ e => e
theorem Keep.trans {F : List Addr} {H H1 H2 : Hp} (x : Keep F H H1) (y : Keep F H1 H2) : Keep F H H2 := fun a o n e => y a o n (x a o n e)
theorem Keep.of {F : List Addr} {H H' : Hp} (x : Same H H') : Keep F H H' := fun a o _ e => x a o e
theorem Keep.mono {F G : List Addr} {H H' : Hp} (x : Keep F H H') (h : ∀ a ∈ F, a ∈ G) : Keep G H H' := fun a o n e => x a o (fun z => n (h a z)) e
theorem Keep.upd {F : List Addr} {H : Hp} {b : Addr} {o : HO} (h : b ∈ F) : Keep F H (L2.upd H b o) := fun a o' n e => by
  rw [upd_ne (fun z => n (by rw [z]; exact h))]
  exact e
theorem Keep.new {F : List Addr} {H : Hp} {b : Addr} {o : HO} (h : H b = none) : Keep F H (L2.upd H b o) := .of (Same.upd h)
/-- a change of F and of what is new behind it -/
theorem Keep.then {F F' : List Addr} {H H1 H2 : Hp} (x : Keep F H H1) (n : New F F' H) (y : Keep F' H1 H2) : Keep F H H2 := fun a o na e => y a o (fun z => by
  rcases n a z with q | q
  · exact na q
  · rw [q] at e
    cases e) (x a o na e)
theorem Keep.same {F : List Addr} {H0 H H' : Hp} (s : Same H0 H) (f : Fre H0 F) (x : Keep F H H') : Same H0 H' := fun a o e => x a o (fun z => by
  rw [f a z] at e
  cases e) (s a o e)
theorem Keep.at {F : List Addr} {H H' : Hp} {a : Addr} {o : HO} (x : Keep F H H') (n : a ∉ F) (e : H a = some o) : H' a = some o := x a o n e
theorem Dis.symm {F G : List Addr} (d : Dis F G) : Dis G F := fun a h z => d a z h
theorem Dis.step {F F' G : List Addr} {H : Hp} (d : Dis F G) (n : New F F' H) (t : Trk G H) : Dis F' G := fun a h z => by
  rcases n a h with q | q
  · exact d a q z
  · obtain ⟨o, e⟩ := t a z
    rw [q] at e
    cases e
theorem New.refl (F : List Addr) (H : Hp) : New F F H := fun _ h => .inl h
theorem New.trans {F F1 F2 : List Addr} {H H1 : Hp} (x : New F F1 H) (y : New F1 F2 H1) (h : ∀ a, H1 a = none → H a = none) : New F F2 H := fun a ha => by
  rcases y a ha with q | q
  · exact x a q
  · exact .inr (h a q)
theorem Fre.step {H0 H : Hp} {F F' : List Addr} (s : Same H0 H) (f : Fre H0 F) (n : New F F' H) : Fre H0 F' := fun a h => by
  rcases n a h with q | q
  · exact f a q
  · exact s.free q
theorem Trk.keep {F G : List Addr} {H H' : Hp} (t : Trk G H) (d : Dis F G) (x : Keep F H H') : Trk G H' := fun a h => by
  obtain ⟨o, e⟩ := t a h
  exact ⟨o, x a o (d.symm a h) e⟩
theorem Trk.same {G : List Addr} {H H' : Hp} (t : Trk G H) (x : Same H H') : Trk G H' := fun a h => by
  obtain ⟨o, e⟩ := t a h
  exact ⟨o, x a o e⟩
/-- what is new in H is apart from what is tracked -/
theorem Dis.fresh {F G : List Addr} {H : Hp} (f : Fre H F) (t : Trk G H) : Dis F G := fun a h z => by
  obtain ⟨o, e⟩ := t a z
  rw [f a h] at e
  cases e
theorem ndp {L : List Addr} (nd : L.Nodup) (i j : Nat) {a b : Addr} (hi : L[i]? = some a := by rfl) (hj : L[j]? = some b := by rfl) (h : i ≠ j := by decide) : a ≠ b := by
  rintro rfl
  obtain ⟨h1, e1⟩ := List.getElem?_eq_some_iff.mp hi
  obtain ⟨h2, e2⟩ := List.getElem?_eq_some_iff.mp hj
  exact h ((List.getElem_inj nd).mp (e1.trans e2.symm))
theorem notin1 {a b : Addr} (h : a ≠ b) : a ∉ [b] := by simp [h]
theorem notin2 {a b c : Addr} (h : a ≠ b) (h' : a ≠ c) : a ∉ [b, c] := by simp [h, h']
theorem notin3 {a b c d : Addr} (h : a ≠ b) (h' : a ≠ c) (h'' : a ≠ d) : a ∉ [b, c, d] := by simp [h, h', h'']
theorem dis1 {F : List Addr} {a : Addr} (h : a ∉ F) : Dis F [a] := fun b hb z => h (by rw [← List.mem_singleton.mp z]; exact hb)
theorem dis3 {F : List Addr} {a b c : Addr} (h : a ∉ F) (h' : b ∉ F) (h'' : c ∉ F) : Dis F [a, b, c] := fun x hx z => by
  simp only [List.mem_cons, List.not_mem_nil, or_false] at z
  rcases z with z | z | z <;> subst z
  · exact h hx
  · exact h' hx
  · exact h'' hx
theorem eqvAll_ints : ∀ ns ms : List Int, PyData.eqvAll (ns.map PyData.int) (ms.map PyData.int) = decide (ns = ms)
  | [], [] => rfl
  | [], m :: ms => by simp [PyData.eqvAll]
  | n :: ns, [] => by simp [PyData.eqvAll]
  | n :: ns, m :: ms => by
    have ih := eqvAll_ints ns ms
    simp only [List.map_cons, PyData.eqvAll, PyData.eqv, ih, List.cons.injEq]
    by_cases h : n = m <;> by_cases h2 : ns = ms <;> simp [h, h2]
theorem eqD_ints {K : PySem.W.Frag} {H : Hp} {a b : Addr} {ns ms : List Int} {Q : VK} (ha : SqL K H a (ns.map V.int)) (hb : SqL K H b (ms.map V.int)) (q : Q (.bl (decide (ns = ms))) H) : rEqD K (.ref a) (.ref b) H Q := by
  refine ⟨_, _, .lst ha (dp_ints ns), .lst hb (dp_ints ms), PySem.W.shaped_ints _, PySem.W.shaped_ints _, ?_⟩
  have e : PyData.eqv (.list (ns.map PyData.int)) (.list (ms.map PyData.int)) = decide (ns = ms) := by
    simp only [PyData.eqv]
    exact eqvAll_ints ns ms
  rw [e]
  exact q
theorem neD_ints {K : PySem.W.Frag} {H : Hp} {a b : Addr} {ns ms : List Int} {Q : VK} (ha : SqL K H a (ns.map V.int)) (hb : SqL K H b (ms.map V.int)) (q : Q (.bl (!decide (ns = ms))) H) : rNeD K (.ref a) (.ref b) H Q := by
  refine ⟨_, _, .lst ha (dp_ints ns), .lst hb (dp_ints ms), PySem.W.shaped_ints _, PySem.W.shaped_ints _, ?_⟩
  have e : PyData.eqv (.list (ns.map PyData.int)) (.list (ms.map PyData.int)) = decide (ns = ms) := by
    simp only [PyData.eqv]
    exact eqvAll_ints ns ms
  rw [e]
  exact q
/-! ### bits -/
theorem bits_eq (n : Nat) : Builtin.Int.intBits (n : Int) = if n = 0 then 0 else n.log2 + 1 := by
  unfold Builtin.Int.intBits
  by_cases h : n = 0
  · subst h
    rfl
  · have e : ((n : Int) == 0) = false := beq_eq_false_iff_ne.mpr (by omega)
    rw [e, if_neg h]
    rfl
theorem bits_lt (n : Nat) : n < 2 ^ Builtin.Int.intBits (n : Int) := by
  rw [bits_eq]
  split
  · rename_i h
    subst h
    decide
  · exact Nat.lt_log2_self
theorem bits_le {a b : Nat} (h : a < 2 ^ b) : Builtin.Int.intBits (a : Int) ≤ b := by
  rw [bits_eq]
  split
  · exact Nat.zero_le _
  · rename_i h0
    have := (Nat.log2_lt h0 (k := b)).mpr h
    omega
theorem pow_cast (j : Nat) : ((2 ^ j : Nat) : Int) = 2 ^ j := by simp
theorem div_pow_cast (n j : Nat) : (n : Int) / 2 ^ j = ((n / 2 ^ j : Nat) : Int) := by simp
theorem divw_pow (i : Int) {j : Nat} (h : j ≤ 1000) : CDivW i ((2 ^ j : Nat) : Int) := by
  have p : 0 < 2 ^ j := Nat.pow_pos (by decide)
  refine ⟨by omega, ?_⟩
  show (2 ^ j).log2 < 9000
  rw [Nat.log2_two_pow]
  omega
theorem cshl_nat {a j : Nat} (b : Nat) (h : a < 2 ^ b) (hb : b ≤ 1000) (hj : j ≤ 1000) : CShl (a : Int) (j : Int) := by
  refine ⟨by omega, ?_⟩
  have := bits_le h
  omega
/-! ### the end of a law -/
theorem walk_ofG {l : PySem.W.OpenLaw} {n k : Nat} {q : Program} {loose : List Str} {XP : (Str → Option Value) → Heap → Prop} {YP : World → Heap → Prop} {d : DefRec} {x : Str}
    (hn : l.most = some n) (hn2 : n ≤ sizeLine) (hdf : d.params.defaults = []) (hr : Room k callerA)
    (F : ∀ (w : World) (mg : Str → Option Value) (fa : Addr) (h : Heap), YP w h → h.Ns mainGlobals mg → mg d.name = some (.ref fa) →
      ∃ (K : PySem.W.Frag) (fd : FuncData) (sp : Sp), K.In h ∧ (∀ (s : Shared) (u : Value), BindsTo s fd ⟨[u], []⟩ [(x, u)]) ∧
        (∀ (H : Hp) (a : Addr) (ns : List Int), ns.length ≤ n → (∀ z ∈ ns, Builtin.Int.intBits z ≤ 1048576) → Only H → SqL K H a (ns.map V.int) → sp [.ref a] H (fun v _ => v = .bl true) fun _ _ _ => False) ∧
        ∀ base : Heap, K.In base → base.Ns mainGlobals mg → FnOk l.prog w K mg base (L2.CX l.prog w) k fa fd [x] sp) :
    PySem.W.WalkO q loose XP YP l.row.toRowW d [] (fun f vs => PySem.call f vs) := by
  refine Att.attach_callB hn hdf fun w s₀ s₁ mg mb fa o pm cd doc a vs ns G Y ho hd hcd hmg hobj hints hlen hbits hg => ?_
  obtain ⟨K, fd, sp, KX, hb, hsp, hF⟩ := F w mg fa _ Y G.T.g hmg
  refine law_call KX G.T.g G.T.b G.T.builtins G.T.nolimit hg hobj hints (Nat.le_trans hlen hn2) hr hF hb (fun H hO hS => hsp H a ns hlen hbits hO hS) fun H e s' h => ?_
  obtain ⟨_, _, _, _, _, _, _, _, _, _, _, _, z⟩ := h
  exact z
end G
namespace K79
open PySem PySem.Spec PyProof.Rows L2 G
def top (i : Nat) : Stmt := PySem.Challenge.pw_oncebuilt_k79_sums_without_carry.main.body.getD i (.Pass ⟨0, 0, 0, 0⟩)
local macro_rules | `(tactic| walk_at "rd") => `(tactic| try simp only [tSeq, tAsg, tC, gName, tIfS, tTest, tB, tOp, tUn, rI0, rI, rU, tVar, tCB, tCons, tNil, tNext, tRet, tRetN, tDrop, tLst, tTup, rIxL, rIxT, tCall, tCallN, tPar, tAug, ipI, tAnd, tOr, tNot, tAndV, tOrV, tNotV, tIf, tBits, gSub, rSetL, cxOf, L2.start, rIsB, rListD, tFld, sFld, sFldAug, rAdd, rSub, tMeth, tMake, tMethK, tDGet, tDIn, tDNotIn, sDPut, sDDel, tDisp, tPairs, rPop, gTup, gCons, gNil, if_true, if_false, Bool.not_true, Bool.not_false, Bool.false_eq_true, tFor_eq, tLc_eq, tYes, wipe, rEq, rNe, tBreak, tCont, tChain, iRng1, iRng2, iRng3, iList, tBM, tBM0, rAppend, TruV, List.map_cons, List.map_nil, List.length_cons, List.length_nil, Nat.reduceAdd, Nat.reduceSub, List.replicate_succ, List.replicate_zero, List.replicate, List.cons_append, List.nil_append, List.append_nil, List.getElem?_cons_zero, List.getElem?_cons_succ, Option.some.injEq, exists_eq_left', exists_eq_left, List.set_cons_zero, List.set_cons_succ, V.int.injEq, V.bl.injEq, V.ref.injEq, V.str.injEq, List.cons.injEq, and_true, true_and, and_assoc, exists_and_left, decide_eq_true_eq, exists_const])
structure Txt (K : PySem.W.Frag) (mg : Str → Option Value) : Prop where
  b_abs : mg "abs" = none
  b_len : mg "len" = none
  b_list : mg "list" = none
  b_max : mg "max" = none
  b_min : mg "min" = none
  b_range : mg "range" = none
  b_repr : mg "repr" = none
  c_Span : Cls K (He.ga K "Span")
  g_Span : mg "Span" = some (.ref (He.ga K "Span"))
  n_Span_basis : NoAttr K (He.ga K "Span") "basis"
  n_Span_lengths : NoAttr K (He.ga K "Span") "lengths"
variable {P : Program} {w : World} {K : PySem.W.Frag} {mg : Str → Option Value} {base : Heap} {f : Addr} {fd : FuncData}
abbrev s_bag : Stmt := top 3
theorem sc_bag : FnScope ["_law_script", "_law_at", "_law_cell", "_law_great", "_law_primes"] ["_law_script", "_law_at"] (defScope s_bag) := ⟨rfl, rfl, rfl, by decide +kernel, rfl, by decide +kernel, by decide +kernel⟩
def sp_bag (K : PySem.W.Frag) : Sp := fun vs H Q _ => ∃ (a : Addr) (ns : List Int) (i : Int), vs = [.ref a, .int i] ∧ SqL K H a (ns.map V.int) ∧ ns.length ≤ 63 ∧ 0 ≤ i ∧ i ≤ 1000 ∧
  ∀ (p : Addr) (H' : Hp) (g s : Int), Same H H' → H p = none → H' p = some (.lst [.int g, .int s, .int 0]) → Q (.ref p) H'
theorem ok_bag (T : Txt K mg)  (F : FunD K "_law_bag" "_law_bag" (defArgs s_bag) (defBody s_bag) (defScope s_bag) [] [] f fd) : FnOk P w K mg base (L2.CX P w) 1 f fd ["_law_script", "_law_at"] (sp_bag K) := by
  refine F.ok sc_bag (fun vs H Q E h => ?_) (fun cdv A outer s H vs Q E hr h => ?_)
  · obtain ⟨a, ns, i, rfl, _⟩ := h
    rfl
  · have hu := hu_of hr
    obtain ⟨a, ns, i, rfl, hS, hl, h0, h1, k⟩ := h
    refine ⟨_, (pss_cons (ps_set (i := 2) sc_bag.nd rfl (Or.inl rfl) pe_int)
      (pss_cons (ps_if (pt_cmpR op_lt (pv 1) (pe_callB call_len (by rfl) T.b_len (by decide +kernel) (pa_cons (pv 0) pa_nil)) (nomark _)) (pss_one (ps_set (i := 2) sc_bag.nd rfl (Or.inl rfl) (pe_ix ix_list (pv 0) (pv 1) (fun _ _ => rfl)))) pss_nil)
      (pss_cons (ps_set (i := 3) sc_bag.nd rfl (Or.inl rfl) pe_int)
      (pss_cons (ps_if (pt_cmpR op_ge (pe_callB call_abs (by rfl) T.b_abs (by decide +kernel) (pa_cons (pv 2) pa_nil)) (pe_op op_pow pe_int pe_int) (nomark _)) (pss_one (ps_set (i := 3) sc_bag.nd rfl (Or.inl rfl) (pe_callB call_abs (by rfl) T.b_abs (by decide +kernel) (pa_cons (pv 2) pa_nil)))) pss_nil)
      (pss_cons (ps_set (i := 4) sc_bag.nd rfl (Or.inl rfl) (pe_lst (pa_cons pe_int (pa_cons pe_int (pa_cons pe_int (pa_cons pe_int (pa_cons pe_int (pa_cons pe_int (pa_cons pe_int (pa_cons pe_int pa_nil))))))))))
      (pss_one (ps_ret (pe_lst (pa_cons (pv 3) (pa_cons (pe_op op_mod (pe_op op_pow (pe_op op_add (pe_op op_add (pe_op op_mod (pv 2) pe_int) (pe_op op_mul pe_int (pv 1))) pe_int) pe_int) (pe_ix ix_list (pv 4) (pe_op op_mod (pv 1) pe_int) (fun _ _ => rfl))) (pa_cons pe_int pa_nil))))))))))), ?_⟩
    refine seq_cut2 (fun σ H' => H' = H ∧ ∃ c : Int, σ = [some (.ref a), some (.int i), some (.int c), none, none]) (fun N hN => ?_) ?_
    · walk_at "rd"
      refine ⟨_, len_of hS, ite2 (fun hi => ?_) (fun _ => hN _ _ ⟨rfl, _, rfl⟩)⟩
      rw [List.length_map] at hi
      have hi2 : i.toNat < ns.length := by omega
      refine ⟨_, hS, _, atI_of h0 (v := .int ns[i.toNat]) (by simp [hi2]), hN _ _ ⟨rfl, _, rfl⟩⟩
    · rintro _ H1 ⟨rfl, c, rfl⟩
      refine seq_cut2 (fun σ H' => H' = H1 ∧ ∃ g : Int, σ = [some (.ref a), some (.int i), some (.int c), some (.int g), none]) (fun N hN => ?_) ?_
      · walk_at "rd"
        exact ⟨⟨by decide, by decide, by decide⟩, ite2 (fun _ => hN _ _ ⟨rfl, _, rfl⟩) (fun _ => hN _ _ ⟨rfl, _, rfl⟩)⟩
      · rintro _ H2 ⟨rfl, g, rfl⟩
        walk_at "rd"
        have hm := Int.emod_nonneg c (show (2147483647 : Int) ≠ 0 by decide)
        have hm2 := Int.emod_lt_of_pos c (show (0 : Int) < 2147483647 by decide)
        refine ⟨by decide, fun p hp => ⟨by decide, .inl ⟨by decide, by decide⟩, ⟨by decide, by decide, by omega⟩, by decide, _, SqL.of upd_same, ?_⟩⟩
        have h8 : i % 8 = 0 ∨ i % 8 = 1 ∨ i % 8 = 2 ∨ i % 8 = 3 ∨ i % 8 = 4 ∨ i % 8 = 5 ∨ i % 8 = 6 ∨ i % 8 = 7 := by omega
        rcases h8 with e | e | e | e | e | e | e | e <;> rw [e] <;> refine ⟨_, rfl, _, rfl, by decide, by decide, fun q hq => k q _ _ _ ?_ ?_ upd_same⟩
        all_goals first
          | exact (G.Same.upd hp).trans (G.Same.upd hq)
          | exact (G.Same.upd hp).free hq
abbrev s_take : Stmt := top 4
theorem sc_take : FnScope ["_law_bag_here", "_law_many", "_law_digit"] ["_law_bag_here", "_law_many"] (defScope s_take) := ⟨rfl, rfl, rfl, by decide +kernel, rfl, by decide +kernel, by decide +kernel⟩
def sp_take : Sp := fun vs H Q _ => ∃ (b : Addr) (g s c n : Int), vs = [.ref b, .int n] ∧ H b = some (.lst [.int g, .int s, .int c]) ∧ 0 < n ∧ n < 2 ^ 200 ∧
  ∀ r g' s' c' : Int, 0 ≤ r → r < n → Q (.int r) (upd H b (.lst [.int g', .int s', .int c']))
theorem ok_take (T : Txt K mg)  (F : FunD K "_law_take" "_law_take" (defArgs s_take) (defBody s_take) (defScope s_take) [] [] f fd) : FnOk P w K mg base (L2.CX P w) 1 f fd ["_law_bag_here", "_law_many"] sp_take := by
  refine F.ok sc_take (fun vs H Q E h => ?_) (fun cdv A outer s H vs Q E hr h => ?_)
  · obtain ⟨b, g, s, c, n, rfl, _⟩ := h
    rfl
  · have hu := hu_of hr
    obtain ⟨b, g, s', c, n, rfl, hb, n0, n1, k⟩ := h
    refine ⟨_, (pss_cons (ps_if (pt_cmpR op_gt (pe_ix ix_list (pv 0) pe_int (fun _ _ => rfl)) pe_int (nomark _)) (pss_cons (ps_set (i := 2) sc_take.nd rfl (Or.inl rfl) (pe_op op_mod (pe_ix ix_list (pv 0) pe_int (fun _ _ => rfl)) (pv 1)))
        (pss_cons (ps_asg (pe_op op_fdivW (pe_ix ix_list (pv 0) pe_int (fun _ _ => rfl)) (pv 1)) (pg_sub (pv 0) pe_int set_list))
        (pss_one (ps_ret (pv 2))))) pss_nil)
      (pss_cons (ps_asg (pe_op op_add (pe_ix ix_list (pv 0) pe_int (fun _ _ => rfl)) pe_int) (pg_sub (pv 0) pe_int set_list))
      (pss_cons (ps_asg (pe_op op_mod (pe_op op_add (pe_op op_add (pe_op op_mul (pe_ix ix_list (pv 0) pe_int (fun _ _ => rfl)) pe_int) (pe_op op_mul pe_int (pe_ix ix_list (pv 0) pe_int (fun _ _ => rfl)))) pe_int) pe_int) (pg_sub (pv 0) pe_int set_list))
      (pss_one (ps_ret (pe_op op_mod (pe_op op_mod (pe_op op_pow (pe_op op_fdiv (pe_ix ix_list (pv 0) pe_int (fun _ _ => rfl)) pe_int) pe_int) pe_int) (pv 1))))))), ?_⟩
    walk_at "rd"
    refine ⟨_, SqL.of hb, _, rfl, _, rfl, ?_⟩
    refine ite2 (fun hg => ?_) (fun hg => ?_)
    · refine ⟨_, SqL.of hb, _, rfl, _, rfl, n0, _, SqL.of hb, _, rfl, _, rfl, wide_div n0 (b := 200) (by omega) (by decide) (by decide), _, hb, _, rfl, ?_⟩
      exact k _ _ _ _ (Int.emod_nonneg _ (by omega)) (Int.emod_lt_of_pos _ n0)
    · refine ⟨_, SqL.of hb, _, rfl, _, rfl, _, hb, _, rfl, _, SqL.of upd_same, _, rfl, _, rfl, .inr ⟨by decide, by decide⟩, _, SqL.of upd_same, _, rfl, _, rfl, .inl ⟨by decide, by decide⟩, by decide, _, upd_same, _, rfl, _, SqL.of upd_same, _, rfl, _, rfl, ⟨by decide, by decide⟩, ?_⟩
      refine ⟨⟨by decide, by decide, ?_⟩, by decide, n0, ?_⟩
      · have hm := Int.emod_nonneg (s' * 48271 + 6661 * (c + 1) + 17) (show (2147483647 : Int) ≠ 0 by decide)
        have hm2 := Int.emod_lt_of_pos (s' * 48271 + 6661 * (c + 1) + 17) (show (0 : Int) < 2147483647 by decide)
        omega
      · rw [upd_upd]
        exact k _ _ _ _ (Int.emod_nonneg _ (by omega)) (Int.emod_lt_of_pos _ n0)
namespace S
/-! xor bases -/
def bl (n : Nat) : Nat := if n = 0 then 0 else n.log2 + 1
theorem bl_zero : bl 0 = 0 := rfl
theorem bl_pos {n : Nat} (h : n ≠ 0) : bl n = n.log2 + 1 := if_neg h
theorem bl_le {n k : Nat} : bl n ≤ k ↔ n < 2 ^ k := by
  by_cases h : n = 0
  · subst h
    have := Nat.pow_pos (n := k) (show 0 < 2 by decide)
    simp [bl_zero, this]
  · rw [bl_pos h, ← Nat.log2_lt h]
    omega
theorem bl_eq_zero {n : Nat} : bl n = 0 ↔ n = 0 := by
  constructor
  · intro h
    have : n < 2 ^ 0 := bl_le.mp (by omega)
    simpa using this
  · intro h
    rw [h, bl_zero]
theorem lt_bl (n : Nat) : n < 2 ^ bl n := bl_le.mp (Nat.le_refl _)
theorem top_bit {n : Nat} (h : n ≠ 0) : n.testBit (bl n - 1) = true := by
  have e : bl n - 1 = n.log2 := by rw [bl_pos h]; omega
  rw [e]
  exact Nat.testBit_log2 h
theorem bl_of_bit {n k : Nat} (h : n < 2 ^ (k + 1)) (b : n.testBit k = true) : bl n = k + 1 := by
  have h1 : bl n ≤ k + 1 := bl_le.mpr h
  rcases Nat.lt_or_ge (bl n) (k + 1) with z | z
  · have h2 : n < 2 ^ k := bl_le.mp (by omega)
    rw [Nat.testBit_lt_two_pow h2] at b
    cases b
  · omega
theorem xor_less {x b : Nat} (h : x ≠ 0) (e : bl b = bl x) : bl (x ^^^ b) < bl x := by
  have hb : b ≠ 0 := fun z => by rw [z, bl_zero] at e; exact h (bl_eq_zero.mp e.symm)
  have h1 : x ^^^ b < 2 ^ bl x := Nat.xor_lt_two_pow (lt_bl x) (by rw [← e]; exact lt_bl b)
  have h2 : (x ^^^ b).testBit (bl x - 1) = false := by
    rw [Nat.testBit_xor, top_bit h, ← e, top_bit hb]
    rfl
  have p : 0 < bl x := by
    rcases Nat.eq_zero_or_pos (bl x) with z | z
    · exact absurd (bl_eq_zero.mp z) h
    · exact z
  have : x ^^^ b < 2 ^ (bl x - 1) := by
    refine Nat.lt_pow_two_of_testBit _ fun i hi => ?_
    by_cases z : i = bl x - 1
    · rw [z, h2]
    · exact Nat.testBit_lt_two_pow (Nat.lt_of_lt_of_le h1 (Nat.pow_le_pow_right (by decide) (by omega)))
  have := bl_le.mpr this
  omega
theorem xor_max {a b : Nat} (h : bl a < bl b) : bl (a ^^^ b) = bl b := by
  have hb : b ≠ 0 := fun z => by rw [z, bl_zero] at h; omega
  have e : bl b = (bl b - 1) + 1 := by omega
  rw [e]
  refine bl_of_bit ?_ ?_
  · rw [← e]
    exact Nat.xor_lt_two_pow (Nat.lt_of_lt_of_le (lt_bl a) (Nat.pow_le_pow_right (by decide) (by omega))) (lt_bl b)
  · rw [Nat.testBit_xor, top_bit hb, Nat.testBit_lt_two_pow (bl_le.mp (by omega))]
    rfl
/-- what is in the span of a list (the newest first) -/
def Sp : List Nat → Nat → Prop
  | [], x => x = 0
  | y :: l, x => Sp l x ∨ Sp l (x ^^^ y)
theorem sp_zero : ∀ l, Sp l 0
  | [] => rfl
  | _ :: l => .inl (sp_zero l)
theorem xor3 (a b c : Nat) : a ^^^ b ^^^ c = a ^^^ c ^^^ b := by rw [Nat.xor_assoc, Nat.xor_assoc, Nat.xor_comm b c]
theorem xor_self_mid (a b : Nat) : a ^^^ b ^^^ b = a := by rw [Nat.xor_assoc, Nat.xor_self, Nat.xor_zero]
theorem sp_xor : ∀ l {a b}, Sp l a → Sp l b → Sp l (a ^^^ b)
  | [], a, b, ha, hb => by
    have ha : a = 0 := ha
    have hb : b = 0 := hb
    subst ha hb
    rfl
  | y :: l, a, b, ha, hb => by
    rcases ha with ha | ha <;> rcases hb with hb | hb
    · exact .inl (sp_xor l ha hb)
    · have := sp_xor l ha hb
      rw [← Nat.xor_assoc] at this
      exact .inr this
    · have := sp_xor l ha hb
      rw [xor3] at this
      exact .inr this
    · have := sp_xor l ha hb
      rw [← Nat.xor_assoc, xor3 a y b, xor_self_mid] at this
      exact .inl this
theorem sp_head {l : List Nat} (y : Nat) : Sp (y :: l) y := .inr (by rw [Nat.xor_self]; exact sp_zero l)
/-- a new one that is in the span already changes nothing -/
theorem sp_old {l : List Nat} {y : Nat} (h : Sp l y) (x : Nat) : Sp (y :: l) x ↔ Sp l x := by
  constructor
  · rintro (z | z)
    · exact z
    · have := sp_xor l z h
      rwa [xor_self_mid] at this
  · exact .inl
theorem sp_swap {l : List Nat} {y z : Nat} (h : Sp l (y ^^^ z)) (x : Nat) : Sp (y :: l) x ↔ Sp (z :: l) x := by
  have one : ∀ {y z : Nat}, Sp l (y ^^^ z) → Sp (y :: l) x → Sp (z :: l) x := by
    intro y z h k
    rcases k with k | k
    · exact .inl k
    · have := sp_xor l k h
      rw [← Nat.xor_assoc, xor_self_mid] at this
      exact .inr this
  exact ⟨one h, one (by rw [Nat.xor_comm]; exact h)⟩
/-- the basis: (length, integer), the newest last -/
abbrev Bs := List (Nat × Nat)
def rest (B : Bs) (x : Nat) : Nat := match B.lookup (bl x) with
  | some b => if h : x ^^^ b < x then rest B (x ^^^ b) else x
  | none => x
termination_by x
structure Ok (B : Bs) (l : List Nat) : Prop where
  len : ∀ p ∈ B, p.1 = bl p.2 ∧ p.2 ≠ 0
  nd : (B.map (·.1)).Nodup
  sp : ∀ x, Sp (B.reverse.map (·.2)) x ↔ Sp l x
theorem lookup_mem {k b : Nat} : ∀ {B : Bs}, B.lookup k = some b → (k, b) ∈ B
  | [], h => by cases h
  | (k', b') :: r, h => by
    by_cases e : k = k'
    · subst e
      simp [List.lookup] at h
      subst h
      exact List.mem_cons_self
    · have : (k == k') = false := by simpa using e
      simp [List.lookup, this] at h
      exact List.mem_cons_of_mem _ (lookup_mem h)
theorem lookup_none {k : Nat} : ∀ {B : Bs}, B.lookup k = none → k ∉ B.map (·.1)
  | [], _ => by simp
  | (k', b') :: r, h => by
    by_cases e : k = k'
    · subst e
      simp [List.lookup] at h
    · have : (k == k') = false := by simpa using e
      have h : r.lookup k = none := by simpa only [List.lookup, this] using h
      have := lookup_none h
      rw [List.map_cons, List.mem_cons]
      rintro (z | z)
      · exact e z
      · exact this z
theorem sp_mem : ∀ {l : List Nat} {y}, y ∈ l → Sp l y
  | z :: l, y, h => by
    rcases List.mem_cons.mp h with e | e
    · subst e
      exact sp_head _
    · exact .inl (sp_mem e)
theorem bl_lt_of {a b : Nat} (h : bl a < bl b) : a < b := by
  rcases Nat.lt_or_ge a b with z | z
  · exact z
  · have := bl_le.mpr (Nat.lt_of_le_of_lt z (lt_bl a))
    omega
theorem ok_less {B : Bs} {l : List Nat} (o : Ok B l) {x b : Nat} (h : B.lookup (bl x) = some b) : x ≠ 0 ∧ bl (x ^^^ b) < bl x ∧ x ^^^ b < x ∧ Sp l b := by
  have m := lookup_mem h
  obtain ⟨e1, e2⟩ := o.len _ m
  have hx : x ≠ 0 := fun z => by
    rw [z, bl_zero] at e1
    exact e2 (bl_eq_zero.mp e1.symm)
  have q := xor_less hx e1.symm
  refine ⟨hx, q, bl_lt_of q, (o.sp b).mp (sp_mem ?_)⟩
  exact List.mem_map.mpr ⟨_, List.mem_reverse.mpr m, rfl⟩
theorem rest_step {B : Bs} {l : List Nat} (o : Ok B l) {x b : Nat} (h : B.lookup (bl x) = some b) : rest B x = rest B (x ^^^ b) := by
  obtain ⟨_, _, h3, _⟩ := ok_less o h
  rw [rest, h]
  simp only [dif_pos h3]
theorem rest_end {B : Bs} {x : Nat} (h : B.lookup (bl x) = none) : rest B x = x := by
  rw [rest, h]
theorem rest_spec {B : Bs} {l : List Nat} (o : Ok B l) (x : Nat) : Sp l (x ^^^ rest B x) ∧ B.lookup (bl (rest B x)) = none := by
  induction x using Nat.strongRecOn with
  | _ x ih =>
    cases h : B.lookup (bl x) with
    | none =>
      rw [rest_end h, Nat.xor_self]
      exact ⟨sp_zero l, h⟩
    | some b =>
      obtain ⟨_, _, h3, h4⟩ := ok_less o h
      rw [rest_step o h]
      obtain ⟨i1, i2⟩ := ih _ h3
      refine ⟨?_, i2⟩
      have := sp_xor l i1 h4
      rw [xor3 (x ^^^ b), xor_self_mid] at this
      exact this
theorem top_in : ∀ {B : Bs}, (∀ p ∈ B, p.1 = bl p.2 ∧ p.2 ≠ 0) → (B.map (·.1)).Nodup → ∀ v, Sp (B.map (·.2)) v → v ≠ 0 → bl v ∈ B.map (·.1)
  | [], _, _, v, h, n => absurd h n
  | (k, b) :: r, hl, nd, v, h, n => by
    have nd' := (List.nodup_cons.mp nd)
    have hl' : ∀ p ∈ r, p.1 = bl p.2 ∧ p.2 ≠ 0 := fun p hp => hl p (List.mem_cons_of_mem _ hp)
    obtain ⟨ek, eb⟩ := hl (k, b) List.mem_cons_self
    have ek : k = bl b := ek
    rcases h with h | h
    · exact List.mem_cons_of_mem _ (top_in hl' nd'.2 v h n)
    · have h : Sp (r.map (·.2)) (v ^^^ b) := h
      by_cases z : v ^^^ b = 0
      · have e : v = b := by
          have := congrArg (· ^^^ b) z
          simp only [xor_self_mid, Nat.zero_xor] at this
          exact this
        subst e
        rw [← ek]
        exact List.mem_cons_self
      · have i := top_in hl' nd'.2 _ h z
        have e : v = v ^^^ b ^^^ b := (xor_self_mid v b).symm
        rcases Nat.lt_trichotomy (bl (v ^^^ b)) (bl b) with q | q | q
        · rw [e, xor_max q, ← ek]
          exact List.mem_cons_self
        · rw [q, ← ek] at i
          exact absurd i nd'.1
        · rw [e, Nat.xor_comm, xor_max q]
          exact List.mem_cons_of_mem _ i
theorem rest_zero {B : Bs} {l : List Nat} (o : Ok B l) (x : Nat) : rest B x = 0 ↔ Sp l x := by
  obtain ⟨h1, h2⟩ := rest_spec o x
  constructor
  · intro e
    rw [e, Nat.xor_zero] at h1
    exact h1
  · intro h
    have h3 : Sp l (rest B x) := by
      have := sp_xor l h h1
      rwa [← Nat.xor_assoc, Nat.xor_self, Nat.zero_xor] at this
    by_cases z : rest B x = 0
    · exact z
    · have o2 : ∀ p ∈ B.reverse, p.1 = bl p.2 ∧ p.2 ≠ 0 := fun p hp => o.len p (List.mem_reverse.mp hp)
      have nd2 : (B.reverse.map (·.1)).Nodup := by rw [List.map_reverse]; exact (List.reverse_perm _).nodup_iff.mpr o.nd
      have i := top_in o2 nd2 _ ((o.sp _).mpr h3) z
      rw [List.map_reverse, List.mem_reverse] at i
      exact absurd i (lookup_none h2)
/-- the basis of a stack (the newest first) -/
def bas : List Nat → Bs
  | [] => []
  | x :: l => if rest (bas l) x = 0 then bas l else bas l ++ [(bl (rest (bas l) x), rest (bas l) x)]
def lens : List Nat → List Nat
  | [] => []
  | x :: l => lens l ++ [bl (rest (bas l) x)]
theorem ok_bas : ∀ l, Ok (bas l) l
  | [] => ⟨(fun p h => nomatch h), List.nodup_nil, fun x => Iff.rfl⟩
  | x :: l => by
    have o := ok_bas l
    obtain ⟨h1, h2⟩ := rest_spec o x
    unfold bas
    split
    · rename_i z
      have hs := (rest_zero o x).mp z
      exact ⟨o.len, o.nd, fun y => (o.sp y).trans (sp_old hs y).symm⟩
    · rename_i z
      refine ⟨fun p hp => ?_, ?_, fun y => ?_⟩
      · rcases List.mem_append.mp hp with q | q
        · exact o.len p q
        · rw [List.mem_singleton.mp q]
          exact ⟨rfl, z⟩
      · rw [List.map_append, List.nodup_append]
        refine ⟨o.nd, by simp, fun a ha b hb => ?_⟩
        simp only [List.map_cons, List.map_nil, List.mem_singleton] at hb
        subst hb
        rintro rfl
        exact lookup_none h2 ha
      · rw [List.reverse_append, List.reverse_singleton, List.singleton_append, List.map_cons]
        have e1 : Sp (rest (bas l) x :: (bas l).reverse.map (·.2)) y ↔ Sp (rest (bas l) x :: l) y := by
          show (Sp _ y ∨ Sp _ (y ^^^ _)) ↔ (Sp _ y ∨ Sp _ (y ^^^ _))
          rw [o.sp, o.sp]
        exact e1.trans (sp_swap (by rw [Nat.xor_comm]; exact h1) y)
theorem rest_new (l : List Nat) (x : Nat) : (bas l).lookup (bl (rest (bas l) x)) = none := (rest_spec (ok_bas l) x).2
theorem bas_len_succ (x : Nat) (l : List Nat) : (bas (x :: l)).length = (bas l).length + (if rest (bas l) x = 0 then 0 else 1) := by
  have e : bas (x :: l) = if rest (bas l) x = 0 then bas l else bas l ++ [(bl (rest (bas l) x), rest (bas l) x)] := rfl
  rw [e]
  split <;> simp
theorem bas_len : ∀ l, (bas l).length ≤ l.length
  | [] => Nat.le_refl _
  | x :: l => by
    rw [bas_len_succ, List.length_cons]
    have := bas_len l
    split <;> omega
theorem lens_len : ∀ l, (lens l).length = l.length
  | [] => rfl
  | x :: l => by
    unfold lens
    rw [List.length_append, lens_len l]
    rfl
/-- the sums: one more number -/
def ins (acc : List Nat) (z : Nat) : List Nat := if z ∈ acc then acc else acc ++ [z]
def dk (S : List Nat) (y : Nat) : List Nat := (S.map (· ^^^ y)).foldl ins S
def sums : List Nat → List Nat
  | [] => [0]
  | y :: l => dk (sums l) y
theorem ins_mem (acc : List Nat) (z x : Nat) : x ∈ ins acc z ↔ x ∈ acc ∨ x = z := by
  unfold ins
  split
  · rename_i h
    constructor
    · exact .inl
    · rintro (q | q)
      · exact q
      · rw [q]
        exact h
  · simp
theorem ins_nd {acc : List Nat} (h : acc.Nodup) (z : Nat) : (ins acc z).Nodup := by
  unfold ins
  split
  · exact h
  · rename_i q
    rw [List.nodup_append]
    exact ⟨h, by simp, fun a ha b hb => by rw [List.mem_singleton.mp hb]; rintro rfl; exact q ha⟩
theorem fold_mem : ∀ (t acc : List Nat) (x : Nat), x ∈ t.foldl ins acc ↔ x ∈ acc ∨ x ∈ t
  | [], acc, x => by simp
  | z :: t, acc, x => by
    rw [List.foldl_cons, fold_mem t, ins_mem, List.mem_cons]
    constructor
    · rintro ((a | a) | a)
      · exact .inl a
      · exact .inr (.inl a)
      · exact .inr (.inr a)
    · rintro (a | a | a)
      · exact .inl (.inl a)
      · exact .inl (.inr a)
      · exact .inr a
theorem fold_nd : ∀ (t : List Nat) {acc : List Nat}, acc.Nodup → (t.foldl ins acc).Nodup
  | [], _, h => h
  | z :: t, _, h => fold_nd t (ins_nd h z)
theorem fold_old : ∀ (t : List Nat) {acc : List Nat}, (∀ z ∈ t, z ∈ acc) → t.foldl ins acc = acc
  | [], _, _ => rfl
  | z :: t, acc, h => by
    have e : ins acc z = acc := if_pos (h z List.mem_cons_self)
    rw [List.foldl_cons, e]
    exact fold_old t fun y hy => h y (List.mem_cons_of_mem _ hy)
theorem fold_new : ∀ (t : List Nat) {acc : List Nat}, t.Nodup → (∀ z ∈ t, z ∉ acc) → (t.foldl ins acc).length = acc.length + t.length
  | [], _, _, _ => rfl
  | z :: t, acc, nd, h => by
    have nd' := List.nodup_cons.mp nd
    have e : ins acc z = acc ++ [z] := if_neg (h z List.mem_cons_self)
    rw [List.foldl_cons, e, fold_new t nd'.2]
    · simp
      omega
    · intro y hy q
      rcases List.mem_append.mp q with q | q
      · exact h y (List.mem_cons_of_mem _ hy) q
      · rw [List.mem_singleton.mp q] at hy
        exact nd'.1 hy
theorem xor_inj {a b y : Nat} (h : a ^^^ y = b ^^^ y) : a = b := by
  have := congrArg (· ^^^ y) h
  simpa only [xor_self_mid] using this
theorem sums_mem : ∀ l x, x ∈ sums l ↔ Sp l x
  | [], x => by simp [sums, Sp]
  | y :: l, x => by
    show x ∈ dk (sums l) y ↔ (Sp l x ∨ Sp l (x ^^^ y))
    unfold dk
    rw [fold_mem, sums_mem l, ← sums_mem l (x ^^^ y), List.mem_map]
    constructor
    · rintro (a | ⟨z, a, rfl⟩)
      · exact .inl a
      · exact .inr (by rw [xor_self_mid]; exact a)
    · rintro (a | a)
      · exact .inl a
      · exact .inr ⟨_, a, xor_self_mid x y⟩
theorem sums_nd : ∀ l, (sums l).Nodup
  | [] => by simp [sums]
  | y :: l => fold_nd _ (sums_nd l)
theorem sums_len_old {l : List Nat} {y : Nat} (h : Sp l y) : (sums (y :: l)).length = (sums l).length := by
  show (dk (sums l) y).length = _
  unfold dk
  rw [fold_old]
  intro z hz
  obtain ⟨x, hx, rfl⟩ := List.mem_map.mp hz
  exact (sums_mem l _).mpr (sp_xor l ((sums_mem l x).mp hx) h)
theorem sums_len_new {l : List Nat} {y : Nat} (h : ¬ Sp l y) : (sums (y :: l)).length = 2 * (sums l).length := by
  show (dk (sums l) y).length = _
  unfold dk
  rw [fold_new, List.length_map]
  · omega
  · refine List.pairwise_map.mpr ((sums_nd l).imp fun {a b} n q => n (xor_inj q))
  · intro z hz q
    obtain ⟨x, hx, rfl⟩ := List.mem_map.mp hz
    have := sp_xor l ((sums_mem l x).mp hx) ((sums_mem l _).mp q)
    rw [← Nat.xor_assoc, Nat.xor_self, Nat.zero_xor] at this
    exact h this
/-- shifted numbers -/
theorem shift_xor (sh a b : Nat) : a * 2 ^ sh ^^^ b * 2 ^ sh = (a ^^^ b) * 2 ^ sh := by
  rw [← Nat.shiftLeft_eq, ← Nat.shiftLeft_eq, ← Nat.shiftLeft_eq, Nat.shiftLeft_xor_distrib]
theorem sp_shift (sh : Nat) : ∀ (l : List Nat) (x : Nat), Sp (l.map (· * 2 ^ sh)) (x * 2 ^ sh) ↔ Sp l x
  | [], x => by
    have p : 0 < 2 ^ sh := Nat.pow_pos (by decide)
    show x * 2 ^ sh = 0 ↔ x = 0
    constructor
    · intro h
      rcases Nat.mul_eq_zero.mp h with z | z
      · exact z
      · omega
    · intro h
      rw [h, Nat.zero_mul]
  | y :: l, x => by
    show (Sp _ _ ∨ Sp _ (x * 2 ^ sh ^^^ y * 2 ^ sh)) ↔ _
    rw [shift_xor, sp_shift sh l, sp_shift sh l]
    exact Iff.rfl
theorem sp_mult (sh : Nat) : ∀ (l : List Nat) (x : Nat), Sp (l.map (· * 2 ^ sh)) x → x % 2 ^ sh = 0
  | [], x, h => by
    have h : x = 0 := h
    rw [h, Nat.zero_mod]
  | y :: l, x, h => by
    rcases h with h | h
    · exact sp_mult sh l x h
    · have h : Sp (l.map (· * 2 ^ sh)) (x ^^^ y * 2 ^ sh) := h
      have := sp_mult sh l _ h
      rw [Nat.xor_mod_two_pow, Nat.mul_mod_left, Nat.xor_zero] at this
      exact this
theorem rank_shift (sh : Nat) : ∀ (l : List Nat), (sums l).length = 2 ^ (bas (l.map (· * 2 ^ sh))).length
  | [] => rfl
  | y :: l => by
    rw [List.map_cons, bas_len_succ]
    have o := ok_bas (l.map (· * 2 ^ sh))
    by_cases h : Sp l y
    · rw [if_pos ((rest_zero o _).mpr ((sp_shift sh l y).mpr h)), sums_len_old h, rank_shift sh l]
      rfl
    · rw [if_neg (fun z => h ((sp_shift sh l y).mp ((rest_zero o _).mp z))), sums_len_new h, rank_shift sh l, Nat.pow_succ, Nat.mul_comm]
theorem len_le : ∀ (n : Nat) (l : List Nat), l.Nodup → (∀ x ∈ l, x < n) → l.length ≤ n
  | 0, [], _, _ => Nat.le_refl _
  | 0, x :: l, _, h => absurd (h x List.mem_cons_self) (by omega)
  | n + 1, l, nd, h => by
    have h1 := len_le n (l.erase n) (nd.erase n) fun x hx => by
      have := h x (List.mem_of_mem_erase hx)
      have : x ≠ n := fun z => by
        rw [z] at hx
        exact (List.Nodup.not_mem_erase nd) hx
      omega
    have := List.length_erase (a := n) (l := l)
    split at this <;> omega
theorem sp_lt {k : Nat} : ∀ {l : List Nat}, (∀ y ∈ l, y < 2 ^ k) → ∀ x, Sp l x → x < 2 ^ k
  | [], _, x, h => by
    have h : x = 0 := h
    rw [h]
    exact Nat.pow_pos (by decide)
  | y :: l, hl, x, h => by
    rcases h with h | h
    · exact sp_lt (fun z hz => hl z (List.mem_cons_of_mem _ hz)) x h
    · have h1 := sp_lt (fun z hz => hl z (List.mem_cons_of_mem _ hz)) _ h
      have := Nat.xor_lt_two_pow h1 (hl y List.mem_cons_self)
      rwa [xor_self_mid] at this
theorem sums_le {l : List Nat} {k : Nat} (h : ∀ y ∈ l, y < 2 ^ k) : (sums l).length ≤ 2 ^ k :=
  len_le _ _ (sums_nd l) fun x hx => sp_lt h x ((sums_mem l x).mp hx)
end S
def kd (B : S.Bs) : List (Key × V) := B.map fun p => (Sum.inl (p.1 : Int), V.int (p.2 : Int))
theorem val_kd (k : Nat) : ∀ B : S.Bs, valV (kd B) (Sum.inl (k : Int) : Key) = (B.lookup k).map fun b => V.int (b : Int)
  | [] => rfl
  | (k', b) :: r => by
    by_cases e : k = k'
    · subst e
      have : valV (kd ((k, b) :: r)) (Sum.inl (k : Int) : Key) = some (V.int (b : Int)) := valV_pos (p := ((Sum.inl (k : Int) : Key), V.int (b : Int))) rfl
      rw [this]
      simp [List.lookup]
    · have n : ¬ ((Sum.inl (k' : Int) : Key) = Sum.inl (k : Int)) := fun z => e (by have := Sum.inl.inj z; omega)
      have : valV (kd ((k', b) :: r)) (Sum.inl (k : Int) : Key) = valV (kd r) (Sum.inl (k : Int) : Key) := valV_neg (p := ((Sum.inl (k' : Int) : Key), V.int (b : Int))) n
      have e2 : (k == k') = false := by simpa using e
      rw [this, val_kd k r]
      simp [List.lookup, e2]
theorem drop_kd {B : S.Bs} {k b : Nat} (h : B.lookup k = none) : dropK (kd (B ++ [(k, b)])) (Sum.inl (k : Int) : Key) = kd B := by
  have n := S.lookup_none h
  unfold dropK kd
  rw [List.map_append, List.filter_append]
  have e1 : List.filter (fun kv : Key × V => decide (kv.1 ≠ (Sum.inl (k : Int) : Key))) (List.map (fun p : Nat × Nat => ((Sum.inl (p.1 : Int) : Key), V.int (p.2 : Int))) [(k, b)]) = [] := by simp
  rw [e1, List.append_nil, List.filter_eq_self]
  intro kv hkv
  obtain ⟨p, hp, rfl⟩ := List.mem_map.mp hkv
  refine decide_eq_true fun z => n ?_
  have e : p.1 = k := by have := Sum.inl.inj z; omega
  exact List.mem_map.mpr ⟨p, hp, e⟩
theorem bits_bl (n : Nat) : Builtin.Int.intBits (n : Int) = S.bl n := by
  unfold Builtin.Int.intBits S.bl
  by_cases h : n = 0
  · subst h
    rfl
  · have e : ((n : Int) == 0) = false := beq_eq_false_iff_ne.mpr (by omega)
    rw [e, if_neg h]
    rfl
/-- a Span whose stack is l, the newest first -/
structure SpanAt (K : PySem.W.Frag) (H : Hp) (p d q : Addr) (l : List Nat) : Prop where
  ob : ∃ dx, H p = some (.ins (He.ga K "Span") dx [("basis", .ref d), ("lengths", .ref q)])
  ba : H d = some (.dK (kd (S.bas l)))
  le : H q = some (.lst ((S.lens l).map fun n => V.int (n : Nat)))
theorem SpanAt.keep {K : PySem.W.Frag} {H H' : Hp} {p d q : Addr} {l : List Nat} {F : List Addr} (x : SpanAt K H p d q l) (k : Keep F H H') (n : Dis F [p, d, q]) : SpanAt K H' p d q l := by
  obtain ⟨⟨dx, h1⟩, h2, h3⟩ := x
  exact ⟨⟨dx, k _ _ (n.symm _ (by simp)) h1⟩, k _ _ (n.symm _ (by simp)) h2, k _ _ (n.symm _ (by simp)) h3⟩
theorem SpanAt.trk {K : PySem.W.Frag} {H : Hp} {p d q : Addr} {l : List Nat} (x : SpanAt K H p d q l) : Trk [p, d, q] H := fun a h => by
  obtain ⟨⟨dx, h1⟩, h2, h3⟩ := x
  simp only [List.mem_cons, List.not_mem_nil, or_false] at h
  rcases h with e | e | e <;> subst e
  · exact ⟨_, h1⟩
  · exact ⟨_, h2⟩
  · exact ⟨_, h3⟩
theorem SpanAt.ne {K : PySem.W.Frag} {H : Hp} {p d q : Addr} {l : List Nat} (x : SpanAt K H p d q l) : p ≠ d ∧ p ≠ q ∧ d ≠ q := by
  obtain ⟨⟨dx, h1⟩, h2, h3⟩ := x
  exact ⟨ne_of h1 h2 (by intro z; cases z), ne_of h1 h3 (by intro z; cases z), ne_of h2 h3 (by intro z; cases z)⟩
abbrev s_Span___init__ : Stmt := inClass (top 1) 0
theorem sc_Span___init__ : FnScope ["self"] ["self"] (defScope s_Span___init__) := ⟨rfl, rfl, rfl, by decide +kernel, rfl, by decide +kernel, by decide +kernel⟩
def sp_Span___init__ (K : PySem.W.Frag) : Sp := fun vs H Q _ => ∃ (p dx : Addr), vs = [.ref p] ∧ H p = some (.ins (He.ga K "Span") dx []) ∧ ∀ (d q : Addr) (H' : Hp), H d = none → H q = none → SpanAt K H' p d q [] → Keep [p] H H' → Q .non H'
theorem ok_Span___init__ (T : Txt K mg)  (F : FunD K "__init__" "Span.__init__" (defArgs s_Span___init__) (defBody s_Span___init__) (defScope s_Span___init__) [] [] f fd) : FnOk P w K mg base (L2.CX P w) 1 f fd ["self"] (sp_Span___init__ K) := by
  refine F.ok sc_Span___init__ (fun vs H Q E h => ?_) (fun cdv A outer s H vs Q E hr h => ?_)
  · obtain ⟨p, dx, rfl, _⟩ := h
    rfl
  · have hu := hu_of hr
    obtain ⟨p, dx, rfl, hp, k⟩ := h
    refine ⟨_, (pss_cons (ps_fld (pv 0) pe_dnewK (by rfl))
      (pss_one (ps_fld (pv 0) (pe_lst pa_nil) (by rfl)))), ?_⟩
    walk_at "rd"
    intro d hd
    have npd : p ≠ d := ne_of_none hp hd
    refine ⟨_, dx, [], (upd_ne npd).trans hp, T.c_Span, T.n_Span_basis, by decide, by decide, fun q hq => ?_⟩
    have nq1 : p ≠ q := ne_of_none upd_same hq
    have nq2 : d ≠ q := ne_of_none (H := upd (upd H d (.dK [])) p _) ((upd_ne npd.symm).trans upd_same) hq
    refine ⟨_, dx, _, (upd_ne nq1).trans upd_same, T.c_Span, T.n_Span_lengths, by show 1 < 1000; decide, ?_⟩
    have hq0 : H q = none := by
      rw [upd_ne nq1.symm, upd_ne nq2.symm] at hq
      exact hq
    refine k d q _ hd hq0 ⟨⟨dx, upd_same⟩, ?_, ?_⟩ fun a o na e => ?_
    · rw [upd_ne npd.symm, upd_ne nq2, upd_ne npd.symm, upd_same]
      rfl
    · rw [upd_ne nq1.symm, upd_same]
      rfl
    · have n1 : a ≠ p := fun z => na (by simp [z])
      rw [upd_ne n1, upd_ne (ne_of_none e hq0), upd_ne n1, upd_ne (ne_of_none e hd)]
      exact e
abbrev s_Span_rest_of : Stmt := inClass (top 1) 1
theorem sc_Span_rest_of : FnScope ["self", "integer"] ["self", "integer"] (defScope s_Span_rest_of) := ⟨rfl, rfl, rfl, by decide +kernel, rfl, by decide +kernel, by decide +kernel⟩
def sp_Span_rest_of (K : PySem.W.Frag) : Sp := fun vs H Q _ => ∃ (p d q : Addr) (l : List Nat) (x : Nat), vs = [.ref p, .int x] ∧ SpanAt K H p d q l ∧ Q (.int (S.rest (S.bas l) x : Nat)) H
theorem ok_Span_rest_of (T : Txt K mg)  (F : FunD K "rest_of" "Span.rest_of" (defArgs s_Span_rest_of) (defBody s_Span_rest_of) (defScope s_Span_rest_of) [] [] f fd) : FnOk P w K mg base (L2.CX P w) 1 f fd ["self", "integer"] (sp_Span_rest_of K) := by
  refine F.ok sc_Span_rest_of (fun vs H Q E h => ?_) (fun cdv A outer s H vs Q E hr h => ?_)
  · obtain ⟨p, d, q, l, x, rfl, _⟩ := h
    rfl
  · have hu := hu_of hr
    obtain ⟨p, d, q, l, x, rfl, hS, k⟩ := h
    refine ⟨_, (pss_cons (ps_while (passes_of rfl) (PW.pt (pw_and (pt_cmpR op_gt (pv 1) pe_int (nomark _)) (pw_and1 (pt_cmp (pc_din hu (pe_bits (pv 1)) (pe_fld (pv 0) (by rfl))))))) (pss_one (ps_aug (i := 1) sc_Span_rest_of.nd rfl (Or.inl rfl) (pe_dget hu (pe_fld (pv 0) (by rfl)) (pe_bits (pv 1)) (fun _ _ => rfl)) iop_xor)))
      (pss_one (ps_ret (pv 1)))), ?_⟩
    walk_at "rd"
    obtain ⟨⟨dx, h1⟩, h2, h3⟩ := hS
    have o := S.ok_bas l
    refine whileB (fun σ H' => H' = H ∧ ∃ y : Nat, σ = [some (.ref p), some (.int y)] ∧ S.rest (S.bas l) y = S.rest (S.bas l) x) (fun σ H' => match σ with | [_, some (.int y)] => y.toNat | _ => 0) ⟨rfl, x, rfl, rfl⟩ ?_
    rintro _ _ ⟨rfl, y, rfl, hy⟩
    walk_at "rd"
    refine ite2 (fun hp => ?_) (fun hp => ?_)
    · rw [bits_bl]
      refine ⟨_, dx, _, h1, T.c_Span, T.n_Span_basis, _, rfl, d, rfl, _, DGet.k (k := Sum.inl ((S.bl y : Nat) : Int)) h2, ?_⟩
      rw [val_kd]
      cases e : (S.bas l).lookup (S.bl y) with
      | none =>
        refine iteF ?_
        rw [← hy, S.rest_end e] at k
        exact k
      | some b =>
        refine iteT (whI fun N hN => ?_)
        walk_at "rd"
        rw [bits_bl]
        refine ⟨_, dx, _, h1, T.c_Span, T.n_Span_basis, _, rfl, d, rfl, .int (b : Int), ?_, _, rfl, ?_⟩
        · have g := DGet.k (k := Sum.inl ((S.bl y : Nat) : Int)) h2
          rw [val_kd, e] at g
          exact g
        · rw [Bits.bitXor_pp (by omega) (by omega), Int.toNat_natCast, Int.toNat_natCast]
          obtain ⟨q1, q2, q3, q4⟩ := S.ok_less o e
          refine hN _ _ ⟨rfl, y ^^^ b, rfl, ?_⟩ ?_
          · rw [← hy, S.rest_step o e]
          · show (((y ^^^ b : Nat) : Int)).toNat < ((y : Int)).toNat
            omega
    · have y0 : y = 0 := by omega
      subst y0
      have e : S.rest (S.bas l) 0 = 0 := (S.rest_zero o 0).mpr (S.sp_zero l)
      rw [← hy, e] at k
      exact k
abbrev s_Span_push : Stmt := inClass (top 1) 2
theorem sc_Span_push : FnScope ["self", "integer", "rest"] ["self", "integer"] (defScope s_Span_push) := ⟨rfl, rfl, rfl, by decide +kernel, rfl, by decide +kernel, by decide +kernel⟩
def sp_Span_push (K : PySem.W.Frag) : Sp := fun vs H Q _ => ∃ (p d q : Addr) (l : List Nat) (x : Nat), vs = [.ref p, .int x] ∧ SpanAt K H p d q l ∧ l.length ≤ 1000 ∧ ∀ H', SpanAt K H' p d q (x :: l) → Keep [d, q] H H' → Q .non H'
theorem ok_Span_push (T : Txt K mg) (D_Span_rest_of : Dm P w K mg base 1 (He.ga K "Span") "rest_of" ["self", "integer"] [] (sp_Span_rest_of K)) (F : FunD K "push" "Span.push" (defArgs s_Span_push) (defBody s_Span_push) (defScope s_Span_push) [] [] f fd) : FnOk P w K mg base (L2.CX P w) 2 f fd ["self", "integer"] (sp_Span_push K) := by
  refine F.ok sc_Span_push (fun vs H Q E h => ?_) (fun cdv A outer s H vs Q E hr h => ?_)
  · obtain ⟨p, d, q, l, x, rfl, _⟩ := h
    rfl
  · have hu := hu_of hr
    obtain ⟨p, d, q, l, x, rfl, hS, hl, k⟩ := h
    refine ⟨_, (pss_cons (ps_set (i := 2) sc_Span_push.nd rfl (Or.inl rfl) (pe_methD (pv 0) D_Span_rest_of hr passL (pa_cons (pv 1) pa_nil)))
      (pss_cons (ps_expr (pe_bm PySem.F.plainAttrs_list PySem.F.slot_list_append PySem.F.type_list_append mt_append (pe_fld (pv 0) (by rfl)) (pa_cons (pe_bits (pv 2)) pa_nil)))
      (pss_one (ps_if (pt_cmpR op_gt (pv 2) pe_int (nomark _)) (pss_one (ps_dput hu (pe_fld (pv 0) (by rfl)) (pe_bits (pv 2)) (pv 2) rfl)) pss_nil)))), ?_⟩
    walk_at "rd"
    obtain ⟨npd, npq, ndq⟩ := hS.ne
    have hS0 := hS
    obtain ⟨⟨dx, h1⟩, h2, h3⟩ := hS
    refine ⟨dx, _, h1, rfl, p, d, q, l, x, rfl, hS0, ?_⟩
    have hlen := S.lens_len l
    have hbl := S.bas_len l
    have hz : sizeLine = 16777216 := sizeLine_eq
    generalize er : S.rest (S.bas l) x = r at *
    have eb : S.bas (x :: l) = if r = 0 then S.bas l else S.bas l ++ [(S.bl r, r)] := by rw [← er]; rfl
    have el : (S.lens (x :: l)).map (fun n => V.int (n : Nat)) = ((S.lens l).map fun n => V.int (n : Nat)) ++ [V.int (S.bl r : Nat)] := by
      have : S.lens (x :: l) = S.lens l ++ [S.bl r] := by rw [← er]; rfl
      rw [this, List.map_append]
      rfl
    refine ⟨_, dx, _, h1, T.c_Span, T.n_Span_lengths, _, rfl, tyL h3, _, rfl, q, rfl, _, h3, by rw [List.length_map]; omega, _, rfl, ite2 (fun hr0 => ?_) (fun hr0 => ?_)⟩
    · rw [bits_bl]
      refine ⟨_, dx, _, (upd_ne npq).trans h1, T.c_Span, T.n_Span_basis, _, rfl, _, rfl, d, rfl, _, by rw [bits_bl]; exact DPut.k (k := Sum.inl ((S.bl r : Nat) : Int)) ((upd_ne ndq).trans h2) (by rw [show (kd (S.bas l)).length = (S.bas l).length from List.length_map ..]; omega), ?_⟩
      have hn : valV (kd (S.bas l)) (Sum.inl ((S.bl r : Nat) : Int) : Key) = none := by
        rw [val_kd, ← er, S.rest_new]
        rfl
      rw [putK_new _ hn]
      refine k _ ⟨⟨dx, (upd_ne npd).trans ((upd_ne npq).trans h1)⟩, ?_, ?_⟩ fun a o na e => ?_
      · rw [upd_same, eb, if_neg (by omega)]
        unfold kd
        rw [List.map_append]
        rfl
      · rw [upd_ne ndq.symm, upd_same, el]
      · rw [upd_ne (fun z => na (by simp [z])), upd_ne (fun z => na (by simp [z]))]
        exact e
    · have r0 : r = 0 := by omega
      refine k _ ⟨⟨dx, (upd_ne npq).trans h1⟩, ?_, ?_⟩ fun a o na e => ?_
      · rw [upd_ne ndq, eb, if_pos r0]
        exact h2
      · rw [upd_same, bits_bl, el]
      · rw [upd_ne (fun z => na (by simp [z]))]
        exact e
abbrev s_Span_pop : Stmt := inClass (top 1) 3
theorem sc_Span_pop : FnScope ["self", "length"] ["self"] (defScope s_Span_pop) := ⟨rfl, rfl, rfl, by decide +kernel, rfl, by decide +kernel, by decide +kernel⟩
def sp_Span_pop (K : PySem.W.Frag) : Sp := fun vs H Q _ => ∃ (p d q : Addr) (l : List Nat) (x : Nat), vs = [.ref p] ∧ SpanAt K H p d q (x :: l) ∧ ∀ H', SpanAt K H' p d q l → Keep [d, q] H H' → Q .non H'
theorem ok_Span_pop (T : Txt K mg)  (F : FunD K "pop" "Span.pop" (defArgs s_Span_pop) (defBody s_Span_pop) (defScope s_Span_pop) [] [] f fd) : FnOk P w K mg base (L2.CX P w) 1 f fd ["self"] (sp_Span_pop K) := by
  refine F.ok sc_Span_pop (fun vs H Q E h => ?_) (fun cdv A outer s H vs Q E hr h => ?_)
  · obtain ⟨p, d, q, l, x, rfl, _⟩ := h
    rfl
  · have hu := hu_of hr
    obtain ⟨p, d, q, l, x, rfl, hS, k⟩ := h
    refine ⟨_, (pss_cons (ps_set (i := 1) sc_Span_pop.nd rfl (Or.inl rfl) (pe_bm0 PySem.F.plainAttrs_list PySem.F.slot_list_pop PySem.F.type_list_pop mt_pop (pe_fld (pv 0) (by rfl))))
      (pss_one (ps_if (pt_cmpR op_gt (pv 1) pe_int (nomark _)) (pss_one (ps_ddel (pe_fld (pv 0) (by rfl)) (pv 1))) pss_nil))), ?_⟩
    walk_at "rd"
    obtain ⟨npd, npq, ndq⟩ := hS.ne
    obtain ⟨⟨dx, h1⟩, h2, h3⟩ := hS
    generalize er : S.rest (S.bas l) x = r at *
    have eb : S.bas (x :: l) = if r = 0 then S.bas l else S.bas l ++ [(S.bl r, r)] := by rw [← er]; rfl
    have el : (S.lens (x :: l)).map (fun n => V.int (n : Nat)) = ((S.lens l).map fun n => V.int (n : Nat)) ++ [V.int (S.bl r : Nat)] := by
      have : S.lens (x :: l) = S.lens l ++ [S.bl r] := by rw [← er]; rfl
      rw [this, List.map_append]
      rfl
    rw [el] at h3
    rw [eb] at h2
    refine ⟨_, dx, _, h1, T.c_Span, T.n_Span_lengths, _, rfl, tyL h3, q, rfl, _, h3, V.int (S.bl r : Nat), by simp, _, rfl, ?_⟩
    rw [List.dropLast_concat]
    refine ite2 (fun hr0 => ?_) (fun hr0 => ?_)
    · have r0 : ¬ r = 0 := fun z => by rw [z, S.bl_zero] at hr0; omega
      rw [if_neg r0] at h2
      have hn : (S.bas l).lookup (S.bl r) = none := by rw [← er]; exact S.rest_new l x
      refine ⟨_, dx, _, (upd_ne npq).trans h1, T.c_Span, T.n_Span_basis, _, rfl, d, rfl, _, (upd_ne ndq).trans h2, Sum.inl ((S.bl r : Nat) : Int), rfl, ?_, ?_⟩
      · rw [val_kd]
        cases e : (S.bas l ++ [(S.bl r, r)]).lookup (S.bl r) with
        | some b => rfl
        | none =>
          have := S.lookup_none e
          simp at this
      · rw [drop_kd hn]
        refine k _ ⟨⟨dx, (upd_ne npd).trans ((upd_ne npq).trans h1)⟩, upd_same, (upd_ne ndq.symm).trans upd_same⟩ fun a o na e => ?_
        rw [upd_ne (fun z => na (by simp [z])), upd_ne (fun z => na (by simp [z]))]
        exact e
    · have r0 : r = 0 := by
        have : S.bl r = 0 := by omega
        exact S.bl_eq_zero.mp this
      rw [if_pos r0] at h2
      refine k _ ⟨⟨dx, (upd_ne npq).trans h1⟩, (upd_ne ndq).trans h2, upd_same⟩ fun a o na e => ?_
      rw [upd_ne (fun z => na (by simp [z]))]
      exact e
abbrev s_Span_ask : Stmt := inClass (top 1) 4
theorem sc_Span_ask : FnScope ["self", "question"] ["self", "question"] (defScope s_Span_ask) := ⟨rfl, rfl, rfl, by decide +kernel, rfl, by decide +kernel, by decide +kernel⟩
def sp_Span_ask (K : PySem.W.Frag) : Sp := fun vs H Q _ => ∃ (p d q t : Addr) (l : List Nat), vs = [.ref p, .ref t] ∧ SpanAt K H p d q l ∧
  ((H t = some (.tup [.str "rank"]) ∧ Q (.int ((S.bas l).length : Nat)) H) ∨ ∃ x : Nat, H t = some (.tup [.str "holds", .int x]) ∧ Q (.bl (decide (S.rest (S.bas l) x = 0))) H)
theorem ok_Span_ask (T : Txt K mg) (D_Span_rest_of : Dm P w K mg base 1 (He.ga K "Span") "rest_of" ["self", "integer"] [] (sp_Span_rest_of K)) (F : FunD K "ask" "Span.ask" (defArgs s_Span_ask) (defBody s_Span_ask) (defScope s_Span_ask) [] [] f fd) : FnOk P w K mg base (L2.CX P w) 2 f fd ["self", "question"] (sp_Span_ask K) := by
  refine F.ok sc_Span_ask (fun vs H Q E h => ?_) (fun cdv A outer s H vs Q E hr h => ?_)
  · obtain ⟨p, d, q, t, l, rfl, _⟩ := h
    rfl
  · have hu := hu_of hr
    obtain ⟨p, d, q, t, l, rfl, hS, k⟩ := h
    refine ⟨_, (pss_cons (ps_if (pt_cmpR op_eq (pe_ix ix_tup (pv 1) pe_int (fun _ _ => rfl)) pe_str (nomark _)) (pss_one (ps_ret (pe_callB call_lenD (by rfl) T.b_len (by decide +kernel) (pa_cons (pe_fld (pv 0) (by rfl)) pa_nil)))) pss_nil)
      (pss_one (ps_ret (pe_cmpR op_eq (pe_methD (pv 0) D_Span_rest_of hr passL (pa_cons (pe_ix ix_tup (pv 1) pe_int (fun _ _ => rfl)) pa_nil)) pe_int (nomark _))))), ?_⟩
    walk_at "rd"
    have hS0 := hS
    obtain ⟨⟨dx, h1⟩, h2, h3⟩ := hS
    rcases k with ⟨ht, k⟩ | ⟨x, ht, k⟩
    · refine ⟨_, SqT.of ht, _, rfl, rfl, ?_⟩
      rw [if_pos rfl]
      refine ⟨_, dx, _, h1, T.c_Span, T.n_Span_basis, _, rfl, d, rfl, _, h2, ?_⟩
      rw [show (kd (S.bas l)).length = (S.bas l).length from List.length_map ..]
      exact k
    · refine ⟨_, SqT.of ht, _, rfl, rfl, ?_⟩
      rw [if_neg (by decide +kernel)]
      refine ⟨dx, _, h1, rfl, _, SqT.of ht, _, rfl, p, d, q, l, x, rfl, hS0, rfl, ?_⟩
      have e : decide (V.int ((S.rest (S.bas l) x : Nat) : Int) = V.int 0) = decide (S.rest (S.bas l) x = 0) := by
        by_cases z : S.rest (S.bas l) x = 0
        · rw [z]
          rfl
        · rw [decide_eq_false z, decide_eq_false]
          intro q
          have := V.int.inj q
          omega
      rw [e]
      exact k
def kk (L : List Nat) : List (Key × V) := L.map fun n : Nat => ((Sum.inl (n : Int) : Key), V.bl true)
theorem val_kk (z : Nat) : ∀ L : List Nat, valV (kk L) (Sum.inl (z : Int) : Key) = if z ∈ L then some (.bl true) else none
  | [] => rfl
  | n :: r => by
    by_cases e : n = z
    · subst e
      have : valV (kk (n :: r)) (Sum.inl (n : Int) : Key) = some (V.bl true) := valV_pos (p := ((Sum.inl (n : Int) : Key), V.bl true)) rfl
      rw [this]
      simp
    · have q : ¬ ((Sum.inl (n : Int) : Key) = Sum.inl (z : Int)) := fun w => e (by have := Sum.inl.inj w; omega)
      have : valV (kk (n :: r)) (Sum.inl (z : Int) : Key) = valV (kk r) (Sum.inl (z : Int) : Key) := valV_neg (p := ((Sum.inl (n : Int) : Key), V.bl true)) q
      rw [this, val_kk z r]
      simp [Ne.symm e]
theorem put_kk (L : List Nat) (z : Nat) : putK (kk L) (Sum.inl (z : Int) : Key) (.bl true) = kk (S.ins L z) := by
  unfold S.ins
  by_cases h : z ∈ L
  · rw [if_pos h]
    unfold putK
    rw [valV_any, val_kk, if_pos h]
    simp only [Option.isSome_some, if_true]
    unfold kk
    rw [List.map_map]
    refine List.map_congr_left fun n _ => ?_
    simp only [Function.comp]
    split <;> rfl
  · rw [if_neg h, putK_new _ (by rw [val_kk, if_neg h])]
    unfold kk
    rw [List.map_append]
    rfl
theorem len_kk (L : List Nat) : (kk L).length = L.length := List.length_map ..
abbrev s_sums : Stmt := top 5
theorem sc_sums : FnScope ["_law_integers", "_law_found", "_law_number", "_law_one"] ["_law_integers"] (defScope s_sums) := ⟨rfl, rfl, rfl, by decide +kernel, rfl, by decide +kernel, by decide +kernel⟩
def sp_sums (K : PySem.W.Frag) : Sp := fun vs H Q _ => ∃ (a : Addr) (l : List Nat), vs = [.ref a] ∧ SqL K H a (l.reverse.map fun n => V.int (n : Nat)) ∧ (∀ y ∈ l, y < 64) ∧
  ∀ (p : Addr) (H' : Hp), Same H H' → H p = none → H' p = some (.dK (kk (S.sums l))) → Q (.ref p) H'
theorem ok_sums (T : Txt K mg)  (F : FunD K "_law_sums" "_law_sums" (defArgs s_sums) (defBody s_sums) (defScope s_sums) [] [] f fd) : FnOk P w K mg base (L2.CX P w) 1 f fd ["_law_integers"] (sp_sums K) := by
  refine F.ok sc_sums (fun vs H Q E h => ?_) (fun cdv A outer s H vs Q E hr h => ?_)
  · obtain ⟨a, l, rfl, _⟩ := h
    rfl
  · have hu := hu_of hr
    obtain ⟨a, l, rfl, hS, hl, k⟩ := h
    refine ⟨_, (pss_cons (ps_set (i := 1) sc_sums.nd rfl (Or.inl rfl) (pe_disp (pps_cons pe_int pe_bl pps_nil) (by rfl) (by rfl) (fun z => by cases z) (by decide)))
      (pss_cons (ps_for (passes_of rfl) rfl (pi_list (pv 0)) (pg_name (i := 2) sc_sums.nd rfl (Or.inl rfl)) (pss_one (ps_for (passes_of rfl) rfl (pi_list (pe_callTy (call_list_dK rfl) (by rfl) T.b_list (by decide +kernel) (pa_cons (pv 1) pa_nil))) (pg_name (i := 3) sc_sums.nd rfl (Or.inl rfl)) (pss_one (ps_dput hu (pv 1) (pe_op op_xor (pv 3) (pv 2)) pe_bl rfl)))))
      (pss_one (ps_ret (pv 1))))), ?_⟩
    walk_at "rd"
    intro p hp
    refine ⟨upd_same, [(Sum.inl 0, .bl true)], rfl, by decide, ?_⟩
    rw [upd_upd]
    refine ⟨⟨_, (G.Same.upd hp).seq hS⟩, ?_⟩
    have hlen : (l.reverse.map fun n => V.int (n : Nat)).length = l.length := by simp
    refine forB (itp_l K a (l.reverse.map fun n => V.int (n : Nat))) (fun i σ H' => Same H H' ∧ H' p = some (.dK (kk (S.sums (l.drop (l.length - i))))) ∧ ∃ v2 v3, σ = [some (.ref a), some (.ref p), v2, v3]) ⟨G.Same.upd hp, ?_, none, none, rfl⟩ (fun i σ H' _ h => h.1.seq hS) ?_ ?_
    · rw [upd_same, Nat.sub_zero, List.drop_length]
      rfl
    · rintro i _ H1 N hi ⟨S1, hp1, v2, v3, rfl⟩ hN
      rw [hlen] at hi
      have hx : (l.reverse.map fun n => V.int (n : Nat)).getD i .non = V.int ((l[l.length - 1 - i]'(by omega) : Nat) : Int) := by
        rw [List.getD_eq_getElem?_getD, List.getElem?_map, List.getElem?_reverse hi, List.getElem?_eq_getElem (by omega)]
        rfl
      rw [hx]
      have hd : l.drop (l.length - (i + 1)) = l[l.length - 1 - i]'(by omega) :: l.drop (l.length - i) := by
        have e : l.length - (i + 1) = l.length - 1 - i := by omega
        have e2 : l.length - i = l.length - 1 - i + 1 := by omega
        rw [e, e2]
        exact List.drop_eq_getElem_cons (by omega)
      generalize ey : l[l.length - 1 - i]'(by omega) = y at *
      have hle : (S.sums (l.drop (l.length - i))).length ≤ 64 := S.sums_le (k := 6) fun z hz => hl z (List.mem_of_mem_drop hz)
      have hle2 : (S.dk (S.sums (l.drop (l.length - i))) y).length ≤ 64 := by
        have := S.sums_le (l := l.drop (l.length - (i + 1))) (k := 6) fun z hz => hl z (List.mem_of_mem_drop hz)
        rw [hd] at this
        exact this
      generalize eL : S.sums (l.drop (l.length - i)) = L at *
      walk_at "rd"
      refine ⟨_, hp1, fun q hq => ⟨⟨_, SqL.of upd_same⟩, ?_⟩⟩
      have npq : p ≠ q := ne_of_none hp1 hq
      have ex : (kk L).map (fun kv => kV kv.1) = L.map fun n => V.int (n : Nat) := by
        unfold kk
        rw [List.map_map]
        rfl
      rw [ex]
      refine forB (itp_l K q (L.map fun n => V.int (n : Nat))) (fun j σ H' => But p (upd H1 q (.lst (L.map fun n => V.int (n : Nat)))) H' ∧ H' p = some (.dK (kk (((L.map (· ^^^ y)).take j).foldl S.ins L))) ∧ ∃ v3, σ = [some (.ref a), some (.ref p), some (.int (y : Int)), v3]) ⟨But.refl _ _, ?_, v3, rfl⟩ (fun j σ H' _ h => SqL.of (h.1 _ _ npq.symm upd_same)) ?_ ?_
      · rw [upd_ne npq]
        exact hp1
      · rintro j _ H2 N2 hj ⟨B2, hp2, v3', rfl⟩ hN2
        rw [List.length_map] at hj
        have hx : (L.map fun n => V.int (n : Nat)).getD j .non = V.int ((L[j] : Nat) : Int) := by
          rw [List.getD_eq_getElem?_getD, List.getElem?_map, List.getElem?_eq_getElem hj]
          rfl
        rw [hx]
        walk_at "rd"
        rw [Bits.bitXor_pp (by omega) (by omega), Int.toNat_natCast, Int.toNat_natCast]
        have st : (L.map (· ^^^ y)).take (j + 1) = (L.map (· ^^^ y)).take j ++ [L[j] ^^^ y] := by
          rw [List.take_succ, List.getElem?_map, List.getElem?_eq_getElem hj]
          rfl
        have fl : (((L.map (· ^^^ y)).take j).foldl S.ins L).length ≤ 64 := by
          refine S.len_le 64 _ (S.fold_nd _ ?_) fun x hx => ?_
          · rw [← eL]
            exact S.sums_nd _
          · have hx2 : x ∈ S.dk L y := by
              rcases (S.fold_mem _ _ _).mp hx with q | q
              · exact (S.fold_mem _ _ _).mpr (.inl q)
              · exact (S.fold_mem _ _ _).mpr (.inr (List.mem_of_mem_take q))
            have : S.dk L y = S.sums (l.drop (l.length - (i + 1))) := by rw [hd]; unfold S.sums; rw [eL]
            rw [this] at hx2
            exact S.sp_lt (k := 6) (fun z hz => hl z (List.mem_of_mem_drop hz)) x ((S.sums_mem _ x).mp hx2)
        refine ⟨_, DPut.k (k := Sum.inl ((L[j] ^^^ y : Nat) : Int)) hp2 (by rw [len_kk]; have : sizeLine = 16777216 := sizeLine_eq; omega), hN2 _ _ ⟨B2.trans But.upd, ?_, _, rfl⟩⟩
        rw [upd_same, put_kk, st, List.foldl_append]
        rfl
      · rintro _ H2 ⟨B2, hp2, v3', rfl⟩
        refine hN _ _ ⟨fun b o e => B2 b o (ne_of_none e hp) (by rw [upd_ne (ne_of_none (S1 b o e) hq)]; exact S1 b o e), ?_, _, _, rfl⟩
        rw [hp2, hd, List.length_map, List.take_of_length_le (by simp)]
        show some (HO.dK (kk (List.foldl S.ins L (List.map (· ^^^ y) L)))) = some (HO.dK (kk (S.dk (S.sums (l.drop (l.length - i))) y)))
        rw [eL]
        rfl
    · rintro _ H1 ⟨S1, hp1, v2, v3, rfl⟩
      walk_at "rd"
      rw [hlen, Nat.sub_self, List.drop_zero] at hp1
      exact k p H1 S1 hp hp1
abbrev s_right : Stmt := top 6
theorem sc_right : FnScope ["_law_bag_here", "_law_span", "_law_integers", "_law_shift", "_law_sums_here", "_law_rank", "_law_turn", "_law_number"] ["_law_bag_here", "_law_span", "_law_integers", "_law_shift"] (defScope s_right) := ⟨rfl, rfl, rfl, by decide +kernel, rfl, by decide +kernel, by decide +kernel⟩
def sp_right (K : PySem.W.Frag) : Sp := fun vs H Q _ => ∃ (b p d q i : Addr) (g s c : Int) (l : List Nat) (sh : Nat), vs = [.ref b, .ref p, .ref i, .int sh] ∧ H b = some (.lst [.int g, .int s, .int c]) ∧ SpanAt K H p d q (l.map (· * 2 ^ sh)) ∧
  SqL K H i ((l.map (· * 2 ^ sh)).reverse.map fun n => V.int (n : Nat)) ∧ (∀ y ∈ l, y < 64) ∧ l.length ≤ 100 ∧ sh ≤ 100 ∧ Dis [b] [p, d, q] ∧
  ∀ (H' : Hp) (g s c : Int), Keep [b] H H' → H' b = some (.lst [.int g, .int s, .int c]) → Q (.bl true) H'
theorem ok_right (T : Txt K mg) (D_Span_ask : Dm P w K mg base 2 (He.ga K "Span") "ask" ["self", "question"] [] (sp_Span_ask K)) (D_Span_ask_0_question : DmK P w K mg base 2 (He.ga K "Span") "ask" ["self", "question"] 0 ["question"] (fun vs zs => vs ++ zs) (sp_Span_ask K)) (D_sums : Df P w K mg base 1 "_law_sums" ["_law_integers"] [] (sp_sums K)) (D_take : Df P w K mg base 1 "_law_take" ["_law_bag_here", "_law_many"] [] sp_take) (F : FunD K "_law_right" "_law_right" (defArgs s_right) (defBody s_right) (defScope s_right) [] [] f fd) : FnOk P w K mg base (L2.CX P w) 3 f fd ["_law_bag_here", "_law_span", "_law_integers", "_law_shift"] (sp_right K) := by
  refine F.ok sc_right (fun vs H Q E h => ?_) (fun cdv A outer s H vs Q E hr h => ?_)
  · obtain ⟨b, p, d, q, i, g, s, c, l, sh, rfl, _⟩ := h
    rfl
  · have hu := hu_of hr
    obtain ⟨b, p, d, q, i, g, s', c, l, sh, rfl, hb, hS, hi, hl, hl2, hsh, hdis, k⟩ := h
    refine ⟨_, (pss_cons (ps_set (i := 4) sc_right.nd rfl (Or.inl rfl) (pe_callD D_sums hr (by rfl) passL (pa_cons (pe_lc (own := [("_law_number", 7)]) rfl sc_right.nd (pi_list (pv 2)) (blkOk_by (own := [("_law_number", 7)]) (N := ["_law_bag_here", "_law_span", "_law_integers", "_law_shift", "_law_sums_here", "_law_rank", "_law_turn", "_law_number"]) (sc := defScope s_right) (by decide +kernel)) (fun _ _ _ _ _ => (pg_name (i := 7) sc_right.nd rfl (Or.inl rfl))) (fun _ _ _ _ _ => pts_nil) (fun _ _ _ _ _ => (pe_op op_shr (pv 7) (pv 3)))) pa_nil)))
      (pss_cons (ps_set (i := 5) sc_right.nd rfl (Or.inl rfl) (pe_methK0D (pv 1) D_Span_ask_0_question hr passL (pk_cons (pe_tup (pa_cons pe_str pa_nil)) pk_nil)))
      (pss_cons (ps_if (pt_cmpR op_ne (pe_op op_shlW pe_int (pv 5)) (pe_callB call_lenD (by rfl) T.b_len (by decide +kernel) (pa_cons (pv 4) pa_nil)) (nomark _)) (pss_one (ps_ret pe_bl)) pss_nil)
      (pss_cons (ps_for (passes_of rfl) rfl (pi_range1 (by rfl) T.b_range (pa_cons pe_int pa_nil)) (pg_name (i := 6) sc_right.nd rfl (Or.inl rfl)) (pss_cons (ps_set (i := 7) sc_right.nd rfl (Or.inl rfl) (pe_callD D_take hr (by rfl) passL (pa_cons (pv 0) (pa_cons pe_int pa_nil))))
        (pss_one (ps_if (pt_cmpR op_ne (pe_callB call_repr_bool (by rfl) T.b_repr (by decide +kernel) (pa_cons (pe_methD (pv 1) D_Span_ask hr passL (pa_cons (pe_tup (pa_cons pe_str (pa_cons (pe_op op_shlW (pv 7) (pv 3)) pa_nil))) pa_nil)) pa_nil)) (pe_callB call_repr_bool (by rfl) T.b_repr (by decide +kernel) (pa_cons (pe_cmp (pc_din hu (pv 7) (pv 4)) rfl) pa_nil)) (nomark _)) (pss_one (ps_ret pe_bl)) pss_nil))))
      (pss_one (ps_ret (pe_or (pe_cmpR op_eq (pv 3) pe_int (nomark _)) (pe_one (pe_and (pe_cmpR op_isBl (pe_methD (pv 1) D_Span_ask hr passL (pa_cons (pe_tup (pa_cons pe_str (pa_cons (pe_op op_add (pe_op op_shlW pe_int (pv 3)) pe_int) pa_nil))) pa_nil)) pe_bl (nomark _)) (pe_one (pe_cmpR op_isBl (pe_methD (pv 1) D_Span_ask hr passL (pa_cons (pe_tup (pa_cons pe_str (pa_cons pe_int pa_nil))) pa_nil)) pe_bl (nomark _)))))))))))), ?_⟩
    walk_at "rd"
    have hz : sizeLine = 16777216 := sizeLine_eq
    refine ⟨⟨_, hi⟩, ?_⟩
    refine lcB (itp_l K i _) (fun j => (l.reverse[j]?).map fun n => V.int (n : Nat)) (fun D acc hD => (G.Same.upd hD).seq hi) (fun j D acc C hj hD ha hC => ?_) (fun D hD => ?_)
    · rw [List.length_map, List.length_reverse, List.length_map] at hj
      have hx : ((l.map (· * 2 ^ sh)).reverse.map fun n => V.int (n : Nat)).getD j .non = V.int ((l.reverse[j]'(by simpa using hj) * 2 ^ sh : Nat) : Int) := by
        rw [List.getD_eq_getElem?_getD, List.getElem?_map, ← List.map_reverse, List.getElem?_map, List.getElem?_eq_getElem (by simpa using hj)]
        rfl
      rw [hx]
      have hv : l.reverse[j]? = some (l.reverse[j]'(by simpa using hj)) := List.getElem?_eq_getElem (by simpa using hj)
      generalize l.reverse[j]'(by simpa using hj) = y at *
      walk_at "rd"
      refine ⟨by omega, ?_⟩
      have e : ((y * 2 ^ sh : Nat) : Int) / 2 ^ (sh : Int).toNat = (y : Int) := by
        rw [Int.toNat_natCast, show (2 : Int) ^ sh = ((2 ^ sh : Nat) : Int) by simp, ← Int.natCast_ediv, Nat.mul_div_cancel _ (Nat.pow_pos (by decide))]
      rw [e]
      exact lcE hC (by rw [hv]; rfl) (by omega)
    · have ef : (List.range ((l.map (· * 2 ^ sh)).reverse.map fun n => V.int (n : Nat)).length).filterMap (fun j => (l.reverse[j]?).map fun n => V.int (n : Nat)) = l.reverse.map fun n => V.int (n : Nat) := by
        have : ((l.map (· * 2 ^ sh)).reverse.map fun n => V.int (n : Nat)).length = l.reverse.length := by simp
        rw [this]
        exact filterMap_get l.reverse _
      rw [ef]
      refine ⟨D, l, rfl, SqL.of upd_same, hl, fun t H1 S1 ht hH1 => ?_⟩
      have S0 : Same H H1 := (G.Same.upd hD).trans S1
      walk_at "rd"
      have hS1 : SpanAt K H1 p d q (l.map (· * 2 ^ sh)) := hS.keep (F := []) (.of S0) (fun a h => by cases h)
      obtain ⟨⟨dx, h1⟩, _, _⟩ := id hS1
      refine ⟨dx, _, h1, rfl, by decide, fun u hu1 => ?_⟩
      refine ⟨p, d, q, u, _, rfl, hS1.keep (F := []) (.of (G.Same.upd hu1)) (fun a h => by cases h), .inl ⟨upd_same, ?_⟩⟩
      have rk : (S.bas (l.map (· * 2 ^ sh))).length ≤ l.length := Nat.le_trans (S.bas_len _) (by simp)
      refine ⟨_, rfl, cshl_nat (a := 1) 1 (by decide) (by decide) (by omega), ?_⟩
      have u_t : t ≠ u := ne_of_none hH1 hu1
      refine ⟨_, (upd_ne u_t).trans hH1, rfl, ?_⟩
      rw [len_kk, Int.one_mul, Int.toNat_natCast, ← pow_cast, ← S.rank_shift sh l]
      refine iteNS rfl ⟨by decide, by decide, ?_⟩
      have bnt : b ≠ t := fun z => by
        subst z
        rw [(G.Same.upd hD).free (by exact ht)] at hb
        cases hb
      generalize eH2 : upd H1 u (.tup [.str "rank"]) = H2 at *
      have hb2 : H2 b = some (.lst [.int g, .int s', .int c]) := by rw [← eH2]; exact (G.Same.upd hu1) _ _ (S0 _ _ hb)
      have hS2 : SpanAt K H2 p d q (l.map (· * 2 ^ sh)) := by rw [← eH2]; exact hS1.keep (F := []) (.of (G.Same.upd hu1)) (fun a h => by cases h)
      have ht2 : H2 t = some (.dK (kk (S.sums l))) := by rw [← eH2]; exact (upd_ne u_t).trans hH1
      have k2 : Keep [b] H H2 := by rw [← eH2]; exact .of (S0.trans (G.Same.upd hu1))
      have o := S.ok_bas (l.map (· * 2 ^ sh))
      refine forB (itp_r _ _) (fun _ σ H' => Keep [b] H2 H' ∧ (∃ g s c : Int, H' b = some (.lst [.int g, .int s, .int c])) ∧ ∃ v6 v7, σ = [some (.ref b), some (.ref p), some (.ref i), some (.int (sh : Int)), some (.ref t), some (.int ((S.bas (l.map (· * 2 ^ sh))).length : Nat)), v6, v7]) ⟨Keep.refl _ _, ⟨_, _, _, hb2⟩, _, _, rfl⟩ (fun _ _ _ _ _ => trivial) ?_ ?_
      · rintro j _ H3 N hj ⟨k3, ⟨g3, s3, c3, hb3⟩, v6, v7, rfl⟩ hN
        walk_at "rd"
        refine ⟨b, _, _, _, _, rfl, hb3, by decide, by decide, fun r g4 s4 c4 l4 u4 => ?_⟩
        obtain ⟨n, rfl⟩ := Int.eq_ofNat_of_zero_le l4
        have k4 : Keep [b] H2 (upd H3 b (.lst [.int g4, .int s4, .int c4])) := k3.trans (Keep.upd (by simp))
        generalize eH4 : upd H3 b (.lst [.int g4, .int s4, .int c4]) = H4 at *
        have hb4 : H4 b = some (.lst [.int g4, .int s4, .int c4]) := by rw [← eH4, upd_same]
        have hS4 := hS2.keep k4 hdis
        obtain ⟨⟨dx4, h4⟩, _, _⟩ := id hS4
        walk_at "rd"
        refine ⟨dx4, _, h4, rfl, cshl_nat (a := n) 6 (by omega) (by decide) (by omega), by decide, fun x hx => ?_⟩
        rw [Int.toNat_natCast, ← pow_cast, ← Int.natCast_mul]
        refine ⟨p, d, q, x, _, rfl, hS4.keep (F := []) (.of (G.Same.upd hx)) (fun a h => by cases h), .inr ⟨n * 2 ^ sh, upd_same, ?_⟩⟩
        have ht4 : H4 t = some (.dK (kk (S.sums l))) := k4 _ _ (notin1 bnt.symm) ht2
        refine ⟨_, rfl, _, DGet.k (k := Sum.inl (n : Int)) ((G.Same.upd hx) _ _ ht4), rfl, ?_⟩
        have e : (decide (S.rest (S.bas (l.map (· * 2 ^ sh))) (n * 2 ^ sh) = 0)) = (valV (kk (S.sums l)) (Sum.inl (n : Int) : Key)).isSome := by
          rw [val_kk]
          by_cases z : n ∈ S.sums l
          · rw [if_pos z, decide_eq_true ((S.rest_zero o _).mpr ((S.sp_shift sh l n).mpr ((S.sums_mem l n).mp z)))]
            rfl
          · rw [if_neg z, decide_eq_false fun w => z ((S.sums_mem l n).mpr ((S.sp_shift sh l n).mp ((S.rest_zero o _).mp w)))]
            rfl
        rw [e]
        refine iteNS rfl (hN _ _ ⟨k4.trans (Keep.new hx), ⟨_, _, _, (G.Same.upd hx) _ _ hb4⟩, _, _, rfl⟩)
      · rintro _ H3 ⟨k3, ⟨g3, s3, c3, hb3⟩, v6, v7, rfl⟩
        walk_at "rd"
        refine ⟨rfl, ?_⟩
        have fin : ∀ H', Same H3 H' → Q (.bl true) H' := fun H' S3 => k H' g3 s3 c3 ((k2.trans k3).trans (.of S3)) (S3 _ _ hb3)
        refine ite2 (fun hs0 => fin _ (Same.refl _)) (fun hs1 => ?_)
        · have hs0 : sh ≠ 0 := by omega
          have hS3 := hS2.keep k3 hdis
          obtain ⟨⟨dx4, h4⟩, _, _⟩ := id hS3
          refine ⟨dx4, _, h4, rfl, cshl_nat (a := 1) 1 (by decide) (by decide) (by omega), by decide, fun x hx => ?_⟩
          have e1 : (1 : Int) * 2 ^ (sh : Int).toNat + 1 = ((2 ^ sh + 1 : Nat) : Int) := by
            rw [Int.one_mul, Int.toNat_natCast, ← pow_cast, Int.natCast_add]
            rfl
          rw [e1]
          refine ⟨p, d, q, x, _, rfl, hS3.keep (F := []) (.of (G.Same.upd hx)) (fun a h => by cases h), .inr ⟨2 ^ sh + 1, upd_same, ?_⟩⟩
          have e2 : decide (S.rest (S.bas (l.map (· * 2 ^ sh))) (2 ^ sh + 1) = 0) = false := decide_eq_false fun z => by
            have := S.sp_mult sh l _ ((S.rest_zero o _).mp z)
            have p1 : 1 < 2 ^ sh := Nat.one_lt_two_pow hs0
            rw [Nat.add_mod_left, Nat.mod_eq_of_lt p1] at this
            omega
          rw [e2]
          refine ⟨_, rfl, ?_⟩
          rw [if_pos rfl]
          refine ⟨dx4, _, (G.Same.upd hx) _ _ h4, rfl, by decide, fun y hy => ?_⟩
          refine ⟨p, d, q, y, _, rfl, hS3.keep (F := []) (.of ((G.Same.upd hx).trans (G.Same.upd hy))) (fun a h => by cases h), .inr ⟨0, upd_same, ?_⟩⟩
          rw [decide_eq_true ((S.rest_zero o 0).mpr (S.sp_zero _))]
          exact ⟨_, rfl, fin _ ((G.Same.upd hx).trans (G.Same.upd hy))⟩
structure St79 (K : PySem.W.Frag) (H0 H : Hp) (b p d q i p2 d2 q2 i2 : Addr) (sh : Nat) (l1 m1 l2 m2 : List Nat) : Prop where
  sm : Same H0 H
  nd : [b, p, d, q, i, p2, d2, q2, i2].Nodup
  fr : Fre H0 [b, p, d, q, i, p2, d2, q2, i2]
  hb : ∃ g s c : Int, H b = some (.lst [.int g, .int s, .int c])
  s1 : SpanAt K H p d q (l1.map (· * 2 ^ sh))
  i1 : H i = some (.lst ((m1.map (· * 2 ^ sh)).reverse.map fun n => V.int (n : Nat)))
  s2 : SpanAt K H p2 d2 q2 l2
  i2' : H i2 = some (.lst (m2.reverse.map fun n => V.int (n : Nat)))
section
variable {H0 H H' : Hp} {b p d q i p2 d2 q2 i2 : Addr} {sh : Nat} {l1 m1 l2 m2 : List Nat}
theorem St79.same (x : St79 K H0 H b p d q i p2 d2 q2 i2 sh l1 m1 l2 m2) (s : Same H H') : St79 K H0 H' b p d q i p2 d2 q2 i2 sh l1 m1 l2 m2 := by
  obtain ⟨g, s', c, hb⟩ := x.hb
  exact ⟨x.sm.trans s, x.nd, x.fr, ⟨g, s', c, s _ _ hb⟩, x.s1.keep (F := []) (.of s) (fun a h => by cases h), s _ _ x.i1, x.s2.keep (F := []) (.of s) (fun a h => by cases h), s _ _ x.i2'⟩
theorem St79.bag (x : St79 K H0 H b p d q i p2 d2 q2 i2 sh l1 m1 l2 m2) (k : Keep [b] H H') (hb : ∃ g s c : Int, H' b = some (.lst [.int g, .int s, .int c])) : St79 K H0 H' b p d q i p2 d2 q2 i2 sh l1 m1 l2 m2 := by
  have nd := x.nd
  exact ⟨k.same x.sm fun a h => x.fr a (by rw [List.mem_singleton.mp h]; simp), nd, x.fr, hb, x.s1.keep k (dis3 (notin1 (ndp nd 1 0)) (notin1 (ndp nd 2 0)) (notin1 (ndp nd 3 0))), k _ _ (notin1 (ndp nd 4 0)) x.i1,
    x.s2.keep k (dis3 (notin1 (ndp nd 5 0)) (notin1 (ndp nd 6 0)) (notin1 (ndp nd 7 0))), k _ _ (notin1 (ndp nd 8 0)) x.i2'⟩
theorem St79.list1 (x : St79 K H0 H b p d q i p2 d2 q2 i2 sh l1 m1 l2 m2) (m : List Nat) : St79 K H0 (upd H i (.lst ((m.map (· * 2 ^ sh)).reverse.map fun n => V.int (n : Nat)))) b p d q i p2 d2 q2 i2 sh l1 m l2 m2 := by
  have nd := x.nd
  have k : Keep [i] H (upd H i (.lst ((m.map (· * 2 ^ sh)).reverse.map fun n => V.int (n : Nat)))) := Keep.upd (by simp)
  obtain ⟨g, s', c, hb⟩ := x.hb
  exact ⟨k.same x.sm fun a h => x.fr a (by rw [List.mem_singleton.mp h]; simp), nd, x.fr, ⟨g, s', c, k _ _ (notin1 (ndp nd 0 4)) hb⟩, x.s1.keep k (dis3 (notin1 (ndp nd 1 4)) (notin1 (ndp nd 2 4)) (notin1 (ndp nd 3 4))), upd_same,
    x.s2.keep k (dis3 (notin1 (ndp nd 5 4)) (notin1 (ndp nd 6 4)) (notin1 (ndp nd 7 4))), k _ _ (notin1 (ndp nd 8 4)) x.i2'⟩
theorem St79.list2 (x : St79 K H0 H b p d q i p2 d2 q2 i2 sh l1 m1 l2 m2) (m : List Nat) : St79 K H0 (upd H i2 (.lst (m.reverse.map fun n => V.int (n : Nat)))) b p d q i p2 d2 q2 i2 sh l1 m1 l2 m := by
  have nd := x.nd
  have k : Keep [i2] H (upd H i2 (.lst (m.reverse.map fun n => V.int (n : Nat)))) := Keep.upd (by simp)
  obtain ⟨g, s', c, hb⟩ := x.hb
  exact ⟨k.same x.sm fun a h => x.fr a (by rw [List.mem_singleton.mp h]; simp), nd, x.fr, ⟨g, s', c, k _ _ (notin1 (ndp nd 0 8)) hb⟩, x.s1.keep k (dis3 (notin1 (ndp nd 1 8)) (notin1 (ndp nd 2 8)) (notin1 (ndp nd 3 8))), k _ _ (notin1 (ndp nd 4 8)) x.i1,
    x.s2.keep k (dis3 (notin1 (ndp nd 5 8)) (notin1 (ndp nd 6 8)) (notin1 (ndp nd 7 8))), upd_same⟩
theorem St79.span1 (x : St79 K H0 H b p d q i p2 d2 q2 i2 sh l1 m1 l2 m2) {l : List Nat} (k : Keep [d, q] H H') (y : SpanAt K H' p d q (l.map (· * 2 ^ sh))) : St79 K H0 H' b p d q i p2 d2 q2 i2 sh l m1 l2 m2 := by
  have nd := x.nd
  obtain ⟨g, s', c, hb⟩ := x.hb
  exact ⟨k.same x.sm fun a h => x.fr a (by simp only [List.mem_cons, List.not_mem_nil, or_false] at h; rcases h with h | h <;> simp [h]), nd, x.fr, ⟨g, s', c, k _ _ (notin2 (ndp nd 0 2) (ndp nd 0 3)) hb⟩, y, k _ _ (notin2 (ndp nd 4 2) (ndp nd 4 3)) x.i1,
    x.s2.keep k (dis3 (notin2 (ndp nd 5 2) (ndp nd 5 3)) (notin2 (ndp nd 6 2) (ndp nd 6 3)) (notin2 (ndp nd 7 2) (ndp nd 7 3))), k _ _ (notin2 (ndp nd 8 2) (ndp nd 8 3)) x.i2'⟩
theorem St79.span2 (x : St79 K H0 H b p d q i p2 d2 q2 i2 sh l1 m1 l2 m2) {l : List Nat} (k : Keep [d2, q2] H H') (y : SpanAt K H' p2 d2 q2 l) : St79 K H0 H' b p d q i p2 d2 q2 i2 sh l1 m1 l m2 := by
  have nd := x.nd
  obtain ⟨g, s', c, hb⟩ := x.hb
  exact ⟨k.same x.sm fun a h => x.fr a (by simp only [List.mem_cons, List.not_mem_nil, or_false] at h; rcases h with h | h <;> simp [h]), nd, x.fr, ⟨g, s', c, k _ _ (notin2 (ndp nd 0 6) (ndp nd 0 7)) hb⟩, x.s1.keep k (dis3 (notin2 (ndp nd 1 6) (ndp nd 1 7)) (notin2 (ndp nd 2 6) (ndp nd 2 7)) (notin2 (ndp nd 3 6) (ndp nd 3 7))), k _ _ (notin2 (ndp nd 4 6) (ndp nd 4 7)) x.i1,
    y, k _ _ (notin2 (ndp nd 8 6) (ndp nd 8 7)) x.i2'⟩
theorem St79.take (x : St79 K H0 H b p d q i p2 d2 q2 i2 sh l1 m1 l2 m2) (n : Int) (h0 : 0 < n) (h1 : n < 2 ^ 200) {Q : VK} (h : ∀ (r : Nat) (H' : Hp), (r : Int) < n → St79 K H0 H' b p d q i p2 d2 q2 i2 sh l1 m1 l2 m2 → Q (.int r) H') {E : XK} : sp_take [.ref b, .int n] H Q E := by
  obtain ⟨g, s', c, hb⟩ := x.hb
  refine ⟨b, g, s', c, n, rfl, hb, h0, h1, fun r g2 s2 c2 r0 r1 => ?_⟩
  obtain ⟨m, rfl⟩ := Int.eq_ofNat_of_zero_le r0
  exact h m _ r1 (x.bag (Keep.upd (by simp)) ⟨_, _, _, upd_same⟩)
end
theorem mk_span {H : Hp} {R : Addr → Hp → Prop} {E : XK} (h : ∀ x d q H', H x = none → H d = none → H q = none → Same H H' → SpanAt K H' x d q [] → R x H') : ∀ x dx, H x = none → H dx = none → dx ≠ x →
    sp_Span___init__ K [.ref x] (upd (upd H dx (.own x)) x (.ins (He.ga K "Span") dx [])) (fun v H2 => v = V.non ∧ R x H2) E := by
  intro x dx hx hdx n
  refine ⟨x, dx, rfl, upd_same, fun d q H' hd hq hS hk => ⟨rfl, ?_⟩⟩
  have fr : ∀ c, upd (upd H dx (.own x)) x (.ins (He.ga K "Span") dx []) c = none → H c = none := fun c hc => by
    by_cases e1 : c = x
    · rw [e1]
      exact hx
    · rw [upd_ne e1] at hc
      by_cases e2 : c = dx
      · rw [e2]
        exact hdx
      · rwa [upd_ne e2] at hc
  refine h x d q H' hx (fr d hd) (fr q hq) (fun c o e => hk c o (notin1 (ne_of_none e hx)) ?_) hS
  rw [upd_ne (ne_of_none e hx), upd_ne (ne_of_none e hdx)]
  exact e
abbrev s_law : Stmt := top 7
theorem sc_law : FnScope ["_law_script", "_law_at", "_law_bag_here", "_law_span", "_law_integers", "_law_road", "_law_shift", "_law_other", "_law_others", "_law_turn"] ["_law_script"] (defScope s_law) := ⟨rfl, rfl, rfl, by decide +kernel, rfl, by decide +kernel, by decide +kernel⟩
def sp_law (K : PySem.W.Frag) : Sp := fun vs H Q _ => ∃ (a : Addr) (ns : List Int), vs = [.ref a] ∧ SqL K H a (ns.map V.int) ∧ ns.length ≤ 63 ∧ (∀ z ∈ ns, Builtin.Int.intBits z ≤ 1048576) ∧ ∀ H', Q (.bl true) H'
theorem ok_law (T : Txt K mg) (D_Span_pop : Dm P w K mg base 1 (He.ga K "Span") "pop" ["self"] [] (sp_Span_pop K)) (D_Span_push : Dm P w K mg base 2 (He.ga K "Span") "push" ["self", "integer"] [] (sp_Span_push K)) (D_Span_push_0_integer : DmK P w K mg base 2 (He.ga K "Span") "push" ["self", "integer"] 0 ["integer"] (fun vs zs => vs ++ zs) (sp_Span_push K)) (D_bag : Df P w K mg base 1 "_law_bag" ["_law_script", "_law_at"] [] (sp_bag K)) (D_right : Df P w K mg base 3 "_law_right" ["_law_bag_here", "_law_span", "_law_integers", "_law_shift"] [] (sp_right K)) (D_take : Df P w K mg base 1 "_law_take" ["_law_bag_here", "_law_many"] [] sp_take) (M_Span : Dn P w K mg base 1 (He.ga K "Span") "Span" ["self"] [] (sp_Span___init__ K)) (F : FunD K "law" "law" (defArgs s_law) (defBody s_law) (defScope s_law) [] [] f fd) : FnOk P w K mg base (L2.CX P w) 4 f fd ["_law_script"] (sp_law K) := by
  refine F.ok sc_law (fun vs H Q E h => ?_) (fun cdv A outer s H vs Q E hr h => ?_)
  · obtain ⟨a, ns, rfl, _⟩ := h
    rfl
  · have hu := hu_of hr
    obtain ⟨a, ns, rfl, hS, hl, _, k⟩ := h
    refine ⟨_, (pss_cons (ps_for (passes_of rfl) rfl (pi_range1 (by rfl) T.b_range (pa_cons (pe_callB (call_max2 rfl) (by rfl) T.b_max (by decide +kernel) (pa_cons pe_int (pa_cons (pe_callB (call_min2 rfl) (by rfl) T.b_min (by decide +kernel) (pa_cons pe_int (pa_cons (pe_callB call_len (by rfl) T.b_len (by decide +kernel) (pa_cons (pv 0) pa_nil)) pa_nil))) pa_nil))) pa_nil)) (pg_name (i := 1) sc_law.nd rfl (Or.inl rfl)) (pss_cons (ps_set (i := 2) sc_law.nd rfl (Or.inl rfl) (pe_callD D_bag hr (by rfl) passL (pa_cons (pv 0) (pa_cons (pv 1) pa_nil))))
        (pss_cons (ps_asg (pe_tup (pa_cons (pe_make0D M_Span hr (by rfl) passL) (pa_cons (pe_lst pa_nil) (pa_cons pe_int (pa_cons (pe_ix ix_list (pe_lst (pa_cons pe_int (pa_cons pe_int (pa_cons (pe_op op_add pe_int (pe_callD D_take hr (by rfl) passL (pa_cons (pv 2) (pa_cons pe_int pa_nil)))) pa_nil)))) (pe_callD D_take hr (by rfl) passL (pa_cons (pv 2) (pa_cons pe_int pa_nil))) (fun _ _ => rfl)) pa_nil))))) (pg_tup (n := 4) (by rfl) (pgs_cons (pg_name (i := 3) sc_law.nd rfl (Or.inl rfl)) (pgs_cons (pg_name (i := 4) sc_law.nd rfl (Or.inl rfl)) (pgs_cons (pg_name (i := 5) sc_law.nd rfl (Or.inl rfl)) (pgs_cons (pg_name (i := 6) sc_law.nd rfl (Or.inl rfl)) pgs_nil))))))
        (pss_cons (ps_par (i := 7) (j := 8) (by rfl) sc_law.nd rfl rfl (by decide) rfl rfl (pa_cons (pe_make0D M_Span hr (by rfl) passL) (pa_cons (pe_lst pa_nil) pa_nil)) (by rfl))
        (pss_one (ps_for (passes_of rfl) rfl (pi_range1 (by rfl) T.b_range (pa_cons (pe_op op_add pe_int (pe_callD D_take hr (by rfl) passL (pa_cons (pv 2) (pa_cons pe_int pa_nil)))) pa_nil)) (pg_name (i := 9) sc_law.nd rfl (Or.inl rfl)) (pss_cons (ps_if (pt_cmpR op_eq (pe_callD D_take hr (by rfl) passL (pa_cons (pv 2) (pa_cons pe_int pa_nil))) pe_int (nomark _)) (pss_one (ps_set (i := 5) sc_law.nd rfl (Or.inl rfl) (pe_callD D_take hr (by rfl) passL (pa_cons (pv 2) (pa_cons pe_int pa_nil))))) pss_nil)
          (pss_cons (ps_if (PW.pt (pw_or (pt_cmpR op_lt (pv 5) pe_int (nomark _)) (pw_or1 (pt_cmpR (op_eqD hr.units) (pv 4) (pe_lst pa_nil) (nomark _))))) (pss_cons (ps_expr (pe_bm PySem.F.plainAttrs_list PySem.F.slot_list_append PySem.F.type_list_append mt_append (pv 4) (pa_cons (pe_op op_shlW (pe_callD D_take hr (by rfl) passL (pa_cons (pv 2) (pa_cons (pe_ix ix_list (pe_lst (pa_cons pe_int (pa_cons pe_int pa_nil))) (pe_callD D_take hr (by rfl) passL (pa_cons (pv 2) (pa_cons pe_int pa_nil))) (fun _ _ => rfl)) pa_nil))) (pv 6)) pa_nil)))
            (pss_one (ps_if (pt_cmpR op_eq (pe_op op_mod (pv 9) pe_int) pe_int (nomark _)) (pss_one (ps_expr (pe_methD (pv 3) D_Span_push hr passL (pa_cons (pe_ix ix_list (pv 4) (pe_un un_neg pe_int) (fun _ _ => rfl)) pa_nil)))) (pss_one (ps_expr (pe_methK0D (pv 3) D_Span_push_0_integer hr passL (pk_cons (pe_ix ix_list (pv 4) (pe_un un_neg pe_int) (fun _ _ => rfl)) pk_nil))))))) (pss_cons (ps_expr (pe_bm0 PySem.F.plainAttrs_list PySem.F.slot_list_pop PySem.F.type_list_pop mt_pop (pv 4)))
            (pss_one (ps_expr (pe_meth0D (pv 3) D_Span_pop hr passL)))))
          (pss_cons (ps_if (pt_cmpR op_eq (pe_callD D_take hr (by rfl) passL (pa_cons (pv 2) (pa_cons pe_int pa_nil))) pe_int (nomark _)) (pss_cons (ps_expr (pe_bm PySem.F.plainAttrs_list PySem.F.slot_list_append PySem.F.type_list_append mt_append (pv 8) (pa_cons (pe_callD D_take hr (by rfl) passL (pa_cons (pv 2) (pa_cons pe_int pa_nil))) pa_nil)))
            (pss_one (ps_expr (pe_methD (pv 7) D_Span_push hr passL (pa_cons (pe_ix ix_list (pv 8) (pe_un un_neg pe_int) (fun _ _ => rfl)) pa_nil))))) (pss_one (ps_if (pt_cmpR (op_neD hr.units) (pv 8) (pe_lst pa_nil) (nomark _)) (pss_cons (ps_expr (pe_bm0 PySem.F.plainAttrs_list PySem.F.slot_list_pop PySem.F.type_list_pop mt_pop (pv 8)))
              (pss_one (ps_expr (pe_meth0D (pv 7) D_Span_pop hr passL)))) pss_nil)))
          (pss_one (ps_if (PW.pt (pw_or (pt_not (pt_val (pe_callD D_right hr (by rfl) passL (pa_cons (pv 2) (pa_cons (pv 3) (pa_cons (pv 4) (pa_cons (pv 6) pa_nil))))))) (pw_or1 (pt_not (pt_val (pe_callD D_right hr (by rfl) passL (pa_cons (pv 2) (pa_cons (pv 7) (pa_cons (pv 8) (pa_cons pe_int pa_nil)))))))))) (pss_one (ps_ret pe_bl)) pss_nil)))))))))))
      (pss_one (ps_ret pe_bl))), ?_⟩
    walk_at "rd"
    refine ⟨_, len_of hS, ?_⟩
    rw [List.length_map]
    generalize en : (if (if (ns.length : Int) < 4 then (ns.length : Int) else 4) > 1 then if (ns.length : Int) < 4 then (ns.length : Int) else 4 else 1) = m
    have hm : 0 ≤ m ∧ m ≤ 4 := by
      rw [← en]
      split <;> split <;> omega
    refine ⟨by omega, by omega, ?_⟩
    refine forB (itp_r _ _) (fun i σ H' => Same H H' ∧ ∃ v1 v2 v3 v4 v5 v6 v7 v8 v9, σ = [some (.ref a), v1, v2, v3, v4, v5, v6, v7, v8, v9]) ⟨Same.refl _, none, none, none, none, none, none, none, none, none, rfl⟩ (fun _ _ _ _ _ => trivial) ?_ (fun _ H' _ => by walk_at "rd"; exact k H')
    rintro i _ H1 N hi ⟨S1, v1, v2, v3, v4, v5, v6, v7, v8, v9, rfl⟩ hN
    walk_at "rd"
    refine ⟨a, ns, _, rfl, S1.seq hS, hl, by omega, by omega, fun b H2 g s2 S2 hb2 hb => ?_⟩
    walk_at "rd"

    refine mk_span fun p d q H3 hp hd hq S3 hS3 => ⟨by decide, fun i1 hi1 => ?_⟩
    have hb3 := S3 _ _ hb
    refine ⟨b, _, _, _, _, rfl, (G.Same.upd hi1) _ _ hb3, by decide, by decide, fun r1 g1 s1 c1 l1 u1 => ⟨_, rfl, by decide, fun j1 hj1 => ?_⟩⟩
    have bj : b ≠ j1 := ne_of_none upd_same hj1
    refine ⟨b, _, _, _, _, rfl, (G.Same.upd hj1) _ _ upd_same, by decide, by decide, fun r2 g2 s3 c2 l2 u2 => ⟨_, _, rfl, SqL.of ((upd_ne bj.symm).trans upd_same), ?_⟩⟩
    have hsh : ∃ sh : Nat, sh ≤ 90 ∧ atI [V.int 0, V.int 0, V.int (1 + r1)] r2 = some (.int (sh : Int)) := by
      have h3 : r2 = 0 ∨ r2 = 1 ∨ r2 = 2 := by omega
      rcases h3 with e | e | e <;> subst e
      · exact ⟨0, by omega, rfl⟩
      · exact ⟨0, by omega, rfl⟩
      · exact ⟨(1 + r1).toNat, by omega, by rw [Int.toNat_of_nonneg (by omega)]; rfl⟩
    obtain ⟨sh, hsh, hat⟩ := hsh
    have k8 : Keep [b] (upd H3 i1 (.lst [])) (upd (upd (upd (upd H3 i1 (.lst [])) b (.lst [.int g1, .int s1, .int c1])) j1 (.lst [.int 0, .int 0, .int (1 + r1)])) b (.lst [.int g2, .int s3, .int c2])) := ((Keep.upd (by simp)).trans (Keep.new hj1)).trans (Keep.upd (by simp))
    generalize eH7 : upd (upd (upd (upd H3 i1 (.lst [])) b (.lst [.int g1, .int s1, .int c1])) j1 (.lst [.int 0, .int 0, .int (1 + r1)])) b (.lst [.int g2, .int s3, .int c2]) = H7 at *
    have hb7 : H7 b = some (.lst [.int g2, .int s3, .int c2]) := by rw [← eH7, upd_same]
    refine ⟨_, hat, by decide, fun t1 ht1 => ⟨_, SqT.of upd_same, rfl, ?_⟩⟩
    walk_at "rd"
    have S8 := G.Same.upd (o := .tup [.ref p, .ref i1, .int 0, .int (sh : Int)]) ht1
    generalize eH8 : upd H7 t1 (.tup [.ref p, .ref i1, .int 0, .int (sh : Int)]) = H8 at *
    refine mk_span fun p2 d2 q2 H9 hp2 hd2 hq2 S9 hS9 => ⟨by decide, fun i2 hi2 => ?_⟩
    walk_at "rd"
    obtain ⟨n1, n2, n3⟩ := hS3.ne
    obtain ⟨m1, m2, m3⟩ := hS9.ne
    have bp : b ≠ p := ne_of_none hb hp
    have bd : b ≠ d := ne_of_none hb hd
    have bq : b ≠ q := ne_of_none hb hq
    have tr3 := hS3.trk
    have ip : ∀ c o, H3 c = some o → c ≠ i1 := fun c o e => ne_of_none e hi1
    obtain ⟨⟨dx, a1⟩, a2, a3⟩ := id hS3
    have pi := ip _ _ a1
    have di := ip _ _ a2
    have qi := ip _ _ a3
    have bi := ip _ _ hb3
    have up : ∀ c o, c ≠ b → H3 c = some o → H8 c = some o := fun c o nb e => S8 _ _ (k8 _ _ (notin1 nb) ((G.Same.upd hi1) _ _ e))
    have e8 : ∀ c o, c ≠ b → H3 c = some o → ∀ z, H8 z = none → c ≠ z := fun c o nb e z hz => ne_of_none (up c o nb e) hz
    have b8 : ∀ z, H8 z = none → b ≠ z := fun z hz => ne_of_none (S8 _ _ hb7) hz
    have i8 : H8 i1 = some (.lst []) := S8 _ _ (k8 _ _ (notin1 bi.symm) upd_same)
    obtain ⟨⟨dx2, f1⟩, f2, f3⟩ := id hS9
    have ii : ∀ c o, H9 c = some o → c ≠ i2 := fun c o e => ne_of_none e hi2
    have S0 : Same H H3 := S1.trans (S2.trans S3)
    have f0 : ∀ c, H3 c = none → H c = none := fun c hc => S0.free hc
    have hb1 : H b = none := S1.free hb2
    have S08 : Same H H8 := fun c o e => by
      have nb : c ≠ b := ne_of_none e hb1
      exact up c o nb (S0 c o e)
    have S09 := S08.trans S9
    have S02 : Same H H2 := S1.trans S2
    have st : St79 K H (upd H9 i2 (.lst [])) b p d q i1 p2 d2 q2 i2 sh [] [] [] [] := by
      refine ⟨S09.trans (G.Same.upd hi2), ?_, ?_, ⟨g2, s3, c2, (G.Same.upd hi2) _ _ (S9 _ _ (S8 _ _ hb7))⟩, ?_, ?_, ?_, upd_same⟩
      · have q1 := e8 _ _ bp.symm a1
        have q2' := e8 _ _ bd.symm a2
        have q3 := e8 _ _ bq.symm a3
        have q4 := fun z hz => ne_of_none i8 (b := z) hz
        have w1 := fun c o (e : H8 c = some o) => ii c o (S9 _ _ e)
        simp only [List.nodup_cons, List.mem_cons, List.not_mem_nil, or_false, not_or, List.nodup_nil, and_true, not_false_eq_true]
        exact ⟨⟨bp, bd, bq, bi, b8 _ hp2, b8 _ hd2, b8 _ hq2, w1 _ _ (S8 _ _ hb7)⟩, ⟨n1, n2, pi, q1 _ hp2, q1 _ hd2, q1 _ hq2, w1 _ _ (up _ _ bp.symm a1)⟩, ⟨n3, di, q2' _ hp2, q2' _ hd2, q2' _ hq2, w1 _ _ (up _ _ bd.symm a2)⟩,
          ⟨qi, q3 _ hp2, q3 _ hd2, q3 _ hq2, w1 _ _ (up _ _ bq.symm a3)⟩, ⟨q4 _ hp2, q4 _ hd2, q4 _ hq2, w1 _ _ i8⟩, ⟨m1, m2, ii _ _ f1⟩, ⟨m3, ii _ _ f2⟩, ii _ _ f3⟩
      · intro c hc
        simp only [List.mem_cons, List.not_mem_nil, or_false] at hc
        rcases hc with e | e | e | e | e | e | e | e | e <;> subst e
        · exact hb1
        · exact S02.free hp
        · exact S02.free hd
        · exact S02.free hq
        · exact f0 _ hi1
        · exact S08.free hp2
        · exact S08.free hd2
        · exact S08.free hq2
        · exact S09.free hi2
      · exact ⟨⟨dx, (G.Same.upd hi2) _ _ (S9 _ _ (up _ _ bp.symm a1))⟩, (G.Same.upd hi2) _ _ (S9 _ _ (up _ _ bd.symm a2)), (G.Same.upd hi2) _ _ (S9 _ _ (up _ _ bq.symm a3))⟩
      · exact (G.Same.upd hi2) _ _ (S9 _ _ i8)
      · exact hS9.keep (F := []) (.of (G.Same.upd hi2)) (fun a h => by cases h)
    generalize upd H9 i2 (.lst []) = H10 at st ⊢
    clear hat k8 eH7 eH8 e8 b8 up ii S8 S9 S08 S09
    refine st.take 31 (by decide) (by decide) fun r5 H11 u5 st => ?_
    walk_at "rd"
    refine ⟨by omega, by omega, ?_⟩
    let sg := fun (road : Int) (v9 : Option V) => ([some (.ref a), some (.int (0 + (i : Int))), some (.ref b), some (.ref p), some (.ref i1), some (.int road), some (.int (sh : Int)), some (.ref p2), some (.ref i2), v9] : L2.St)
    let ST := fun (n : Nat) (H' : Hp) => ∃ l1 l2 : List Nat, St79 K H H' b p d q i1 p2 d2 q2 i2 sh l1 l1 l2 l2 ∧ (∀ y ∈ l1, y < 64) ∧ (∀ y ∈ l2, y < 64) ∧ l1.length ≤ n ∧ l2.length ≤ n
    refine forB (itp_r _ _) (fun n σ H' => (∃ road v9, σ = sg road v9) ∧ ST n H') ⟨⟨0, v9, rfl⟩, [], [], st, by simp, by simp, by simp, by simp⟩ (fun _ _ _ _ _ => trivial) ?_ ?_
    rotate_left
    · rintro _ H12 ⟨⟨road, v, rfl⟩, l1, l2, st, _⟩
      exact hN _ _ ⟨st.sm, _, _, _, _, _, _, _, _, _, rfl⟩
    rintro n _ H12 N2 hn ⟨⟨road, v, rfl⟩, l1, l2, st, B1, B2, L1, L2⟩ hN2
    have hn2 : n < 41 := by omega
    have hz : sizeLine = 16777216 := sizeLine_eq
    refine seq_cut (fun σ H' => (∃ road, σ = sg road (some (.int (0 + (n : Int))))) ∧ St79 K H H' b p d q i1 p2 d2 q2 i2 sh l1 l1 l2 l2) (fun N hN => ?_) ?_
    · simp only [sg]
      walk_at "rd"
      refine st.take 6 (by decide) (by decide) fun r6 H13 _ st => ⟨rfl, ite2 (fun _ => ?_) (fun _ => hN _ _ ⟨⟨_, rfl⟩, st⟩)⟩
      exact st.take 3 (by decide) (by decide) fun r7 H14 _ st => hN _ _ ⟨⟨_, rfl⟩, st⟩
    clear st
    rintro _ H13 ⟨⟨road, rfl⟩, st⟩
    refine seq_cut (fun σ H' => (∃ road, σ = sg road (some (.int (0 + (n : Int))))) ∧ ∃ l1 : List Nat, St79 K H H' b p d q i1 p2 d2 q2 i2 sh l1 l1 l2 l2 ∧ (∀ y ∈ l1, y < 64) ∧ l1.length ≤ n + 1) (fun N hN => ?_) ?_
    · refine if_cut (fun bb H' => St79 K H H' b p d q i1 p2 d2 q2 i2 sh l1 l1 l2 l2 ∧ (bb = false → l1 ≠ [])) (fun Q2 hQ2 => ?_) ?_ ?_
      · simp only [sg]
        walk_at "rd"
        refine ite2 (fun _ => hQ2 _ _ ⟨st, fun z => by cases z⟩) (fun _ => ⟨by decide, fun t1 ht1 => ?_⟩)
        have st2 := st.same (G.Same.upd (o := .lst []) ht1)
        refine eqD_ints (ns := (l1.map (· * 2 ^ sh)).reverse.map fun n => ((n : Nat) : Int)) (ms := []) (SqL.of (by rw [List.map_map]; exact st2.i1)) (SqL.of upd_same) ⟨_, rfl, hQ2 _ _ ⟨st2, fun z => ?_⟩⟩
        intro e
        rw [e] at z
        simp at z
      · rintro H14 ⟨st, _⟩
        simp only [sg]
        walk_at "rd"
        refine ⟨tyL st.i1, by decide, fun t1 ht1 => ?_⟩
        have st := st.same (G.Same.upd (o := .lst [.int 64, .int 4]) ht1)
        obtain ⟨g8, s8, c8, hb8⟩ := st.hb
        have nbt : t1 ≠ b := fun z => by
          rw [z, upd_same] at hb8
          cases hb8
        refine ⟨b, g8, s8, c8, 2, rfl, hb8, by decide, by decide, fun r7 g9 s9 c9 l7 u7 => ⟨_, _, rfl, SqL.of ((upd_ne nbt).trans upd_same), ?_⟩⟩
        have hat : ∃ m : Int, atI [V.int 64, V.int 4] r7 = some (.int m) ∧ 0 < m ∧ m ≤ 64 := by
          have h3 : r7 = 0 ∨ r7 = 1 := by omega
          rcases h3 with e | e <;> subst e
          · exact ⟨64, rfl, by decide, by decide⟩
          · exact ⟨4, rfl, by decide, by decide⟩
        obtain ⟨m8, hat, m80, m81⟩ := hat
        have st := st.bag (H' := upd (upd H14 t1 (.lst [.int 64, .int 4])) b (.lst [.int g9, .int s9, .int c9])) (Keep.upd (by simp)) ⟨_, _, _, upd_same⟩
        refine ⟨_, hat, st.take m8 m80 (by omega) fun y H15 hy st => ⟨_, rfl, cshl_nat (a := y) 6 (by omega) (by decide) (by omega), _, st.i1, ?_, by decide, rfl, ?_⟩⟩
        · rw [List.length_map, List.length_reverse, List.length_map]
          omega
        have eL : ((l1.map (· * 2 ^ sh)).reverse.map fun n => V.int (n : Nat)) ++ [V.int ((y : Int) * 2 ^ (sh : Int).toNat)] = (((y :: l1).map (· * 2 ^ sh)).reverse.map fun n => V.int (n : Nat)) := by
          rw [List.map_cons, List.reverse_cons, List.map_append, Int.toNat_natCast, ← pow_cast, ← Int.natCast_mul]
          rfl
        have st := st.list1 (y :: l1)
        rw [eL]
        have hpsh : ∀ N3 : Hp → Prop, (∀ H', St79 K H H' b p d q i1 p2 d2 q2 i2 sh (y :: l1) (y :: l1) l2 l2 → N3 H') → sp_Span_push K [.ref p, .int ((y * 2 ^ sh : Nat) : Int)] (upd H15 i1 (.lst (((y :: l1).map (· * 2 ^ sh)).reverse.map fun n => V.int (n : Nat)))) (fun _ H' => N3 H') E0 := fun N3 h3 => by
          refine ⟨p, d, q, _, y * 2 ^ sh, rfl, st.s1, by rw [List.length_map]; omega, fun H' hS' kS' => h3 H' (st.span1 kS' hS')⟩
        obtain ⟨⟨dx9, a9⟩, _, _⟩ := st.s1
        have hlast : atI (((y :: l1).map (· * 2 ^ sh)).reverse.map fun n => V.int (n : Nat)) (-1) = some (.int ((y * 2 ^ sh : Nat) : Int)) := by
          rw [List.map_cons, List.reverse_cons, List.map_append]
          exact atI_last _ _
        have fin : ∀ H', St79 K H H' b p d q i1 p2 d2 q2 i2 sh (y :: l1) (y :: l1) l2 l2 → N (sg road (some (.int (0 + (n : Int))))) H' := fun H' st' => hN _ _ ⟨⟨_, rfl⟩, y :: l1, st', fun z hz => by
          rcases List.mem_cons.mp hz with e | e
          · rw [e]
            omega
          · exact B1 z e, by rw [List.length_cons]; omega⟩
        exact ite2 (fun _ => ⟨dx9, _, a9, rfl, _, SqL.of st.i1, _, hlast, hpsh _ fin⟩) (fun _ => ⟨dx9, _, a9, rfl, _, SqL.of st.i1, _, hlast, hpsh _ fin⟩)
      · rintro H14 ⟨st, hne⟩
        simp only [sg]
        walk_at "rd"
        obtain ⟨y, l1', rfl⟩ : ∃ y r, l1 = y :: r := by
          cases l1 with
          | nil => exact absurd rfl (hne rfl)
          | cons y r => exact ⟨y, r, rfl⟩
        have eL : (((y :: l1').map (· * 2 ^ sh)).reverse.map fun n => V.int (n : Nat)) = ((l1'.map (· * 2 ^ sh)).reverse.map fun n => V.int (n : Nat)) ++ [V.int ((y * 2 ^ sh : Nat) : Int)] := by
          rw [List.map_cons, List.reverse_cons, List.map_append]
          rfl
        have hi9 := st.i1
        rw [eL] at hi9
        refine ⟨tyL hi9, _, hi9, _, last_get _ _, ?_⟩
        rw [List.dropLast_concat]
        have st := st.list1 l1'
        obtain ⟨⟨dx9, a9⟩, _, _⟩ := st.s1
        refine ⟨dx9, _, a9, rfl, p, d, q, l1'.map (· * 2 ^ sh), y * 2 ^ sh, rfl, st.s1, fun H' hS' kS' => hN _ _ ⟨⟨_, rfl⟩, l1', st.span1 kS' hS', fun z hz => B1 z (List.mem_cons_of_mem _ hz), ?_⟩⟩
        rw [List.length_cons] at L1
        omega
    clear st B1 L1
    rintro _ H14 ⟨⟨road, rfl⟩, l1, st, B1, L1⟩
    refine seq_cut (fun σ H' => (∃ road, σ = sg road (some (.int (0 + (n : Int))))) ∧ ST (n + 1) H') (fun N hN => ?_) ?_
    · simp only [sg]
      walk_at "rd"
      refine st.take 2 (by decide) (by decide) fun r6 H15 _ st => ⟨rfl, ite2 (fun _ => ?_) (fun _ => ⟨by decide, fun t1 ht1 => ?_⟩)⟩
      · refine ⟨tyL st.i2', st.take 16 (by decide) (by decide) fun y H16 hy st => ⟨_, st.i2', ?_, ?_⟩⟩
        · rw [List.length_map, List.length_reverse]
          omega
        have eL : (l2.reverse.map fun n => V.int (n : Nat)) ++ [V.int (y : Int)] = ((y :: l2).reverse.map fun n => V.int (n : Nat)) := by
          rw [List.reverse_cons, List.map_append]
          rfl
        have hlast : atI ((l2.reverse.map fun n => V.int (n : Nat)) ++ [V.int (y : Int)]) (-1) = some (.int (y : Int)) := atI_last _ _
        rw [eL] at hlast ⊢
        have st := st.list2 (y :: l2)
        obtain ⟨⟨dx9, a9⟩, _, _⟩ := st.s2
        refine ⟨dx9, _, a9, rfl, _, SqL.of st.i2', _, hlast, p2, d2, q2, l2, y, rfl, st.s2, by omega, fun H' hS' kS' => hN _ _ ⟨⟨_, rfl⟩, l1, y :: l2, st.span2 kS' hS', B1, fun z hz => ?_, L1, by rw [List.length_cons]; omega⟩⟩
        rcases List.mem_cons.mp hz with e | e
        · rw [e]
          omega
        · exact B2 z e
      · have st2 := st.same (G.Same.upd (o := .lst []) ht1)
        refine neD_ints (ns := l2.reverse.map fun n => ((n : Nat) : Int)) (ms := []) (SqL.of (by rw [List.map_map]; exact st2.i2')) (SqL.of upd_same) ⟨_, rfl, ?_⟩
        cases l2 with
        | nil => exact iteF (hN _ _ ⟨⟨_, rfl⟩, l1, [], st2, B1, B2, L1, by simp⟩)
        | cons y l2' =>
          have eb : (!decide (((y :: l2').reverse.map fun n => ((n : Nat) : Int)) = [])) = true := by simp
          rw [eb]
          refine iteT ?_
          have eL : ((y :: l2').reverse.map fun n => V.int (n : Nat)) = (l2'.reverse.map fun n => V.int (n : Nat)) ++ [V.int (y : Int)] := by
            rw [List.reverse_cons, List.map_append]
            rfl
          have hi9 := st2.i2'
          rw [eL] at hi9
          refine ⟨tyL hi9, _, hi9, _, last_get _ _, ?_⟩
          rw [List.dropLast_concat]
          have st := st2.list2 l2'
          obtain ⟨⟨dx9, a9⟩, _, _⟩ := st.s2
          refine ⟨dx9, _, a9, rfl, p2, d2, q2, l2', y, rfl, st.s2, fun H' hS' kS' => hN _ _ ⟨⟨_, rfl⟩, l1, l2', st.span2 kS' hS', B1, fun z hz => B2 z (List.mem_cons_of_mem _ hz), L1, ?_⟩⟩
          rw [List.length_cons] at L2
          omega
    clear st B1 L1 B2 L2
    rintro _ H15 ⟨⟨road, rfl⟩, l1, l2, st, B1, B2, L1, L2⟩
    simp only [sg]
    walk_at "rd"
    have nd := st.nd
    obtain ⟨g8, s8, c8, hb8⟩ := st.hb
    refine ⟨b, p, d, q, i1, g8, s8, c8, l1, sh, rfl, hb8, st.s1, SqL.of st.i1, B1, by omega, by omega, dis3 (notin1 (ndp nd 1 0)) (notin1 (ndp nd 2 0)) (notin1 (ndp nd 3 0)), fun H16 g9 s9 c9 k16 hb9 => ⟨_, rfl, ?_⟩⟩
    have st := st.bag k16 ⟨_, _, _, hb9⟩
    walk_at "rd"
    have e0 : l2.map (· * 2 ^ 0) = l2 := by simp
    refine ⟨b, p2, d2, q2, i2, g9, s9, c9, l2, 0, rfl, hb9, by rw [e0]; exact st.s2, by rw [e0]; exact SqL.of st.i2', B2, by omega, by omega, dis3 (notin1 (ndp nd 5 0)) (notin1 (ndp nd 6 0)) (notin1 (ndp nd 7 0)), fun H17 g10 s10 c10 k17 hb10 => ⟨_, rfl, ?_⟩⟩
    have st := st.bag k17 ⟨_, _, _, hb10⟩
    walk_at "rd"
    exact hN2 _ _ ⟨⟨_, _, rfl⟩, l1, l2, st, B1, B2, L1, L2⟩
def d_bag : He.DefD := ⟨("_law_bag", none), "_law_bag", "_law_bag", defArgs s_bag, defBody s_bag, defScope s_bag, [], []⟩
def d_take : He.DefD := ⟨("_law_take", none), "_law_take", "_law_take", defArgs s_take, defBody s_take, defScope s_take, [], []⟩
def d_Span___init__ : He.DefD := ⟨("Span", some "__init__"), "__init__", "Span.__init__", defArgs s_Span___init__, defBody s_Span___init__, defScope s_Span___init__, [], []⟩
def d_Span_rest_of : He.DefD := ⟨("Span", some "rest_of"), "rest_of", "Span.rest_of", defArgs s_Span_rest_of, defBody s_Span_rest_of, defScope s_Span_rest_of, [], []⟩
def d_Span_push : He.DefD := ⟨("Span", some "push"), "push", "Span.push", defArgs s_Span_push, defBody s_Span_push, defScope s_Span_push, [], []⟩
def d_Span_pop : He.DefD := ⟨("Span", some "pop"), "pop", "Span.pop", defArgs s_Span_pop, defBody s_Span_pop, defScope s_Span_pop, [], []⟩
def d_Span_ask : He.DefD := ⟨("Span", some "ask"), "ask", "Span.ask", defArgs s_Span_ask, defBody s_Span_ask, defScope s_Span_ask, [], []⟩
def d_sums : He.DefD := ⟨("_law_sums", none), "_law_sums", "_law_sums", defArgs s_sums, defBody s_sums, defScope s_sums, [], []⟩
def d_right : He.DefD := ⟨("_law_right", none), "_law_right", "_law_right", defArgs s_right, defBody s_right, defScope s_right, [], []⟩
def d_law : He.DefD := ⟨("law", none), "law", "law", defArgs s_law, defBody s_law, defScope s_law, [], []⟩
def fn : List He.DefD := [d_bag, d_take, d_Span___init__, d_Span_rest_of, d_Span_push, d_Span_pop, d_Span_ask, d_sums, d_right, d_law]
def fa : List Fx := [fFree "abs", fFree "len", fFree "list", fFree "max", fFree "min", fFree "range", fFree "repr", fCls "Span", fGlo "Span", fNoat "Span" "basis", fNoat "Span" "lengths", fMeth "Span" "rest_of", fMeth "Span" "push", fMeth "Span" "pop", fMeth "Span" "ask", fMkr "Span", fGlo "_law_bag", fGlo "_law_take", fGlo "_law_sums", fGlo "_law_right", fGlo "law"]
abbrev R : PySem.W.OpenRow := PySem.W.OpenLaw.row PySem.Challenge.rw_oncebuilt_k79_sums_without_carry
abbrev hk : PySem.W.Hook := hookX 6 fa fn
def ob (s : PySem.W.SharedT) : He.AlD := obsXG 6 fa fn (HandSHeadRun.getT s)
theorem ob_eq (s : PySem.W.SharedT) : ob s = hk.obs s.abs := obsXG_eq (HandSHeadRun.getT_eq s)
def loose : List Str := (["Span", "_law_bag", "_law_take", "_law_sums", "_law_right"] : List Str)
theorem run (w : World) : HandSHeadRun.RunEq R (PySem.W.view R.prog [7]) hk ob 20000 loose w := by
  intro os
  kernel_rfl
theorem facts {P : Program} {w : World} {K : PySem.W.Frag} {h : Heap} {mg : Str → Option Value} {f : Addr} (X : K.In h) (G : h.Ns mainGlobals mg) (hfa : mg ("law" : Str) = some (.ref f)) (c : SaysX fa fn K) :
    ∃ fd : FuncData, (∀ (s : Shared) (v : Value), BindsTo s fd ⟨[v], []⟩ [("_law_script", v)]) ∧ ∀ base : Heap, K.In base → base.Ns mainGlobals mg → FnOk P w K mg base (L2.CX P w) 4 f fd ["_law_script"] (sp_law K) := by
  obtain ⟨fd_bag, F_bag⟩ := c.def_ 0 (d := d_bag) rfl
  obtain ⟨fd_take, F_take⟩ := c.def_ 1 (d := d_take) rfl
  obtain ⟨fd_Span___init__, F_Span___init__⟩ := c.def_ 2 (d := d_Span___init__) rfl
  obtain ⟨fd_Span_rest_of, F_Span_rest_of⟩ := c.def_ 3 (d := d_Span_rest_of) rfl
  obtain ⟨fd_Span_push, F_Span_push⟩ := c.def_ 4 (d := d_Span_push) rfl
  obtain ⟨fd_Span_pop, F_Span_pop⟩ := c.def_ 5 (d := d_Span_pop) rfl
  obtain ⟨fd_Span_ask, F_Span_ask⟩ := c.def_ 6 (d := d_Span_ask) rfl
  obtain ⟨fd_sums, F_sums⟩ := c.def_ 7 (d := d_sums) rfl
  obtain ⟨fd_right, F_right⟩ := c.def_ 8 (d := d_right) rfl
  obtain ⟨fd_law, F_law⟩ := c.def_ 9 (d := d_law) rfl
  have e := hfa.symm.trans (He.glo_ok X G (c.fact 20 (f := fGlo "law") rfl))
  cases e
  have T : Txt K mg := ⟨(He.free_ok X G (c.fact 0)), (He.free_ok X G (c.fact 1)), (He.free_ok X G (c.fact 2)), (He.free_ok X G (c.fact 3)), (He.free_ok X G (c.fact 4)), (He.free_ok X G (c.fact 5)), (He.free_ok X G (c.fact 6)), (He.cls_ok (c.fact 7)), (He.glo_ok X G (c.fact 8)), (He.noat_ok (c.fact 9)), (He.noat_ok (c.fact 10))⟩
  have b := FunD.bindsA (ps := ["_law_script"]) F_law fun _ _ _ _ _ _ us hl => match us, hl with | [_], _ => rfl
  refine ⟨fd_law, fun s v => b s [v] rfl, fun base _ _ => ?_⟩
  have D_Span_rest_of : Dm P w K mg base 1 (He.ga K "Span") "rest_of" ["self", "integer"] [] (sp_Span_rest_of K) := Dm.of (st := s_Span_rest_of) F_Span_rest_of T.c_Span (He.meth_ok (c.fact 11 (f := fMeth "Span" "rest_of") rfl)) (ok_Span_rest_of T  F_Span_rest_of) fun _ _ _ _ _ _ us hl => match us, hl with | [_, _], _ => rfl
  have D_Span_ask : Dm P w K mg base 2 (He.ga K "Span") "ask" ["self", "question"] [] (sp_Span_ask K) := Dm.of (st := s_Span_ask) F_Span_ask T.c_Span (He.meth_ok (c.fact 14 (f := fMeth "Span" "ask") rfl)) (ok_Span_ask T D_Span_rest_of F_Span_ask) fun _ _ _ _ _ _ us hl => match us, hl with | [_, _], _ => rfl
  have D_Span_ask_0_question : DmK P w K mg base 2 (He.ga K "Span") "ask" ["self", "question"] 0 ["question"] (fun vs zs => vs ++ zs) (sp_Span_ask K) := DmK.of (st := s_Span_ask) F_Span_ask T.c_Span (He.meth_ok (c.fact 14 (f := fMeth "Span" "ask") rfl)) (ok_Span_ask T D_Span_rest_of F_Span_ask) (fun us ws => us ++ ws) (fun r1 r2 => r1.append r2) fun _ _ _ _ _ _ us ws hl hw => match us, hl, ws, hw with | [_], _, [_], _ => rfl
  have D_sums : Df P w K mg base 1 "_law_sums" ["_law_integers"] [] (sp_sums K) := Df.of (st := s_sums) F_sums (He.glo_ok X G (c.fact 18 (f := fGlo "_law_sums") rfl)) (ok_sums T  F_sums) fun _ _ _ _ _ _ us hl => match us, hl with | [_], _ => rfl
  have D_take : Df P w K mg base 1 "_law_take" ["_law_bag_here", "_law_many"] [] sp_take := Df.of (st := s_take) F_take (He.glo_ok X G (c.fact 17 (f := fGlo "_law_take") rfl)) (ok_take T  F_take) fun _ _ _ _ _ _ us hl => match us, hl with | [_, _], _ => rfl
  have D_Span_pop : Dm P w K mg base 1 (He.ga K "Span") "pop" ["self"] [] (sp_Span_pop K) := Dm.of (st := s_Span_pop) F_Span_pop T.c_Span (He.meth_ok (c.fact 13 (f := fMeth "Span" "pop") rfl)) (ok_Span_pop T  F_Span_pop) fun _ _ _ _ _ _ us hl => match us, hl with | [_], _ => rfl
  have D_Span_push : Dm P w K mg base 2 (He.ga K "Span") "push" ["self", "integer"] [] (sp_Span_push K) := Dm.of (st := s_Span_push) F_Span_push T.c_Span (He.meth_ok (c.fact 12 (f := fMeth "Span" "push") rfl)) (ok_Span_push T D_Span_rest_of F_Span_push) fun _ _ _ _ _ _ us hl => match us, hl with | [_, _], _ => rfl
  have D_Span_push_0_integer : DmK P w K mg base 2 (He.ga K "Span") "push" ["self", "integer"] 0 ["integer"] (fun vs zs => vs ++ zs) (sp_Span_push K) := DmK.of (st := s_Span_push) F_Span_push T.c_Span (He.meth_ok (c.fact 12 (f := fMeth "Span" "push") rfl)) (ok_Span_push T D_Span_rest_of F_Span_push) (fun us ws => us ++ ws) (fun r1 r2 => r1.append r2) fun _ _ _ _ _ _ us ws hl hw => match us, hl, ws, hw with | [_], _, [_], _ => rfl
  have D_bag : Df P w K mg base 1 "_law_bag" ["_law_script", "_law_at"] [] (sp_bag K) := Df.of (st := s_bag) F_bag (He.glo_ok X G (c.fact 16 (f := fGlo "_law_bag") rfl)) (ok_bag T  F_bag) fun _ _ _ _ _ _ us hl => match us, hl with | [_, _], _ => rfl
  have D_right : Df P w K mg base 3 "_law_right" ["_law_bag_here", "_law_span", "_law_integers", "_law_shift"] [] (sp_right K) := Df.of (st := s_right) F_right (He.glo_ok X G (c.fact 19 (f := fGlo "_law_right") rfl)) (ok_right T D_Span_ask D_Span_ask_0_question D_sums D_take F_right) fun _ _ _ _ _ _ us hl => match us, hl with | [_, _, _, _], _ => rfl
  have M_Span : Dn P w K mg base 1 (He.ga K "Span") "Span" ["self"] [] (sp_Span___init__ K) := Dn.of (st := s_Span___init__) F_Span___init__ T.g_Span (He.mkr_ok (c.fact 15 (f := fMkr "Span") rfl)) (ok_Span___init__ T  F_Span___init__) fun _ _ _ _ _ _ us hl => match us, hl with | [_], _ => rfl
  exact ok_law T D_Span_pop D_Span_push D_Span_push_0_integer D_bag D_right D_take M_Span F_law
end K79
open PySem PySem.W PySem.Calls PyProof.Rows
theorem PySem.Challenge.cw_oncebuilt_k79_sums_without_carry_holds : PySem.Challenge.rw_oncebuilt_k79_sums_without_carry.Holds := by
  w_on; o_law
  refine HandSHeadRun.head_any (r := OpenLaw.row PySem.Challenge.rw_oncebuilt_k79_sums_without_carry) (q := view (OpenLaw.row PySem.Challenge.rw_oncebuilt_k79_sums_without_carry).prog [7]) (H := K79.hk) (ob := K79.ob) (M := 20000) (loose := K79.loose) (d := HandSHeadRun.topDef (OpenLaw.row PySem.Challenge.rw_oncebuilt_k79_sums_without_carry).prog 7) (kwd := []) K79.ob_eq
    (by kernel_rfl) (fun s => by kernel_rfl) K79.run (by kernel_rfl) (by kernel_rfl) (by kernel_rfl) (by rfl) (by first | assumption | decide +kernel) (by decide +kernel) ⟨rfl, rfl, rfl, rfl, rfl, by decide +kernel⟩ ?hw ?hc
  case hw => w_witness2
  case hc =>
    refine G.walk_ofG (l := PySem.Challenge.rw_oncebuilt_k79_sums_without_carry) (n := 63) (k := 4) (x := "_law_script") rfl (by decide) (by kernel_rfl) ⟨rfl, by decide, by decide⟩ ?F
    intro w mg fa h Y G hmg0
    obtain ⟨K, KX, c⟩ := Y
    have hmg : mg ("law" : PySem.Str) = some (.ref fa) := by
      have e : (HandSHeadRun.topDef (OpenLaw.row PySem.Challenge.rw_oncebuilt_k79_sums_without_carry).prog 7).name = ("law" : PySem.Str) := by kernel_rfl
      rw [← e]
      exact hmg0
    obtain ⟨fd, hb, hF⟩ := K79.facts (P := (PySem.Challenge.rw_oncebuilt_k79_sums_without_carry).prog) (w := w) KX G hmg c
    exact ⟨K, fd, (K79.sp_law K), KX, hb, fun H a ns hl hbits _ hS => ⟨a, ns, rfl, hS, hl, hbits, fun _ => rfl⟩, hF⟩
