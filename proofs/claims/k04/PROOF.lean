import PyProof.Rows.All
import Wide.All
import OpenK.AllK
import Wide.FinOn
import KE.KStateDown
import HandS.ForMost
import HandS.ForExc
import HandS.Defaults
import HandS.MakeKwOnly
import HandS.IsInst
import HandS.Wide
import HandS.WideBits
import HandS.WideMore
import HandS.Flow
import HandS.Style
import HandS.SortInts
import HandS.Conv
import HandS.Deep
import HandS.Head0
import HandS.Head1
import HandS.Head2
import HandS.HeadEnd
import HandS.EndBits
import HandS.HeadHook1
import HandS.HeadHook2
import HandS.ExcIs
import HandS.TryMany
import HandS.Finally
import PySem.Challenge.RW_oncebuilt_k04_bad_numbers
set_option Elab.async false
set_option linter.all false
set_option maxRecDepth 100000
set_option maxHeartbeats 4000000
namespace G
open PySem PySem.Spec PyProof.Rows L2
/-! ### defs by name -/
/-- the module's name x is a def with the parameters ps that keeps sp; the last parameters have the values dvs by default -/
def Df (P : Program) (w : World) (K : PySem.W.Frag) (mg : Str → Option Value) (base : Heap) (k : Nat) (x : Str) (ps : List Str) (dvs : List V) (sp : Sp) : Prop :=
  ∃ (f : Addr) (fd : FuncData) (ds : List Value), mg x = some (.ref f) ∧ PySem.W.keepIn K (.ref f) = true ∧ Vals dvs ds ∧ Binds K fd ps ds ∧ FnOk P w K mg base (L2.CX P w) k f fd ps sp
/-- .. called with n positional arguments and the keywords ks -/
def DfK (P : Program) (w : World) (K : PySem.W.Frag) (mg : Str → Option Value) (base : Heap) (k : Nat) (x : Str) (ps : List Str) (n : Nat) (ks : List Str) (gV : List V → List V → List V) (sp : Sp) : Prop :=
  ∃ (f : Addr) (fd : FuncData) (g : List Value → List Value → List Value), mg x = some (.ref f) ∧ PySem.W.keepIn K (.ref f) = true ∧ KBn K fd ps n ks g gV ∧ FnOk P w K mg base (L2.CX P w) k f fd ps sp
section
variable {X : Cx} {j k n : Nat} {ps ks : List Str} {sp : Sp} {dvs : List V} {E : XK} {x m : Str} {p pos apos : Pos} {e o : Expr} {es : List Expr} {kws : List Keyword} {ta : TE} {t tk : TA} {gV : List V → List V → List V}
theorem pe_callD (D : Df X.prog X.w X.K X.mg X.base k x ps dvs sp) (hr : Room j X.A) (hg : Gl X x) (hx : Passes (L2.CX X.prog X.w) X E) (ha : PA X (e :: es) t) (hk : k ≤ j := by decide)
    (hdb : (x == ("__debug__" : Str)) = false := by decide) (he : starEach (e :: es) X.env = (false, eval e X.env) :: starEach es X.env := by rfl) (hpl : (backTo pos (starEach es X.env)).any (·.1) = false := by rfl) :
    PE X (.Call (.Name x p) (e :: es) [] pos) (tCall sp dvs E t) := by
  obtain ⟨f, fd, ds, h1, h2, h3, h4, h5⟩ := D
  exact pe_call h5 (hr.mono hk) hg h1 h2 h4 h3 hx ha hdb he hpl
theorem pe_call0D (D : Df X.prog X.w X.K X.mg X.base k x ps dvs sp) (hr : Room j X.A) (hg : Gl X x) (hx : Passes (L2.CX X.prog X.w) X E) (hk : k ≤ j := by decide)
    (hdb : (x == ("__debug__" : Str)) = false := by decide) : PE X (.Call (.Name x p) [] [] pos) (tCall sp dvs E tNil) := by
  obtain ⟨f, fd, ds, h1, h2, h3, h4, h5⟩ := D
  exact pe_call0 h5 (hr.mono hk) hg h1 h2 h4 h3 hx hdb
theorem pe_callKD (D : DfK X.prog X.w X.K X.mg X.base k x ps n ks gV sp) (hr : Room j X.A) (hg : Gl X x) (hx : Passes (L2.CX X.prog X.w) X E) (ha : PA X (e :: es) t) (hkw : PK X kws tk) (hk : k ≤ j := by decide)
    (hall : (backToKw pos (keywordEach kws X.env)).all (·.1.isSome) = true := by rfl) (hks : (backToKw pos (keywordEach kws X.env)).filterMap (·.1) = ks := by rfl)
    (hdb : (x == ("__debug__" : Str)) = false := by decide) (he : starEach (e :: es) X.env = (false, eval e X.env) :: starEach es X.env := by rfl)
    (hpl : ((backTo pos (starEach (e :: es) X.env)).any (·.1) || (backToKw pos (keywordEach kws X.env)).any (·.1.isNone)) = false := by rfl) :
    PE X (.Call (.Name x p) (e :: es) kws pos) (tCallN n ks.length sp gV E t tk) := by
  obtain ⟨f, fd, g, h1, h2, h4, h5⟩ := D
  exact pe_callN h5 (hr.mono hk) hg h1 h2 h4 hx ha hkw hall hks hdb he hpl
/-- f(k = v, ..) -/
theorem pe_callK0D (D : DfK X.prog X.w X.K X.mg X.base k x ps 0 ks gV sp) (hr : Room j X.A) (hg : Gl X x) (hx : Passes (L2.CX X.prog X.w) X E) (hkw : PK X kws tk) (hk : k ≤ j := by decide)
    (hall : (backToKw pos (keywordEach kws X.env)).all (·.1.isSome) = true := by rfl) (hks : (backToKw pos (keywordEach kws X.env)).filterMap (·.1) = ks := by rfl)
    (hdb : (x == ("__debug__" : Str)) = false := by decide)
    (hpl : ((backTo pos (starEach [] X.env)).any (·.1) || (backToKw pos (keywordEach kws X.env)).any (·.1.isNone)) = false := by rfl) :
    PE X (.Call (.Name x p) [] kws pos) (tCallN 0 ks.length sp gV E tNil tk) := by
  obtain ⟨f, fd, g, h1, h2, h4, h5⟩ := D
  refine ⟨fun pins s σ H Q I h => ?_⟩
  refine wpAny_Call_Name_kw (ld_glob I hg h1 ?_ hdb)
  refine PySem.W.callWith_KW0 (h₀ := X.base) I.ok.mod.kin h2 hall ?_ hpl
  refine thn (hkw.run pos pins s σ H _ I h) fun ws s2 ⟨zs, H2, I2, rz, l1, l2, q2⟩ => ⟨I2.kIn, ?_⟩
  rw [hks]
  exact run_fnN (us := []) (vs := []) h5 (hr.mono hk) h4 hx I2 .nil rz rfl l2 q2
end
section
variable {P : Program} {w : World} {K : PySem.W.Frag} {mg : Str → Option Value} {base : Heap} {k : Nat} {x : Str} {ps : List Str} {sp : Sp} {st : Stmt} {f : Addr} {fd : FuncData}
abbrev FnP (K : PySem.W.Frag) (x qual : Str) (st : Stmt) (dvs : List V) (f : Addr) (fd : FuncData) : Prop := FunD K x qual (defArgs st) (defBody st) (defScope st) dvs [] f fd
theorem Df.of {qual : Str} {kws : List (Str × V)} (F : FunD K x qual (defArgs st) (defBody st) (defScope st) [] kws f fd) (hm : mg x = some (.ref f)) (ok : FnOk P w K mg base (L2.CX P w) k f fd ps sp)
    (h : ∀ (kV doc pm : Value) (an : Option Addr) (cdv ct : Value) (us : List Value), us.length = ps.length → bindArgs (PySem.W.fnOf x qual (defArgs st) (defBody st) (defScope st) .none kV doc pm an cdv ct) ⟨us, []⟩ = pure (ps.zip us)) :
    Df P w K mg base k x ps [] sp := ⟨f, fd, [], hm, F.kp, .nil, F.bindsN h, ok⟩
end
/-! ### what leaves a def -/
section
variable {CX : CXT} {P : Program} {w : World} {K : PySem.W.Frag} {mg : Str → Option Value} {base : Heap} {N : List Str} {qual : Str} {scope : Scope} {f : Addr} {cd : Value} {A : Around} {outer : List Env} {s : Shared} {H : Hp} {E : XK}
theorem takeE : Takes (cxOf (L2.CX P w) P w K mg base N qual scope f cd A outer s H E) (fun cls d _ H' => E cls d H') := takes_of rfl rfl rfl rfl
theorem passE : Passes (L2.CX P w) (cxOf (L2.CX P w) P w K mg base N qual scope f cd A outer s H E) E := passes_call takeE fun _ _ _ _ h => h
end
/-! ### readings, cut -/
theorem seq_cut {t u : TS} {D : Ends} {σ : L2.St} {H : Hp} (J : L2.St → Hp → Prop) (h1 : ∀ N : L2.St → Hp → Prop, (∀ σ' H', J σ' H' → N σ' H') → t { D with nx := N } σ H) (h2 : ∀ σ' H', J σ' H' → u D σ' H') : tSeq t u D σ H := h1 (u D) h2
theorem if_cut {c : TT} {t u : TS} {D : Ends} {σ : L2.St} {H : Hp} (R : Bool → Hp → Prop) (h1 : ∀ Q : Bool → Hp → Prop, (∀ b H', R b H' → Q b H') → c σ H Q) (h2 : ∀ H', R true H' → t D σ H') (h3 : ∀ H', R false H' → u D σ H') : tIfS c t u D σ H :=
  h1 _ fun b H' r => by
    cases b with
    | true => exact iteT (h2 H' r)
    | false => exact iteF (h3 H' r)
theorem seq_cut2 {s1 t u : TS} {D : Ends} {σ : L2.St} {H : Hp} (J : L2.St → Hp → Prop) (h1 : ∀ N : L2.St → Hp → Prop, (∀ σ' H', J σ' H' → N σ' H') → s1 { D with nx := t { D with nx := N } } σ H) (h2 : ∀ σ' H', J σ' H' → u D σ' H') : tSeq s1 (tSeq t u) D σ H := h1 (u D) h2
/-! ### loops and comprehensions -/
/-- what walks over n things that stand still -/
structure ItP (J : It) (n : Nat) (item : Nat → V) (OK : Hp → Prop) : Prop where
  go : ∀ i H, OK H → i < n → J.go i H
  yld : ∀ i H x H', OK H → i < n → J.yld i H x H' → x = item i ∧ H' = H
  stop : ∀ H, OK H → J.stop n H
theorem itp_r (lo : Int) (n : Nat) : ItP (Itr lo n) n (fun i => .int (lo + i)) (fun _ => True) := ⟨fun _ _ _ h => h, fun _ _ _ _ _ _ y => ⟨y.2, y.1⟩, fun _ _ => Nat.le_refl _⟩
theorem itp_c (lo c : Int) (n : Nat) : ItP (Itc lo c n) n (fun i => .int (lo + (i : Nat) * c)) (fun _ => True) := ⟨fun _ _ _ h => h, fun _ _ _ _ _ _ y => ⟨y.2, y.1⟩, fun _ _ => Nat.le_refl _⟩
theorem itp_l (K : PySem.W.Frag) (a : Addr) (xs : List V) : ItP (Itl K a) xs.length (fun i => xs.getD i .non) (fun H => SqL K H a xs) where
  go := fun i H q h => ⟨xs, xs[i], q, List.getElem?_eq_getElem h⟩
  yld := fun i H x H' q h y => ⟨by
    have e := y.2 xs q
    rw [List.getD_eq_getElem?_getD, e]
    rfl, y.1⟩
  stop := fun H q => ⟨xs, q, Nat.le_refl _⟩
theorem itp_t (K : PySem.W.Frag) (a : Addr) (xs : List V) : ItP (Itt K a) xs.length (fun i => xs.getD i .non) (fun H => SqT K H a xs) where
  go := fun i H q h => ⟨xs, xs[i], q, List.getElem?_eq_getElem h⟩
  yld := fun i H x H' q h y => ⟨by
    have e := y.2 xs q
    rw [List.getD_eq_getElem?_getD, e]
    rfl, y.1⟩
  stop := fun H q => ⟨xs, q, Nat.le_refl _⟩
theorem itp_v (K : PySem.W.Frag) (a : Addr) (xs : List V) : ItP (Itv K a xs.length) xs.length (fun i => xs.getD (xs.length - 1 - i) .non) (fun H => SqL K H a xs) where
  go := fun i H q h => ⟨h, xs, xs[xs.length - 1 - i], q, List.getElem?_eq_getElem (by omega)⟩
  yld := fun i H x H' q h y => ⟨by
    have e := y.2 xs q
    rw [List.getD_eq_getElem?_getD, e]
    rfl, y.1⟩
  stop := fun H q => Nat.le_refl _
def tForB (J : It) (g : TG) (tb : TS) (D : Ends) (σ : L2.St) (H1 : Hp) : Prop := ∃ W : Nat → Nat → L2.St → Hp → Prop, (∃ m, W 0 m σ H1) ∧ ∀ i m σ H, W i m σ H →
  (J.stop i H ∧ D.nx σ H) ∨ (J.go i H ∧ ∃ N : L2.St → Hp → Prop, (∀ σ' H', N σ' H' → ∃ m', m' < m ∧ W (i + 1) m' σ' H') ∧ ∀ x H', J.yld i H x H' → g x σ H' fun σ2 H2 => tb { D with nx := N, ct := N, bk := D.nx } σ2 H2)
theorem tFor_eq (wi : TI) (g : TG) (tb : TS) (D : Ends) (σ : L2.St) (H : Hp) : tFor wi g tb D σ H = wi σ H fun J H1 => tForB J g tb D σ H1 := rfl
theorem forB {J : It} {n : Nat} {item : Nat → V} {OK : Hp → Prop} {g : TG} {tb : TS} {D : Ends} {σ : L2.St} {H : Hp} (I : ItP J n item OK) (Pv : Nat → L2.St → Hp → Prop) (h0 : Pv 0 σ H) (hok : ∀ i σ H, i ≤ n → Pv i σ H → OK H)
    (hs : ∀ (i : Nat) (σ : L2.St) (H : Hp) (N : L2.St → Hp → Prop), i < n → Pv i σ H → (∀ σ' H', Pv (i + 1) σ' H' → N σ' H') → g (item i) σ H fun σ2 H2 => tb { D with nx := N, ct := N, bk := D.nx } σ2 H2) (hd : ∀ σ H, Pv n σ H → D.nx σ H) :
    tForB J g tb D σ H := by
  refine ⟨fun i m σ H => m = n - i ∧ i ≤ n ∧ Pv i σ H, ⟨n, by simp, Nat.zero_le _, h0⟩, ?_⟩
  rintro i m σ H ⟨rfl, hi, p⟩
  by_cases hlt : i < n
  · refine .inr ⟨I.go i H (hok i σ H hi p) hlt, Pv (i + 1), fun σ' H' p' => ⟨n - (i + 1), by omega, rfl, hlt, p'⟩, fun x H' y => ?_⟩
    obtain ⟨ex, eH⟩ := I.yld i H x H' (hok i σ H hi p) hlt y
    subst ex eH
    exact hs i σ _ _ hlt p fun _ _ z => z
  · have e : i = n := by omega
    subst e
    exact .inl ⟨I.stop H (hok i σ H hi p), hd σ H p⟩
def tLcB (J : It) (g : TG) (tt : TT) (te : TE) (vs : List Nat) (σ : L2.St) (H1 : Hp) (Q : VK) : Prop := ∀ D, H1 D = none → ∃ W : Nat → Nat → Hp → Prop, (∃ m, W 0 m (upd H1 D (.lst []))) ∧ ∀ i m H, W i m H →
  (J.stop i H ∧ Q (.ref D) H) ∨ (J.go i H ∧ ∃ Nx : Hp → Prop, (∀ H', Nx H' → ∃ m', m' < m ∧ W (i + 1) m' H') ∧ ∀ x H', J.yld i H x H' → g x (wipe σ vs) H' fun σ2 H2 => wipe σ2 vs = wipe σ vs ∧ tt σ2 H2 fun b H3 =>
    if b = true then te σ2 H3 fun y H4 => ∃ acc, H4 D = some (.lst acc) ∧ acc.length < sizeLine ∧ Nx (upd H4 D (.lst (acc ++ [y]))) else Nx H3)
theorem tLc_eq (wi : TI) (g : TG) (tt : TT) (te : TE) (vs : List Nat) (σ : L2.St) (H : Hp) (Q : VK) : tLc wi g tt te vs σ H Q = wi σ H fun J H1 => tLcB J g tt te vs σ H1 Q := rfl
/-- a comprehension: Pv i H: the heap before turn i -/
theorem lcI {J : It} {n : Nat} {item : Nat → V} {OK : Hp → Prop} {g : TG} {tt : TT} {te : TE} {vs : List Nat} {σ : L2.St} {H1 : Hp} {Q : VK} (I : ItP J n item OK) (Pv : Addr → Nat → Hp → Prop) (h0 : ∀ D, H1 D = none → Pv D 0 (upd H1 D (.lst []))) (hok : ∀ D i H, H1 D = none → i ≤ n → Pv D i H → OK H)
    (hs : ∀ (D : Addr) (i : Nat) (H : Hp) (C : Hp → Prop), H1 D = none → i < n → Pv D i H → (∀ H', Pv D (i + 1) H' → C H') → g (item i) (wipe σ vs) H fun σ2 H2 => wipe σ2 vs = wipe σ vs ∧ tt σ2 H2 fun b H3 =>
      if b = true then te σ2 H3 fun y H4 => ∃ acc, H4 D = some (.lst acc) ∧ acc.length < sizeLine ∧ C (upd H4 D (.lst (acc ++ [y]))) else C H3) (hd : ∀ D H, H1 D = none → Pv D n H → Q (.ref D) H) : tLcB J g tt te vs σ H1 Q := by
  intro D hD
  refine ⟨fun i m H => m = n - i ∧ i ≤ n ∧ Pv D i H, ⟨n, by simp, Nat.zero_le _, h0 D hD⟩, ?_⟩
  rintro i m H ⟨rfl, hi, p⟩
  by_cases hlt : i < n
  · refine .inr ⟨I.go i H (hok D i H hD hi p) hlt, Pv D (i + 1), fun H' p' => ⟨n - (i + 1), by omega, rfl, hlt, p'⟩, fun x H' y => ?_⟩
    obtain ⟨ex, eH⟩ := I.yld i H x H' (hok D i H hD hi p) hlt y
    subst ex eH
    exact hs D i _ _ hD hlt p fun _ z => z
  · have e : i = n := by omega
    subst e
    exact .inl ⟨I.stop H (hok D i H hD hi p), hd D H hD p⟩
/-- a comprehension that changes nothing: f i is what the i-th turn gives -/
theorem lcB {J : It} {n : Nat} {item : Nat → V} {OK : Hp → Prop} {g : TG} {tt : TT} {te : TE} {vs : List Nat} {σ : L2.St} {H1 : Hp} {Q : VK} (I : ItP J n item OK) (f : Nat → Option V) (hok : ∀ D acc, H1 D = none → OK (upd H1 D (.lst acc)))
    (hs : ∀ (i : Nat) (D : Addr) (acc : List V) (C : Hp → Prop), i < n → H1 D = none → acc.length ≤ i → ((f i = none → C (upd H1 D (.lst acc))) ∧ ∀ y, f i = some y → C (upd H1 D (.lst (acc ++ [y])))) →
      g (item i) (wipe σ vs) (upd H1 D (.lst acc)) fun σ2 H2 => wipe σ2 vs = wipe σ vs ∧ tt σ2 H2 fun b H3 =>
        if b = true then te σ2 H3 fun y H4 => ∃ acc, H4 D = some (.lst acc) ∧ acc.length < sizeLine ∧ C (upd H4 D (.lst (acc ++ [y]))) else C H3)
    (hd : ∀ D, H1 D = none → Q (.ref D) (upd H1 D (.lst ((List.range n).filterMap f)))) : tLcB J g tt te vs σ H1 Q := by
  refine lcI I (fun D i H => H = upd H1 D (.lst ((List.range i).filterMap f))) (fun D _ => rfl) (fun D i H hD _ e => by rw [e]; exact hok D _ hD) (fun D i H C hD hi e hC => ?_) fun D H hD e => by rw [e]; exact hd D hD
  subst e
  refine hs i D _ C hi hD (Nat.le_trans (List.length_filterMap_le _ _) (by simp)) ⟨fun e => hC _ ?_, fun y e => hC _ ?_⟩
  · rw [List.range_succ, List.filterMap_append]
    simp [e]
  · rw [List.range_succ, List.filterMap_append]
    simp [e]
theorem filterMap_get {α : Type} (l : List α) (f : α → V) : (List.range l.length).filterMap (fun j => (l[j]?).map f) = l.map f := by
  have e : ∀ n, n ≤ l.length → (List.range n).filterMap (fun j => (l[j]?).map f) = (l.take n).map f := by
    intro n
    induction n with
    | zero => intro _; rfl
    | succ n ih =>
      intro h
      rw [List.range_succ, List.filterMap_append, ih (by omega), List.take_succ, List.getElem?_eq_getElem (by omega), List.map_append]
      simp [List.getElem?_eq_getElem (show n < l.length by omega)]
  rw [e _ (Nat.le_refl _), List.take_length]
theorem lcE {H1 : Hp} {D : Addr} {acc : List V} {C : Hp → Prop} {o : Option V} {y : V} (hC : (o = none → C (upd H1 D (.lst acc))) ∧ ∀ y, o = some y → C (upd H1 D (.lst (acc ++ [y])))) (e : o = some y) (hl : acc.length < sizeLine) :
    ∃ acc', (upd H1 D (.lst acc)) D = some (.lst acc') ∧ acc'.length < sizeLine ∧ C (upd (upd H1 D (.lst acc)) D (.lst (acc' ++ [y]))) := ⟨acc, upd_same, hl, by rw [upd_upd]; exact hC.2 y e⟩
def whBody (Pv : L2.St → Hp → Prop) (μ : L2.St → Hp → Nat) (m : Nat) (tb : TS) (D : Ends) (σ : L2.St) (H1 : Hp) : Prop :=
  ∃ N : L2.St → Hp → Prop, (∀ σ' H', N σ' H' → ∃ m', m' < m ∧ m' = μ σ' H' ∧ Pv σ' H') ∧ tb { D with nx := N, ct := N, bk := D.nx } σ H1
theorem whileB {c : TT} {tb : TS} {D : Ends} {σ : L2.St} {H : Hp} (Pv : L2.St → Hp → Prop) (μ : L2.St → Hp → Nat) (h0 : Pv σ H)
    (hs : ∀ σ H, Pv σ H → c σ H fun b H1 => if b = true then whBody Pv μ (μ σ H) tb D σ H1 else D.nx σ H1) : tWhile c tb D σ H := by
  refine ⟨fun m σ H => m = μ σ H ∧ Pv σ H, ⟨_, rfl, h0⟩, ?_⟩
  rintro m σ H ⟨rfl, p⟩
  exact hs σ H p
theorem whI {Pv : L2.St → Hp → Prop} {μ : L2.St → Hp → Nat} {m : Nat} {tb : TS} {D : Ends} {σ : L2.St} {H1 : Hp}
    (h : ∀ N : L2.St → Hp → Prop, (∀ σ' H', Pv σ' H' → μ σ' H' < m → N σ' H') → tb { D with nx := N, ct := N, bk := D.nx } σ H1) : whBody Pv μ m tb D σ H1 :=
  ⟨fun σ' H' => Pv σ' H' ∧ μ σ' H' < m, fun _ _ ⟨p, l⟩ => ⟨_, l, rfl, p⟩, h _ fun _ _ p l => ⟨p, l⟩⟩
theorem isi {K : PySem.W.Frag} {H : Hp} {x : V} {t T : String} {b : Bool} {Q : VK} (ty : TyX K H x (.type t)) (h : kitB t T = some b) (q : Q (.bl b) H) : rIsi K [x, .ty T] H Q := ⟨x, .ty T, .type t, .type T, b, rfl, .ty T, ty, kit_ty h, q⟩
theorem dp_ints {K : PySem.W.Frag} {H : Hp} : ∀ ns : List Int, DpAll K H (ns.map V.int) (ns.map PyData.int)
  | [] => .nil
  | n :: r => .cons (.int n) (dp_ints r)
theorem eqD_same {K : PySem.W.Frag} {H : Hp} {x y : V} {d : PyData} {Q : VK} (hx : Dp K H x d) (hy : Dp K H y d) (hs : SeqAt.shaped d = true) (q : Q (.bl true) H) : rEqD K x y H Q := by
  refine ⟨d, d, hx, hy, hs, hs, ?_⟩
  rw [SeqAt.eqv_refl d (Bool.and_eq_true_iff.mp hs).1]
  exact q
theorem neD_same {K : PySem.W.Frag} {H : Hp} {x y : V} {d : PyData} {Q : VK} (hx : Dp K H x d) (hy : Dp K H y d) (hs : SeqAt.shaped d = true) (q : Q (.bl false) H) : rNeD K x y H Q := by
  refine ⟨d, d, hx, hy, hs, hs, ?_⟩
  rw [SeqAt.eqv_refl d (Bool.and_eq_true_iff.mp hs).1]
  exact q
theorem tyL {K : PySem.W.Frag} {H : Hp} {p : Addr} {xs : List V} (h : H p = some (.lst xs)) : tyV K "list" (.ref p) H := Or.inl ⟨rfl, _, SqL.of h⟩
theorem last_get {α : Type} (xs : List α) (v : α) : (xs ++ [v])[(xs ++ [v]).length - 1]? = some v := by simp
theorem whileC {c : TT} {tb : TS} {D : Ends} {σ : L2.St} {H : Hp} (Pv : L2.St → Hp → Prop) (μ : L2.St → Hp → Nat) (h0 : Pv σ H)
    (hs : ∀ σ H, Pv σ H → ∀ B : L2.St → Hp → Prop, (∀ σ1 H1, (∀ N : L2.St → Hp → Prop, (∀ σ' H', Pv σ' H' → μ σ' H' < μ σ H → N σ' H') → tb { D with nx := N, ct := N, bk := D.nx } σ1 H1) → B σ1 H1) →
      c σ H fun b H1 => if b = true then B σ H1 else D.nx σ H1) : tWhile c tb D σ H :=
  whileB Pv μ h0 fun σ H p => hs σ H p (fun σ1 H1 => whBody Pv μ (μ σ H) tb D σ1 H1) fun _ _ h => whI h
theorem len_of {K : PySem.W.Frag} {H : Hp} {a : Addr} {xs : List V} (h : SqL K H a xs) : LenV K (.ref a) H xs.length := .inl ⟨xs, h, rfl⟩
theorem lenT_of {K : PySem.W.Frag} {H : Hp} {a : Addr} {xs : List V} (h : SqT K H a xs) : LenV K (.ref a) H xs.length := .inr ⟨xs, h, rfl⟩
theorem Same.upd {H : Hp} {p : Addr} {o : HO} (h : H p = none) : Same H (upd H p o) := fun b o' e => by rw [upd_ne (ne_of_none e h)]; exact e
theorem atI_of {α : Type} {xs : List α} {i : Int} {v : α} (h0 : 0 ≤ i) (h : xs[i.toNat]? = some v) : atI xs i = some v := by
  have e := atI_nat h
  rwa [Int.toNat_of_nonneg h0] at e
/-! ### the head's facts -/
abbrev Fx : Type := PySem.W.Frag → Bool
def obsX (fa : List Fx) (fn : List He.DefD) (K : PySem.W.Frag) : He.AlD := ((fa.all fun f => f K) && fn.all fun d => d.ok K, fn.map fun d => He.fnW K d.at_)
def SaysX (fa : List Fx) (fn : List He.DefD) (K : PySem.W.Frag) : Prop := obsX fa fn K = He.valD fn
def obsXG (n : Nat) (fa : List Fx) (fn : List He.DefD) (g : Addr → Option Obj) : He.AlD := obsX fa fn (He.frG g (He.asD g n))
def hookX (n : Nat) (fa : List Fx) (fn : List He.DefD) : PySem.W.Hook where
  α := He.AlD
  obs := fun s => obsXG n fa fn s.heap.get?
  val := fun _ => He.valD fn
  says := fun _ h => ∃ K : PySem.W.Frag, K.In h ∧ SaysX fa fn K
  of := fun _ _ e => ⟨_, He.frG_in, e⟩
  keeps := fun _ _ _ ⟨K, hK, c⟩ k => ⟨K, PySem.W.Frag.In.keeps hK k, c⟩
theorem obsXG_eq {n : Nat} {fa : List Fx} {fn : List He.DefD} {g : Addr → Option Obj} {s : Shared} (h : ∀ a, g a = s.heap.get? a) : obsXG n fa fn g = (hookX n fa fn).obs s := by
  have e : g = s.heap.get? := funext h
  rw [e] <;> rfl
section
variable {fa : List Fx} {fn : List He.DefD} {K : PySem.W.Frag}
theorem SaysX.fact (c : SaysX fa fn K) (i : Nat) {f : Fx} (h : fa[i]? = some f := by rfl) : f K = true := by
  have c1 := (He.ba (show ((fa.all fun f => f K) && fn.all fun d => d.ok K) = true from congrArg (fun z : He.AlD => z.1) c)).1
  exact List.all_eq_true.mp c1 f (List.mem_of_getElem? h)
theorem SaysX.def_ (c : SaysX fa fn K) (i : Nat) {d : He.DefD} (h : fn[i]? = some d := by rfl) : ∃ fd, FunD K d.name d.qual d.params d.body d.scope (d.dvs K) (d.kws K) (He.fAd K d.at_) fd := by
  have c2 := (He.ba (show ((fa.all fun f => f K) && fn.all fun d => d.ok K) = true from congrArg (fun z : He.AlD => z.1) c)).2
  have e : fn.map (fun d => He.fnW K d.at_) = fn.map He.DefD.val := congrArg (fun z : He.AlD => z.2) c
  have e2 : (fn.map fun d => He.fnW K d.at_)[i]? = (fn.map He.DefD.val)[i]? := by rw [e]
  rw [List.getElem?_map, List.getElem?_map, h] at e2
  exact He.DefD.funD (Option.some.inj e2) (List.all_eq_true.mp c2 d (List.mem_of_getElem? h))
end
def fGlo (x : Str) : Fx := fun K => (He.Fa.glo x).ok K
def fFree (x : Str) : Fx := fun K => (He.Fa.free x).ok K
def fInt (x : Str) (i : Int) : Fx := fun K => (He.Fa.int x i).ok K
def fCls (x : Str) : Fx := fun K => (He.Fa.cls x).ok K
def fNoat (x f : Str) : Fx := fun K => (He.Fa.noat x f).ok K
def fMeth (x f : Str) : Fx := fun K => (He.Fa.meth x f).ok K
def fMkr (x : Str) : Fx := fun K => (He.Fa.mkr x).ok K
def fExc (x : Str) : Fx := fun K => (He.Fa.exc x).ok K
def fExm (x y : Str) (b : Bool) : Fx := fun K => (He.Fa.exm x y b).ok K
/-- keyword calls of a def without defaults -/
theorem DfK.of {P : Program} {w : World} {K : PySem.W.Frag} {mg : Str → Option Value} {base : Heap} {k n : Nat} {x : Str} {ps ks : List Str} {sp : Sp} {st : Stmt} {f : Addr} {fd : FuncData} {qual : Str} {kws : List (Str × V)}
    (F : FunD K x qual (defArgs st) (defBody st) (defScope st) [] kws f fd) (hm : mg x = some (.ref f)) (ok : FnOk P w K mg base (L2.CX P w) k f fd ps sp) (g : {α : Type} → List α → List α → List α)
    (hrel : ∀ {vs zs : List V} {us ws : List Value}, Vals vs us → Vals zs ws → Vals (g vs zs) (g us ws))
    (h : ∀ (kV doc pm : Value) (an : Option Addr) (cdv ct : Value) (us ws : List Value), us.length = n → ws.length = ks.length → bindArgs (PySem.W.fnOf x qual (defArgs st) (defBody st) (defScope st) .none kV doc pm an cdv ct) ⟨us, ks.zip ws⟩ = pure (ps.zip (g us ws))) :
    DfK P w K mg base k x ps n ks (fun vs zs => g vs zs) sp := by
  obtain ⟨oc, od, dV, kV, doc, pm, an, cdv, ct, osl, rfl, lk, hcd, hD, hK⟩ := F.ex
  rcases hD with ⟨_, rfl⟩ | ⟨e, _⟩
  · exact ⟨f, _, fun us ws => g us ws, hm, F.kp, ⟨fun s us ws _ l1 l2 => .of_eq (h kV doc pm an cdv ct us ws l1 l2), fun r1 r2 => hrel r1 r2⟩, ok⟩
  · exact absurd rfl e
/-- positional calls of a def with defaults: n values are written, the defaults behind the first j fill up -/
theorem Df.ofD {P : Program} {w : World} {K : PySem.W.Frag} {mg : Str → Option Value} {base : Heap} {k : Nat} {x : Str} {ps : List Str} {sp : Sp} {st : Stmt} {f : Addr} {fd : FuncData} {qual : Str} {kws : List (Str × V)} {dvs : List V}
    (F : FunD K x qual (defArgs st) (defBody st) (defScope st) dvs kws f fd) (hm : mg x = some (.ref f)) (ok : FnOk P w K mg base (L2.CX P w) k f fd ps sp) (n j : Nat) (hd : dvs ≠ []) (hn : n + (dvs.length - j) = ps.length)
    (h : ∀ (T : Addr) (kV doc pm : Value) (an : Option Addr) (cdv ct : Value) (us its : List Value), us.length = n → its.length = dvs.length →
      ∃ k, bindArgs (PySem.W.fnOf x qual (defArgs st) (defBody st) (defScope st) (.ref T) kV doc pm an cdv ct) ⟨us, []⟩ = seqItems? (.ref T) >>= k ∧ k (some its.toArray) = pure (ps.zip (us ++ its.drop j))) :
    Df P w K mg base k x ps (dvs.drop j) sp := by
  obtain ⟨ds, h1, h2⟩ := F.binds1 n j hd hn h
  exact ⟨f, fd, ds, hm, F.kp, h1, h2, ok⟩
/-! ### methods and makers by name -/
def Dm (P : Program) (w : World) (K : PySem.W.Frag) (mg : Str → Option Value) (base : Heap) (k : Nat) (C : Addr) (m : Str) (ps : List Str) (dvs : List V) (sp : Sp) : Prop :=
  ∃ (f : Addr) (fd : FuncData) (ds : List Value), Cls K C ∧ Meth K C m f ∧ Vals dvs ds ∧ Binds K fd ps ds ∧ FnOk P w K mg base (L2.CX P w) k f fd ps sp
def DmK (P : Program) (w : World) (K : PySem.W.Frag) (mg : Str → Option Value) (base : Heap) (k : Nat) (C : Addr) (m : Str) (ps : List Str) (n : Nat) (ks : List Str) (gV : List V → List V → List V) (sp : Sp) : Prop :=
  ∃ (f : Addr) (fd : FuncData) (g : List Value → List Value → List Value), Cls K C ∧ Meth K C m f ∧ KBn K fd ps (n + 1) ks g gV ∧ FnOk P w K mg base (L2.CX P w) k f fd ps sp
def Dn (P : Program) (w : World) (K : PySem.W.Frag) (mg : Str → Option Value) (base : Heap) (k : Nat) (C : Addr) (x : Str) (ps : List Str) (dvs : List V) (sp : Sp) : Prop :=
  ∃ (f : Addr) (fd : FuncData) (ds : List Value), mg x = some (.ref C) ∧ Mk K C f ∧ Vals dvs ds ∧ Binds K fd ps ds ∧ FnOk P w K mg base (L2.CX P w) k f fd ps sp
def tMethK (C : Addr) (m : Str) (n nk : Nat) (sp : Sp) (gV : List V → List V → List V) (E : XK) (ta : TE) (t tk : TA) : TE := fun σ H Q => ta σ H fun x H1 => ∃ a dx fs, x = .ref a ∧ H1 a = some (.ins C dx fs) ∧ fs.lookup m = none ∧
  t σ H1 fun vs H2 => tk σ H2 fun zs H3 => vs.length = n ∧ zs.length = nk ∧ sp (gV (x :: vs) zs) H3 Q E
section
variable {X : Cx} {j k n : Nat} {C : Addr} {ps ks : List Str} {sp : Sp} {dvs : List V} {E : XK} {x m : Str} {p pos apos : Pos} {e o : Expr} {es : List Expr} {kws : List Keyword} {ta : TE} {t tk : TA} {gV : List V → List V → List V}
theorem pe_methD {pl : Sem Bool} (he : PE X o ta) (D : Dm X.prog X.w X.K X.mg X.base k C m ps dvs sp) (hr : Room j X.A) (hx : Passes (L2.CX X.prog X.w) X E) (ha : PA X (e :: es) t) (hk : k ≤ j := by decide)
    (hst : starEach (e :: es) X.env = (false, eval e X.env) :: starEach es X.env := by rfl) (hpl : (backTo pos (starEach es X.env)).any (·.1) = false := by rfl)
    (ht : eval (.Call (.Attribute o m apos) (e :: es) [] pos) X.env = (do
      let ov ← eval o X.env
      standAt apos.atName
      let (f, first) ← holding [ov] (getMethod ov m pl)
      callWith pos f first (backTo pos (starEach (e :: es) X.env)) (backToKw pos (keywordEach [] X.env))) := by rfl) :
    PE X (.Call (.Attribute o m apos) (e :: es) [] pos) (tMeth C m sp dvs E ta t) := by
  obtain ⟨f, fd, ds, h1, h2, h3, h4, h5⟩ := D
  exact pe_meth he h1 h2 h5 (hr.mono hk) h4 h3 hx ha hst hpl ht
theorem pe_meth0D {pl : Sem Bool} (he : PE X o ta) (D : Dm X.prog X.w X.K X.mg X.base k C m ps dvs sp) (hr : Room j X.A) (hx : Passes (L2.CX X.prog X.w) X E) (hk : k ≤ j := by decide)
    (ht : eval (.Call (.Attribute o m apos) [] [] pos) X.env = (do
      let ov ← eval o X.env
      standAt apos.atName
      let (f, first) ← holding [ov] (getMethod ov m pl)
      callWith pos f first (backTo pos (starEach [] X.env)) (backToKw pos (keywordEach [] X.env))) := by rfl) :
    PE X (.Call (.Attribute o m apos) [] [] pos) (tMeth C m sp dvs E ta tNil) := by
  obtain ⟨f, fd, ds, h1, h2, h3, h4, h5⟩ := D
  exact pe_meth0 he h1 h2 h5 (hr.mono hk) h4 h3 hx ht
/-- o.m(k = v, ..) -/
theorem pe_methK0D {pl : Sem Bool} (he : PE X o ta) (D : DmK X.prog X.w X.K X.mg X.base k C m ps 0 ks gV sp) (hr : Room j X.A) (hx : Passes (L2.CX X.prog X.w) X E) (hkw : PK X kws tk) (hk : k ≤ j := by decide)
    (hall : (backToKw pos (keywordEach kws X.env)).all (·.1.isSome) = true := by rfl) (hks : (backToKw pos (keywordEach kws X.env)).filterMap (·.1) = ks := by rfl)
    (hpl : ((backTo pos (starEach [] X.env)).any (·.1) || (backToKw pos (keywordEach kws X.env)).any (·.1.isNone)) = false := by rfl)
    (ht : eval (.Call (.Attribute o m apos) [] kws pos) X.env = (do
      let ov ← eval o X.env
      standAt apos.atName
      let (f, first) ← holding [ov] (getMethod ov m pl)
      callWith pos f first (backTo pos (starEach [] X.env)) (backToKw pos (keywordEach kws X.env))) := by rfl) :
    PE X (.Call (.Attribute o m apos) [] kws pos) (tMethK C m 0 ks.length sp gV E ta tNil tk) := by
  obtain ⟨f, fd, g, h1, h2, h4, h5⟩ := D
  refine ⟨fun pins s σ H Q I h => ?_⟩
  refine PySem.W.methodCall_KW (pl := pl) (thn (he.run pins s σ H _ I h) fun u s1 ⟨x, H1, I1, rx, a, dx, fs, ex, ea, l, q⟩ => ?_) ht
  subst ex
  obtain rfl : u = Value.ref a := rx
  refine getmeth_ok I1 ea h1 h2 l ?_
  refine PySem.W.callWith_KW0 (first := [.ref a]) (h₀ := X.base) I.ok.mod.kin h2.kp hall ?_ hpl
  refine thn (hkw.run pos pins s1 σ H1 _ I1 q) fun ws s2 ⟨zs, H2, I2, rz, l1, l2, q2⟩ => ⟨I2.kIn, ?_⟩
  rw [hks]
  exact run_fnN (us := [.ref a]) (vs := [.ref a]) h5 (hr.mono hk) h4 hx I2 (.cons rfl .nil) rz rfl l2 q2
/-- o.m(e, .., k = v, ..) -/
theorem pe_methKD {pl : Sem Bool} (he : PE X o ta) (D : DmK X.prog X.w X.K X.mg X.base k C m ps n ks gV sp) (hr : Room j X.A) (hx : Passes (L2.CX X.prog X.w) X E) (ha : PA X (e :: es) t) (hkw : PK X kws tk) (hk : k ≤ j := by decide)
    (hall : (backToKw pos (keywordEach kws X.env)).all (·.1.isSome) = true := by rfl) (hks : (backToKw pos (keywordEach kws X.env)).filterMap (·.1) = ks := by rfl)
    (hst : starEach (e :: es) X.env = (false, eval e X.env) :: starEach es X.env := by rfl)
    (hpl : ((backTo pos (starEach (e :: es) X.env)).any (·.1) || (backToKw pos (keywordEach kws X.env)).any (·.1.isNone)) = false := by rfl)
    (ht : eval (.Call (.Attribute o m apos) (e :: es) kws pos) X.env = (do
      let ov ← eval o X.env
      standAt apos.atName
      let (f, first) ← holding [ov] (getMethod ov m pl)
      callWith pos f first (backTo pos (starEach (e :: es) X.env)) (backToKw pos (keywordEach kws X.env))) := by rfl) :
    PE X (.Call (.Attribute o m apos) (e :: es) kws pos) (tMethK C m n ks.length sp gV E ta t tk) := by
  obtain ⟨f, fd, g, h1, h2, h4, h5⟩ := D
  refine ⟨fun pins s σ H Q I h => ?_⟩
  refine PySem.W.methodCall_KW (pl := pl) (thn (he.run pins s σ H _ I h) fun u s1 ⟨x, H1, I1, rx, a, dx, fs, ex, ea, l, q⟩ => ?_) ht
  subst ex
  obtain rfl : u = Value.ref a := rx
  refine getmeth_ok I1 ea h1 h2 l ?_
  refine PySem.W.callWith_KW (first := [.ref a]) (h₀ := X.base) I.ok.mod.kin h2.kp hall (thn (ha.run pos pins s1 σ H1 _ I1 q) fun us s1' ⟨vs, H1', I1', r, q'⟩ => ?_) hpl hst
  refine thn (hkw.run pos pins s1' σ H1' _ I1' q') fun ws s2 ⟨zs, H2, I2, rz, l1, l2, q2⟩ => ⟨I2.kIn, ?_⟩
  rw [hks]
  exact run_fnN (us := .ref a :: us) (vs := .ref a :: vs) h5 (hr.mono hk) h4 hx I2 (.cons rfl r) rz (congrArg Nat.succ l1) l2 q2
theorem pe_makeD (D : Dn X.prog X.w X.K X.mg X.base k C x ps dvs sp) (hr : Room j X.A) (hg : Gl X x) (hx : Passes (L2.CX X.prog X.w) X E) (ha : PA X (e :: es) t) (hk : k + 1 ≤ j := by decide)
    (hdb : (x == ("__debug__" : Str)) = false := by decide) (he : starEach (e :: es) X.env = (false, eval e X.env) :: starEach es X.env := by rfl) (hpl : (backTo pos (starEach es X.env)).any (·.1) = false := by rfl) :
    PE X (.Call (.Name x p) (e :: es) [] pos) (tMake C sp dvs E t) := by
  obtain ⟨f, fd, ds, h1, h2, h3, h4, h5⟩ := D
  exact pe_make h2 h5 (hr.mono hk) hg h1 h4 h3 hx ha hdb he hpl
theorem pe_make0D (D : Dn X.prog X.w X.K X.mg X.base k C x ps dvs sp) (hr : Room j X.A) (hg : Gl X x) (hx : Passes (L2.CX X.prog X.w) X E) (hk : k + 1 ≤ j := by decide)
    (hdb : (x == ("__debug__" : Str)) = false := by decide) : PE X (.Call (.Name x p) [] [] pos) (tMake C sp dvs E tNil) := by
  obtain ⟨f, fd, ds, h1, h2, h3, h4, h5⟩ := D
  exact pe_make0 h2 h5 (hr.mono hk) hg h1 h4 h3 hx hdb
end
section
variable {P : Program} {w : World} {K : PySem.W.Frag} {mg : Str → Option Value} {base : Heap} {k : Nat} {m : Str} {ps ks : List Str} {sp : Sp} {st : Stmt} {f C : Addr} {fd : FuncData} {qual : Str} {kws : List (Str × V)} {dvs : List V}
theorem Dm.of (F : FunD K m qual (defArgs st) (defBody st) (defScope st) [] kws f fd) (hc : Cls K C) (hm : Meth K C m f) (ok : FnOk P w K mg base (L2.CX P w) k f fd ps sp)
    (h : ∀ (kV doc pm : Value) (an : Option Addr) (cdv ct : Value) (us : List Value), us.length = ps.length → bindArgs (PySem.W.fnOf m qual (defArgs st) (defBody st) (defScope st) .none kV doc pm an cdv ct) ⟨us, []⟩ = pure (ps.zip us)) :
    Dm P w K mg base k C m ps [] sp := ⟨f, fd, [], hc, hm, .nil, F.bindsN h, ok⟩
theorem Dm.ofD (F : FunD K m qual (defArgs st) (defBody st) (defScope st) dvs kws f fd) (hc : Cls K C) (hm : Meth K C m f) (ok : FnOk P w K mg base (L2.CX P w) k f fd ps sp) (n j : Nat) (hd : dvs ≠ []) (hn : n + (dvs.length - j) = ps.length)
    (h : ∀ (T : Addr) (kV doc pm : Value) (an : Option Addr) (cdv ct : Value) (us its : List Value), us.length = n → its.length = dvs.length →
      ∃ k, bindArgs (PySem.W.fnOf m qual (defArgs st) (defBody st) (defScope st) (.ref T) kV doc pm an cdv ct) ⟨us, []⟩ = seqItems? (.ref T) >>= k ∧ k (some its.toArray) = pure (ps.zip (us ++ its.drop j))) :
    Dm P w K mg base k C m ps (dvs.drop j) sp := by
  obtain ⟨ds, h1, h2⟩ := F.binds1 n j hd hn h
  exact ⟨f, fd, ds, hc, hm, h1, h2, ok⟩
theorem DmK.of {n : Nat} (F : FunD K m qual (defArgs st) (defBody st) (defScope st) [] kws f fd) (hc : Cls K C) (hm : Meth K C m f) (ok : FnOk P w K mg base (L2.CX P w) k f fd ps sp) (g : {α : Type} → List α → List α → List α)
    (hrel : ∀ {vs zs : List V} {us ws : List Value}, Vals vs us → Vals zs ws → Vals (g vs zs) (g us ws))
    (h : ∀ (kV doc pm : Value) (an : Option Addr) (cdv ct : Value) (us ws : List Value), us.length = n + 1 → ws.length = ks.length → bindArgs (PySem.W.fnOf m qual (defArgs st) (defBody st) (defScope st) .none kV doc pm an cdv ct) ⟨us, ks.zip ws⟩ = pure (ps.zip (g us ws))) :
    DmK P w K mg base k C m ps n ks (fun vs zs => g vs zs) sp := by
  obtain ⟨oc, od, dV, kV, doc, pm, an, cdv, ct, osl, rfl, lk, hcd, hD, hK⟩ := F.ex
  rcases hD with ⟨_, rfl⟩ | ⟨e, _⟩
  · exact ⟨f, _, fun us ws => g us ws, hc, hm, ⟨fun s us ws _ l1 l2 => .of_eq (h kV doc pm an cdv ct us ws l1 l2), fun r1 r2 => hrel r1 r2⟩, ok⟩
  · exact absurd rfl e
theorem Dn.of {x : Str} (F : FunD K m qual (defArgs st) (defBody st) (defScope st) [] kws f fd) (hg : mg x = some (.ref C)) (hm : Mk K C f) (ok : FnOk P w K mg base (L2.CX P w) k f fd ps sp)
    (h : ∀ (kV doc pm : Value) (an : Option Addr) (cdv ct : Value) (us : List Value), us.length = ps.length → bindArgs (PySem.W.fnOf m qual (defArgs st) (defBody st) (defScope st) .none kV doc pm an cdv ct) ⟨us, []⟩ = pure (ps.zip us)) :
    Dn P w K mg base k C x ps [] sp := ⟨f, fd, [], hg, hm, .nil, F.bindsN h, ok⟩
end
/-! ### more built-ins -/
section
variable {X : Cx}
theorem call_repr_bool : CallR X (.builtin "repr") (fun xs H Q => ∃ b : Bool, xs = [.bl b] ∧ Q (.str (if b then "True" else "False")) H) := by
  intro pins s σ H xs us Q I r h
  obtain ⟨b, rfl, q⟩ := h
  obtain ⟨u, rfl, rx⟩ := vals1 r
  cases rx
  exact PySem.P.repr_of_bool ⟨.str _, H, I.tok _, ⟨_, rfl⟩, q⟩
end
/-- all but the object at b stays -/
def But (b : Addr) (H H' : Hp) : Prop := ∀ q o, q ≠ b → H q = some o → H' q = some o
theorem But.refl (b : Addr) (H : Hp) : But b H H := fun _ _ _ e => e
theorem But.trans {b : Addr} {H H1 H2 : Hp} (x : But b H H1) (y : But b H1 H2) : But b H H2 := fun q o n e => y q o n (x q o n e)
theorem But.of {b : Addr} {H H' : Hp} (x : Same H H') : But b H H' := fun q o _ e => x q o e
theorem But.upd {b : Addr} {H : Hp} {o : HO} : But b H (upd H b o) := fun q o' n e => by rw [upd_ne n]; exact e
theorem But.same {b : Addr} {H H1 H2 : Hp} (x : Same H H1) (n : H b = none) (y : But b H1 H2) : Same H H2 := fun q o e => y q o (ne_of_none e n) (x q o e)
/-! ### footprints -/
/-- all that stands outside F stays -/
def Keep (F : List Addr) (H H' : Hp) : Prop := ∀ a o, a ∉ F → H a = some o → H' a = some o
/-- F' is made of F and of new places -/
def New (F F' : List Addr) (H : Hp) : Prop := ∀ a ∈ F', a ∈ F ∨ H a = none
def Dis (F G : List Addr) : Prop := ∀ a ∈ F, a ∉ G
def Trk (F : List Addr) (H : Hp) : Prop := ∀ a ∈ F, ∃ o, H a = some o
/-- the places of F are free in H0 -/
def Fre (H0 : Hp) (F : List Addr) : Prop := ∀ a ∈ F, H0 a = none
theorem Keep.refl (F : List Addr) (H : Hp) : Keep F H H := fun _ _ _ e => e
theorem Keep.trans {F : List Addr} {H H1 H2 : Hp} (x : Keep F H H1) (y : Keep F H1 H2) : Keep F H H2 := fun a o n e => y a o n (x a o n e)
theorem Keep.of {F : List Addr} {H H' : Hp} (x : Same H H') : Keep F H H' := fun a o _ e => x a o e
theorem Keep.mono {F G : List Addr} {H H' : Hp} (x : Keep F H H') (h : ∀ a ∈ F, a ∈ G) : Keep G H H' := fun a o n e => x a o (fun z => n (h a z)) e
theorem Keep.upd {F : List Addr} {H : Hp} {b : Addr} {o : HO} (h : b ∈ F) : Keep F H (L2.upd H b o) := fun a o' n e => by
  rw [upd_ne (fun z => n (by rw [z]; exact h))]
  exact e
theorem Keep.new {F : List Addr} {H : Hp} {b : Addr} {o : HO} (h : H b = none) : Keep F H (L2.upd H b o) := .of (Same.upd h)
/-- a change of F and of what is new behind it -/
theorem Keep.then {F F' : List Addr} {H H1 H2 : Hp} (x : Keep F H H1) (n : New F F' H) (y : Keep F' H1 H2) : Keep F H H2 := fun a o na e => y a o (fun z => by
  rcases n a z with q | q
  · exact na q
  · rw [q] at e
    cases e) (x a o na e)
theorem Keep.same {F : List Addr} {H0 H H' : Hp} (s : Same H0 H) (f : Fre H0 F) (x : Keep F H H') : Same H0 H' := fun a o e => x a o (fun z => by
  rw [f a z] at e
  cases e) (s a o e)
theorem Keep.at {F : List Addr} {H H' : Hp} {a : Addr} {o : HO} (x : Keep F H H') (n : a ∉ F) (e : H a = some o) : H' a = some o := x a o n e
theorem Dis.symm {F G : List Addr} (d : Dis F G) : Dis G F := fun a h z => d a z h
theorem Dis.step {F F' G : List Addr} {H : Hp} (d : Dis F G) (n : New F F' H) (t : Trk G H) : Dis F' G := fun a h z => by
  rcases n a h with q | q
  · exact d a q z
  · obtain ⟨o, e⟩ := t a z
    rw [q] at e
    cases e
theorem New.refl (F : List Addr) (H : Hp) : New F F H := fun _ h => .inl h
theorem New.trans {F F1 F2 : List Addr} {H H1 : Hp} (x : New F F1 H) (y : New F1 F2 H1) (h : ∀ a, H1 a = none → H a = none) : New F F2 H := fun a ha => by
  rcases y a ha with q | q
  · exact x a q
  · exact .inr (h a q)
theorem Fre.step {H0 H : Hp} {F F' : List Addr} (s : Same H0 H) (f : Fre H0 F) (n : New F F' H) : Fre H0 F' := fun a h => by
  rcases n a h with q | q
  · exact f a q
  · exact s.free q
theorem Trk.keep {F G : List Addr} {H H' : Hp} (t : Trk G H) (d : Dis F G) (x : Keep F H H') : Trk G H' := fun a h => by
  obtain ⟨o, e⟩ := t a h
  exact ⟨o, x a o (d.symm a h) e⟩
theorem Trk.same {G : List Addr} {H H' : Hp} (t : Trk G H) (x : Same H H') : Trk G H' := fun a h => by
  obtain ⟨o, e⟩ := t a h
  exact ⟨o, x a o e⟩
/-- what is new in H is apart from what is tracked -/
theorem Dis.fresh {F G : List Addr} {H : Hp} (f : Fre H F) (t : Trk G H) : Dis F G := fun a h z => by
  obtain ⟨o, e⟩ := t a z
  rw [f a h] at e
  cases e
theorem ndp {L : List Addr} (nd : L.Nodup) (i j : Nat) {a b : Addr} (hi : L[i]? = some a := by rfl) (hj : L[j]? = some b := by rfl) (h : i ≠ j := by decide) : a ≠ b := by
  rintro rfl
  obtain ⟨h1, e1⟩ := List.getElem?_eq_some_iff.mp hi
  obtain ⟨h2, e2⟩ := List.getElem?_eq_some_iff.mp hj
  exact h ((List.getElem_inj nd).mp (e1.trans e2.symm))
theorem notin1 {a b : Addr} (h : a ≠ b) : a ∉ [b] := by simp [h]
theorem notin2 {a b c : Addr} (h : a ≠ b) (h' : a ≠ c) : a ∉ [b, c] := by simp [h, h']
theorem notin3 {a b c d : Addr} (h : a ≠ b) (h' : a ≠ c) (h'' : a ≠ d) : a ∉ [b, c, d] := by simp [h, h', h'']
theorem dis1 {F : List Addr} {a : Addr} (h : a ∉ F) : Dis F [a] := fun b hb z => h (by rw [← List.mem_singleton.mp z]; exact hb)
theorem dis3 {F : List Addr} {a b c : Addr} (h : a ∉ F) (h' : b ∉ F) (h'' : c ∉ F) : Dis F [a, b, c] := fun x hx z => by
  simp only [List.mem_cons, List.not_mem_nil, or_false] at z
  rcases z with z | z | z <;> subst z
  · exact h hx
  · exact h' hx
  · exact h'' hx
theorem eqvAll_ints : ∀ ns ms : List Int, PyData.eqvAll (ns.map PyData.int) (ms.map PyData.int) = decide (ns = ms)
  | [], [] => rfl
  | [], m :: ms => by simp [PyData.eqvAll]
  | n :: ns, [] => by simp [PyData.eqvAll]
  | n :: ns, m :: ms => by
    have ih := eqvAll_ints ns ms
    simp only [List.map_cons, PyData.eqvAll, PyData.eqv, ih, List.cons.injEq]
    by_cases h : n = m <;> by_cases h2 : ns = ms <;> simp [h, h2]
theorem eqD_ints {K : PySem.W.Frag} {H : Hp} {a b : Addr} {ns ms : List Int} {Q : VK} (ha : SqL K H a (ns.map V.int)) (hb : SqL K H b (ms.map V.int)) (q : Q (.bl (decide (ns = ms))) H) : rEqD K (.ref a) (.ref b) H Q := by
  refine ⟨_, _, .lst ha (dp_ints ns), .lst hb (dp_ints ms), PySem.W.shaped_ints _, PySem.W.shaped_ints _, ?_⟩
  have e : PyData.eqv (.list (ns.map PyData.int)) (.list (ms.map PyData.int)) = decide (ns = ms) := by
    simp only [PyData.eqv]
    exact eqvAll_ints ns ms
  rw [e]
  exact q
theorem neD_ints {K : PySem.W.Frag} {H : Hp} {a b : Addr} {ns ms : List Int} {Q : VK} (ha : SqL K H a (ns.map V.int)) (hb : SqL K H b (ms.map V.int)) (q : Q (.bl (!decide (ns = ms))) H) : rNeD K (.ref a) (.ref b) H Q := by
  refine ⟨_, _, .lst ha (dp_ints ns), .lst hb (dp_ints ms), PySem.W.shaped_ints _, PySem.W.shaped_ints _, ?_⟩
  have e : PyData.eqv (.list (ns.map PyData.int)) (.list (ms.map PyData.int)) = decide (ns = ms) := by
    simp only [PyData.eqv]
    exact eqvAll_ints ns ms
  rw [e]
  exact q
/-! ### bits -/
theorem bits_eq (n : Nat) : Builtin.Int.intBits (n : Int) = if n = 0 then 0 else n.log2 + 1 := by
  unfold Builtin.Int.intBits
  by_cases h : n = 0
  · subst h
    rfl
  · have e : ((n : Int) == 0) = false := beq_eq_false_iff_ne.mpr (by omega)
    rw [e, if_neg h]
    rfl
theorem bits_lt (n : Nat) : n < 2 ^ Builtin.Int.intBits (n : Int) := by
  rw [bits_eq]
  split
  · rename_i h
    subst h
    decide
  · exact Nat.lt_log2_self
theorem bits_le {a b : Nat} (h : a < 2 ^ b) : Builtin.Int.intBits (a : Int) ≤ b := by
  rw [bits_eq]
  split
  · exact Nat.zero_le _
  · rename_i h0
    have := (Nat.log2_lt h0 (k := b)).mpr h
    omega
theorem pow_cast (j : Nat) : ((2 ^ j : Nat) : Int) = 2 ^ j := by simp
theorem div_pow_cast (n j : Nat) : (n : Int) / 2 ^ j = ((n / 2 ^ j : Nat) : Int) := by simp
theorem divw_pow (i : Int) {j : Nat} (h : j ≤ 1000) : CDivW i ((2 ^ j : Nat) : Int) := by
  have p : 0 < 2 ^ j := Nat.pow_pos (by decide)
  refine ⟨by omega, ?_⟩
  show (2 ^ j).log2 < 9000
  rw [Nat.log2_two_pow]
  omega
theorem cshl_nat {a j : Nat} (b : Nat) (h : a < 2 ^ b) (hb : b ≤ 1000) (hj : j ≤ 1000) : CShl (a : Int) (j : Int) := by
  refine ⟨by omega, ?_⟩
  have := bits_le h
  omega
theorem vals_rev : ∀ {vs : List V} {us : List Value}, Vals vs us → Vals vs.reverse us.reverse
  | _, _, .nil => .nil
  | _, _, .cons r t => by
    rw [List.reverse_cons, List.reverse_cons]
    exact (vals_rev t).append (.cons r .nil)
/-! ### the end of a law -/
theorem walk_ofG {l : PySem.W.OpenLaw} {n k : Nat} {q : Program} {loose : List Str} {XP : (Str → Option Value) → Heap → Prop} {YP : World → Heap → Prop} {d : DefRec} {x : Str}
    (hn : l.most = some n) (hn2 : n ≤ sizeLine) (hdf : d.params.defaults = []) (hr : Room k callerA)
    (F : ∀ (w : World) (mg : Str → Option Value) (fa : Addr) (h : Heap), YP w h → h.Ns mainGlobals mg → mg d.name = some (.ref fa) →
      ∃ (K : PySem.W.Frag) (fd : FuncData) (sp : Sp), K.In h ∧ (∀ (s : Shared) (u : Value), BindsTo s fd ⟨[u], []⟩ [(x, u)]) ∧
        (∀ (H : Hp) (a : Addr) (ns : List Int), ns.length ≤ n → (∀ z ∈ ns, Builtin.Int.intBits z ≤ 1048576) → Only H → SqL K H a (ns.map V.int) → sp [.ref a] H (fun v _ => v = .bl true) fun _ _ _ => False) ∧
        ∀ base : Heap, K.In base → base.Ns mainGlobals mg → FnOk l.prog w K mg base (L2.CX l.prog w) k fa fd [x] sp) :
    PySem.W.WalkO q loose XP YP l.row.toRowW d [] (fun f vs => PySem.call f vs) := by
  refine Att.attach_callB hn hdf fun w s₀ s₁ mg mb fa o pm cd doc a vs ns G Y ho hd hcd hmg hobj hints hlen hbits hg => ?_
  obtain ⟨K, fd, sp, KX, hb, hsp, hF⟩ := F w mg fa _ Y G.T.g hmg
  refine law_call KX G.T.g G.T.b G.T.builtins G.T.nolimit hg hobj hints (Nat.le_trans hlen hn2) hr hF hb (fun H hO hS => hsp H a ns hlen hbits hO hS) fun H e s' h => ?_
  obtain ⟨_, _, _, _, _, _, _, _, _, _, _, _, z⟩ := h
  exact z
end G
namespace G
open PySem PySem.Spec PyProof.Rows L2
/-! ### calls whose errors are wished for at the slots -/
def tCallT (sp : Sp) (dvs : List V) (W : WX) (t : TA) : TE := fun σ H Q => t σ H fun vs H1 => sp (vs ++ dvs) H1 Q fun cls d H' => W cls d σ H'
def tMethT (C : Addr) (m : Str) (sp : Sp) (dvs : List V) (W : WX) (ta : TE) (t : TA) : TE := fun σ H Q => ta σ H fun x H1 => ∃ a dx fs, x = .ref a ∧ H1 a = some (.ins C dx fs) ∧ fs.lookup m = none ∧
  t σ H1 fun vs H2 => sp (x :: (vs ++ dvs)) H2 Q fun cls d H' => W cls d σ H'
section
variable {X : Cx} {j k n : Nat} {C : Addr} {ps ks : List Str} {sp : Sp} {dvs : List V} {W : WX} {x m : Str} {p pos apos : Pos} {e o : Expr} {es : List Expr} {kws : List Keyword} {ta : TE} {t tk : TA} {gV : List V → List V → List V}
theorem run_fnT {f : Addr} {fd : FuncData} {ds : List Value} {E : XK} {pins : List (Addr × Obj)} {σ : L2.St} {H : Hp} {s : Shared} {Q : VK} {us : List Value} {vs : List V} (F : FnOk X.prog X.w X.K X.mg X.base (L2.CX X.prog X.w) k f fd ps sp) (hr : Room k X.A) (hb : Binds X.K fd ps ds) (hd : Vals dvs ds) (tk : Takes X W)
    (I : Inv X pins σ H s) (r : Vals vs us) (h : sp (vs ++ dvs) H Q fun cls d H' => W cls d σ H') : wpAny (model X.prog X.w) X.A (call (.ref f) us) (EP X pins σ Q) X.xe s := by
  have r2 : Vals (vs ++ dvs) (us ++ ds) := r.append hd
  have hl : (us ++ ds).length = ps.length := by rw [← r2.length]; exact F.len _ _ _ _ h
  refine wpAny_call (codeAny_mono (F.run X.A X.stack s H ⟨us, []⟩ (us ++ ds) (vs ++ dvs) Q _ hr I.env0 (hb s us I.kIn hl) r2 h) fun r s' hq => ?_)
  cases r with
  | error e => exact passAt tk σ pins H s e s' I hq
  | ok fl =>
    cases fl with
    | ret u => exact I.after hq
    | next => exact False.elim hq
    | brk => exact False.elim hq
    | cont => exact False.elim hq
theorem pe_callTD (D : Df X.prog X.w X.K X.mg X.base k x ps dvs sp) (hr : Room j X.A) (hg : Gl X x) (tk : Takes X W) (ha : PA X (e :: es) t) (hk : k ≤ j := by decide)
    (hdb : (x == ("__debug__" : Str)) = false := by decide) (he : starEach (e :: es) X.env = (false, eval e X.env) :: starEach es X.env := by rfl) (hpl : (backTo pos (starEach es X.env)).any (·.1) = false := by rfl) :
    PE X (.Call (.Name x p) (e :: es) [] pos) (tCallT sp dvs W t) := by
  obtain ⟨f, fd, ds, h1, h2, h3, h4, h5⟩ := D
  refine ⟨fun pins s σ H Q I h => ?_⟩
  refine wpAny_Call_Name_kw (ld_glob I hg h1 ?_ hdb)
  refine PySem.W.callWith_K (h₀ := X.base) I.ok.mod.kin h2 (thn (ha.run pos pins s σ H _ I h) fun us s1 ⟨vs, H1, I1, r, q⟩ => ⟨I1.kIn, ?_⟩) he hpl
  exact run_fnT h5 (hr.mono hk) h4 h3 tk I1 r q (E := fun _ _ _ => False)
theorem pe_call0TD (D : Df X.prog X.w X.K X.mg X.base k x ps dvs sp) (hr : Room j X.A) (hg : Gl X x) (tk : Takes X W) (hk : k ≤ j := by decide)
    (hdb : (x == ("__debug__" : Str)) = false := by decide) : PE X (.Call (.Name x p) [] [] pos) (tCallT sp dvs W tNil) := by
  obtain ⟨f, fd, ds, h1, h2, h3, h4, h5⟩ := D
  refine ⟨fun pins s σ H Q I h => ?_⟩
  refine wpAny_Call_Name_kw (ld_glob I hg h1 ?_ hdb)
  exact PySem.W.callWith_K0 I.kIn h2 (run_fnT (us := []) (vs := []) h5 (hr.mono hk) h4 h3 tk I .nil h (E := fun _ _ _ => False))
theorem pe_methTD {pl : Sem Bool} (he : PE X o ta) (D : Dm X.prog X.w X.K X.mg X.base k C m ps dvs sp) (hr : Room j X.A) (tk : Takes X W) (ha : PA X (e :: es) t) (hk : k ≤ j := by decide)
    (hst : starEach (e :: es) X.env = (false, eval e X.env) :: starEach es X.env := by rfl) (hpl : (backTo pos (starEach es X.env)).any (·.1) = false := by rfl)
    (ht : eval (.Call (.Attribute o m apos) (e :: es) [] pos) X.env = (do
      let ov ← eval o X.env
      standAt apos.atName
      let (f, first) ← holding [ov] (getMethod ov m pl)
      callWith pos f first (backTo pos (starEach (e :: es) X.env)) (backToKw pos (keywordEach [] X.env))) := by rfl) :
    PE X (.Call (.Attribute o m apos) (e :: es) [] pos) (tMethT C m sp dvs W ta t) := by
  obtain ⟨f, fd, ds, h1, h2, h3, h4, h5⟩ := D
  refine ⟨fun pins s σ H Q I h => ?_⟩
  refine PySem.W.methodCall_KW (pl := pl) (thn (he.run pins s σ H _ I h) fun u s1 ⟨x, H1, I1, rx, a, dx, fs, ex, ea, l, q⟩ => ?_) ht
  subst ex
  obtain rfl : u = Value.ref a := rx
  refine getmeth_ok I1 ea h1 h2 l ?_
  refine PySem.W.callWith_K (first := [.ref a]) (h₀ := X.base) I.ok.mod.kin h2.kp (thn (ha.run pos pins s1 σ H1 _ I1 q) fun us s2 ⟨vs, H2, I2, r, q2⟩ => ⟨I2.kIn, ?_⟩) hst hpl
  exact run_fnT (us := .ref a :: us) (vs := .ref a :: vs) h5 (hr.mono hk) h4 h3 tk I2 (.cons rfl r) q2 (E := fun _ _ _ => False)
theorem pe_meth0TD {pl : Sem Bool} (he : PE X o ta) (D : Dm X.prog X.w X.K X.mg X.base k C m ps dvs sp) (hr : Room j X.A) (tk : Takes X W) (hk : k ≤ j := by decide)
    (ht : eval (.Call (.Attribute o m apos) [] [] pos) X.env = (do
      let ov ← eval o X.env
      standAt apos.atName
      let (f, first) ← holding [ov] (getMethod ov m pl)
      callWith pos f first (backTo pos (starEach [] X.env)) (backToKw pos (keywordEach [] X.env))) := by rfl) :
    PE X (.Call (.Attribute o m apos) [] [] pos) (tMethT C m sp dvs W ta tNil) := by
  obtain ⟨f, fd, ds, h1, h2, h3, h4, h5⟩ := D
  refine ⟨fun pins s σ H Q I h => ?_⟩
  refine PySem.W.methodCall_KW (pl := pl) (thn (he.run pins s σ H _ I h) fun u s1 ⟨x, H1, I1, rx, a, dx, fs, ex, ea, l, q⟩ => ?_) ht
  subst ex
  obtain rfl : u = Value.ref a := rx
  refine getmeth_ok I1 ea h1 h2 l ?_
  exact PySem.W.callWith_K0 (first := [.ref a]) I1.kIn h2.kp (run_fnT (us := [.ref a]) (vs := [.ref a]) h5 (hr.mono hk) h4 h3 tk I1 (.cons rfl .nil) q (E := fun _ _ _ => False))
end
/-! ### own exceptions -/
/-- what the written part says of an own exception class of the built-in base whose mro is bm, without an __init__ -/
structure ExF (K : PySem.W.Frag) (C : Addr) (bm : List Value) (newId : String) : Prop where
  ex : PySem.W.excIn K C bm newId = true
  kp : PySem.W.keepIn K (.ref C) = true
  sb : PySem.W.subIn K (.ref C) (.type "BaseException") = some true
  ty : PySem.W.typeIn K (.ref C) = some (.type "type")
def fExF (x : Str) (bm : List Value) (newId : String) : Fx := fun K => PySem.W.excIn K (He.ga K x) bm newId && (PySem.W.keepIn K (.ref (He.ga K x)) && (decide (PySem.W.subIn K (.ref (He.ga K x)) (.type "BaseException") = some true) && decide (PySem.W.typeIn K (.ref (He.ga K x)) = some (.type "type"))))
theorem exF_ok {K : PySem.W.Frag} {x : Str} {bm : List Value} {newId : String} (c : fExF x bm newId K = true) : ExF K (He.ga K x) bm newId := by
  obtain ⟨c1, c⟩ := He.ba c
  obtain ⟨c2, c⟩ := He.ba c
  obtain ⟨c3, c4⟩ := He.ba c
  exact ⟨c1, c2, of_decide_eq_true c3, of_decide_eq_true c4⟩
def fExm' (x y : Str) (b : Bool) : Fx := fun K => decide (PySem.W.exmOne K (.ref (He.ga K x)) (.ref (He.ga K y)) = some b)
theorem exm_ok' {K : PySem.W.Frag} {x y : Str} {b : Bool} (c : fExm' x y b K = true) : PySem.W.exmOne K (.ref (He.ga K x)) (.ref (He.ga K y)) = some b := of_decide_eq_true c
def fKit (x y : Str) (b : Bool) : Fx := fun K => decide (PySem.W.kitOne K (.ref (He.ga K x)) (.ref (He.ga K y)) = some b)
theorem kit_ok' {K : PySem.W.Frag} {x y : Str} {b : Bool} (c : fKit x y b K = true) : PySem.W.kitOne K (.ref (He.ga K x)) (.ref (He.ga K y)) = some b := of_decide_eq_true c
def fKitT (x : Str) (y : String) (b : Bool) : Fx := fun K => decide (PySem.W.kitOne K (.ref (He.ga K x)) (.type y) = some b)
theorem kitT_ok' {K : PySem.W.Frag} {x : Str} {y : String} {b : Bool} (c : fKitT x y b K = true) : PySem.W.kitOne K (.ref (He.ga K x)) (.type y) = some b := of_decide_eq_true c
def fExcC (x : Str) : Fx := fun K => He.eqO (PySem.W.findIn K (.ref (He.ga K x)) "__getattribute__") (some (some (.builtin "BaseException.__getattribute__"))) && (He.eqO (PySem.W.findIn K (.ref (He.ga K x)) "__getattr__") (some none) &&
  (decide (PySem.W.subIn K (.ref (He.ga K x)) (.type "BaseException") = some true) && (PySem.W.hasDictIn K (He.ga K x) && (He.eqO (PySem.W.findIn K (.ref (He.ga K x)) "__class__") (some (some (.builtin "object.__class__"))) &&
  (He.eqO (PySem.W.specialIn K (.builtin "object.__class__") "__get__") (some (some (.builtin "getset_descriptor.__get__"))) && (decide (PySem.W.takesIn K (.builtin "object.__class__") = some true) && decide (PySem.W.mroIn K (He.ga K x) (.type "object") = some true)))))))
theorem excC_ok {K : PySem.W.Frag} {x : Str} (c : fExcC x K = true) : ExcC K (He.ga K x) := by
  obtain ⟨c1, c⟩ := He.ba c
  obtain ⟨c2, c⟩ := He.ba c
  obtain ⟨c3, c⟩ := He.ba c
  obtain ⟨c4, c⟩ := He.ba c
  obtain ⟨c5, c⟩ := He.ba c
  obtain ⟨c6, c⟩ := He.ba c
  obtain ⟨c7, c8⟩ := He.ba c
  exact ⟨He.eqO_ok c1, He.eqO_ok c2, of_decide_eq_true c3, c4, He.eqO_ok c5, He.eqO_ok c6, of_decide_eq_true c7, of_decide_eq_true c8⟩
/-! ### isinstance of the caught error -/
def rIsE2 (K : PySem.W.Frag) (a : Addr) (cls : Value) (d : Option Addr) : List V → Hp → VK → Prop := fun xs H Q => ∃ D, cls = .ref D ∧ d = none ∧ ExcC K D ∧ rIsE K D a xs H Q
theorem call_isE2 {X : Cx} {a : Addr} {oe : Obj} {cls : Value} {d : Option Addr} {pn : List (Addr × Obj)} (hz : Zc cls d oe) (hf : ∃ vs, oe.data = .fields vs) : CallR (X.suite a ((a, oe) :: pn)) (.builtin "isinstance") (rIsE2 X.K a cls d) := by
  intro pins s σ H xs us Q I r h
  obtain ⟨D, rfl, rfl, C, h⟩ := h
  exact call_isE C hz hf pins s σ H xs us Q I r h
/-- isinstance(e, (C1, C2, ..)) -/
def rIsET (K : PySem.W.Frag) (a : Addr) (cls : Value) (d : Option Addr) : List V → Hp → VK → Prop := fun xs H Q => ∃ (D tp : Addr) (cs : List V) (us : List Value) (b : Bool), cls = .ref D ∧ d = none ∧ ExcC K D ∧ xs = [.ref a, .ref tp] ∧ H tp = some (.tup cs) ∧ Paired ClsV cs us ∧ PySem.W.kitAny K (.ref D) us = some b ∧ Q (.bl b) H
theorem call_isET {X : Cx} {a : Addr} {oe : Obj} {cls : Value} {d : Option Addr} {pn : List (Addr × Obj)} (hz : Zc cls d oe) (hf : ∃ vs, oe.data = .fields vs) : CallR (X.suite a ((a, oe) :: pn)) (.builtin "isinstance") (rIsET X.K a cls d) := by
  intro pins s σ H xs us Q I r h
  obtain ⟨D, tp, cs, ws, b, rfl, rfl, C, rfl, hT, k, e, q⟩ := h
  obtain ⟨u1, u2, rfl, r1, r2⟩ := vals2 r
  cases (show u1 = Value.ref a from r1)
  cases (show u2 = Value.ref tp from r2)
  obtain ⟨hget, _⟩ := I.pin (a, oe) (List.mem_append.mpr (.inl List.mem_cons_self))
  obtain ⟨vs, hv⟩ := hf
  have J : PySem.W.InstAt s.heap a oe D none := by
    obtain ⟨oc, od, oda, osl⟩ := oe
    obtain ⟨h1, h2⟩ := hz
    dsimp only at h1 h2 hv
    subst h1 h2 hv
    exact ⟨hget, rfl, rfl, trivial⟩
  obtain ⟨_, its, rv, o, h1, h2, n, h3⟩ := (show ObjOk X.prog X.w H s.heap tp (.tup cs) from I.hok tp _ hT)
  have e3 := ClsV.all k rv
  subst e3
  obtain ⟨oc, od, dt, sl⟩ := o
  simp only at h2 h3
  subst h2 h3
  exact PySem.W.kia_tup (PySem.W.handS_kitx_exc C.hg C.hk C.hs C.hd C.ha C.hn C.ht C.hm) I.kIn J h1 e (fun z => nomatch z) fun tk => ⟨.bl b, H, I.kept (t' := tk) fun _ _ z => z, rfl, q⟩
theorem kitAny_false {K : PySem.W.Frag} {t : Value} : ∀ {us : List Value}, (∀ u ∈ us, PySem.W.kitOne K t u = some false) → PySem.W.kitAny K t us = some false
  | [], _ => rfl
  | u :: r, h => by
    unfold PySem.W.kitAny
    rw [h u List.mem_cons_self]
    exact kitAny_false fun v hv => h v (List.mem_cons_of_mem _ hv)
end G
set_option maxHeartbeats 1000000
namespace M
/-- the bits of n below 2 ^ b, the greatest first -/
def bl (n : Nat) : Nat → List Nat
  | 0 => []
  | b + 1 => (if n / 2 ^ b % 2 = 1 then [2 ^ b] else []) ++ bl n b
theorem bl_range (n : Nat) : ∀ b, (List.range b).filterMap (fun i => if n / 2 ^ (b - 1 - i) % 2 = 1 then some (2 ^ (b - 1 - i)) else none) = bl n b
  | 0 => rfl
  | b + 1 => by
    rw [List.range_succ_eq_map, List.filterMap_cons, List.filterMap_map]
    have e : ((fun i => if n / 2 ^ (b + 1 - 1 - i) % 2 = 1 then some (2 ^ (b + 1 - 1 - i)) else none) ∘ Nat.succ) = (fun i => if n / 2 ^ (b - 1 - i) % 2 = 1 then some (2 ^ (b - 1 - i)) else none) := by
      funext i
      have q : b + 1 - 1 - i.succ = b - 1 - i := by omega
      simp only [Function.comp, q]
    rw [e, bl_range n b]
    have q : b + 1 - 1 - 0 = b := by omega
    have eb : bl n (b + 1) = (if n / 2 ^ b % 2 = 1 then [2 ^ b] else []) ++ bl n b := rfl
    rw [q, eb]
    by_cases h : n / 2 ^ b % 2 = 1
    · rw [if_pos h, if_pos h]
      rfl
    · rw [if_neg h, if_neg h]
      rfl
theorem mod_pow (n b : Nat) : n % 2 ^ (b + 1) = (n / 2 ^ b % 2) * 2 ^ b + n % 2 ^ b := by
  have h := Nat.mod_mul (a := 2 ^ b) (b := 2) (x := n)
  rw [Nat.pow_succ, h, Nat.mul_comm, Nat.add_comm]
theorem bl_sum (n : Nat) : ∀ b, (bl n b).sum = n % 2 ^ b
  | 0 => by simp [bl, Nat.mod_one]
  | b + 1 => by
    rw [mod_pow]
    unfold bl
    rw [List.sum_append, bl_sum n b]
    have h2 : n / 2 ^ b % 2 = 0 ∨ n / 2 ^ b % 2 = 1 := by omega
    rcases h2 with h | h <;> simp [h]
theorem bl_pow (n : Nat) : ∀ b, ∀ x ∈ bl n b, ∃ j, j < b ∧ x = 2 ^ j
  | 0, x, h => by cases h
  | b + 1, x, h => by
    unfold bl at h
    rcases List.mem_append.mp h with h | h
    · split at h
      · rw [List.mem_singleton.mp h]
        exact ⟨b, by omega, rfl⟩
      · cases h
    · obtain ⟨j, h1, h2⟩ := bl_pow n b x h
      exact ⟨j, by omega, h2⟩
theorem bl_desc (n : Nat) : ∀ b, (bl n b).Pairwise (fun x y => y < x)
  | 0 => List.Pairwise.nil
  | b + 1 => by
    unfold bl
    refine List.pairwise_append.mpr ⟨?_, bl_desc n b, fun x hx y hy => ?_⟩
    · split <;> simp
    · split at hx
      · rw [List.mem_singleton.mp hx]
        obtain ⟨j, h1, h2⟩ := bl_pow n b y hy
        rw [h2]
        exact Nat.pow_lt_pow_right (by decide) h1
      · cases hx
theorem bl_len (n : Nat) : ∀ b, (bl n b).length ≤ b
  | 0 => Nat.le_refl _
  | b + 1 => by
    unfold bl
    rw [List.length_append]
    have := bl_len n b
    split <;> simp <;> omega
/-- the greatest power of two that divides n (1 for 0) -/
def low (n : Nat) : Nat := if h : n ≠ 0 ∧ n % 2 = 0 then 2 * low (n / 2) else 1
termination_by n
decreasing_by omega
theorem low_odd {n : Nat} (h : n % 2 = 1) : low n = 1 := by
  unfold low
  rw [dif_neg (by omega)]
theorem low_even {n : Nat} (h : n ≠ 0) (h2 : n % 2 = 0) : low n = 2 * low (n / 2) := by
  rw [low, dif_pos ⟨h, h2⟩]
theorem low_pow : ∀ j, low (2 ^ j) = 2 ^ j
  | 0 => low_odd rfl
  | j + 1 => by
    have h : 2 ^ (j + 1) = 2 * 2 ^ j := by rw [Nat.pow_succ, Nat.mul_comm]
    have p : 0 < 2 ^ j := Nat.pow_pos (by decide)
    rw [low_even (by omega) (by omega), h]
    have e : 2 * 2 ^ j / 2 = 2 ^ j := by omega
    rw [e, low_pow j]
/-- total, by halves -/
def tot (n : Nat) : Nat := if h : n = 0 then 0 else (n - n / 2) + 2 * tot (n / 2)
termination_by n
decreasing_by omega
theorem tot_pos (n : Nat) : tot n = (n - n / 2) + 2 * tot (n / 2) := by
  by_cases h : n = 0
  · subst h
    simp [tot]
  · rw [tot, dif_neg h]
theorem tot_zero : tot 0 = 0 := by rw [tot, dif_pos rfl]
theorem tot_succ : ∀ n, tot (n + 1) = tot n + low (n + 1) := by
  intro n
  induction n using Nat.strongRecOn with
  | _ n ih =>
    rw [tot_pos (n + 1), tot_pos n]
    rcases Nat.mod_two_eq_zero_or_one n with h | h
    · have e : (n + 1) / 2 = n / 2 := by omega
      rw [e, low_odd (by omega)]
      omega
    · have e : (n + 1) / 2 = n / 2 + 1 := by omega
      have l := low_even (n := n + 1) (by omega) (by omega)
      rw [l, e, ih (n / 2) (by omega)]
      omega
theorem tot_low : ∀ m, ((List.range m).map (fun i => low (1 + i))).sum = tot m
  | 0 => by rw [tot_zero]; rfl
  | m + 1 => by
    rw [List.range_succ, List.map_append, List.sum_append, tot_low m, tot_succ]
    simp [Nat.add_comm]
theorem tot_places : ∀ b n, n < 2 ^ b → ((List.range b).map (fun i => (n / 2 ^ i - n / 2 ^ (i + 1)) * 2 ^ i)).sum = tot n
  | 0, n, h => by
    have : n = 0 := by simpa using h
    rw [this, tot_zero]
    rfl
  | b + 1, n, h => by
    have h2 : n / 2 < 2 ^ b := by rw [Nat.pow_succ] at h; omega
    rw [List.range_succ_eq_map, List.map_cons, List.map_map, List.sum_cons, tot_pos n, ← tot_places b (n / 2) h2]
    have e : ((fun i => (n / 2 ^ i - n / 2 ^ (i + 1)) * 2 ^ i) ∘ Nat.succ) = fun i => 2 * ((n / 2 / 2 ^ i - n / 2 / 2 ^ (i + 1)) * 2 ^ i) := by
      funext i
      have e1 : n / 2 ^ (i + 1) = n / 2 / 2 ^ i := by rw [Nat.pow_succ, Nat.mul_comm, Nat.div_div_eq_div_mul]
      have e2 : n / 2 ^ (i + 1 + 1) = n / 2 / 2 ^ (i + 1) := by rw [Nat.pow_succ 2 (i + 1), Nat.mul_comm, Nat.div_div_eq_div_mul]
      simp only [Function.comp, Nat.succ_eq_add_one]
      rw [e1, e2, Nat.pow_succ, Nat.mul_comm (2 ^ i) 2, ← Nat.mul_assoc, Nat.mul_comm _ 2, Nat.mul_assoc]
    rw [e]
    have e3 : ∀ l : List Nat, ∀ g : Nat → Nat, (l.map fun i => 2 * g i).sum = 2 * (l.map g).sum := by
      intro l g
      induction l with
      | nil => rfl
      | cons x r ih => simp only [List.map_cons, List.sum_cons, ih]; omega
    rw [e3]
    simp
end M
set_option maxHeartbeats 1000000
namespace Pc
/-- the exponent of the piece at f that lies before e, from c on -/
def pe (f e : Nat) : Nat → Nat → Nat
  | 0, c => c
  | k + 1, c => if f % 2 ^ (c + 1) = 0 ∧ f + 2 ^ (c + 1) ≤ e then pe f e k (c + 1) else c
/-- exponent c is the piece's at f before e -/
structure Is (f e c : Nat) : Prop where
  al : f % 2 ^ c = 0
  le : f + 2 ^ c ≤ e
  mx : ¬ (f % 2 ^ (c + 1) = 0 ∧ f + 2 ^ (c + 1) ≤ e)
theorem pow_lt {a b : Nat} (h : 2 ^ a < 2 ^ b) : a < b := by
  rcases Nat.lt_or_ge a b with z | z
  · exact z
  · have := Nat.pow_le_pow_right (n := 2) (by decide) z
    omega
theorem pe_is {f e B : Nat} (he : e < 2 ^ B) : ∀ k c, B ≤ k + c → f % 2 ^ c = 0 → f + 2 ^ c ≤ e → Is f e (pe f e k c)
  | 0, c, hb, h1, h2 => by
    have : 2 ^ B ≤ 2 ^ c := Nat.pow_le_pow_right (by decide) (by omega)
    omega
  | k + 1, c, hb, h1, h2 => by
    unfold pe
    split
    · rename_i h
      exact pe_is he k (c + 1) (by omega) h.1 h.2
    · rename_i h
      exact ⟨h1, h2, h⟩
theorem is_mono {f a b : Nat} (h : f % 2 ^ b = 0) (hab : a ≤ b) : f % 2 ^ a = 0 :=
  Nat.mod_eq_zero_of_dvd (Nat.dvd_trans (Nat.pow_dvd_pow 2 hab) (Nat.dvd_of_mod_eq_zero h))
theorem is_unique {f e a b : Nat} (x : Is f e a) (y : Is f e b) : a = b := by
  have one : ∀ {a b : Nat}, Is f e a → Is f e b → ¬ a < b := fun {a b} x y h => x.mx ⟨is_mono y.al h, by
    have := Nat.pow_le_pow_right (n := 2) (by decide) (show a + 1 ≤ b from h)
    have := y.le
    omega⟩
  have h1 := one x y
  have h2 := one y x
  omega
inductive R : Nat → Nat → List (Nat × Nat) → Prop
  | nil (e : Nat) : R e e []
  | cons {f e c : Nat} {l : List (Nat × Nat)} (h : Is f e c) (r : R (f + 2 ^ c) e l) : R f e ((f, 2 ^ c) :: l)
theorem R.le {f e : Nat} {l : List (Nat × Nat)} (r : R f e l) : f ≤ e := by
  cases r with
  | nil => exact Nat.le_refl _
  | @cons _ _ c _ h r =>
    have := h.le
    have : 0 < 2 ^ c := Nat.pow_pos (show 0 < 2 by decide)
    omega
theorem R.unique {f e : Nat} {l m : List (Nat × Nat)} (r : R f e l) (q : R f e m) : l = m := by
  induction r generalizing m with
  | nil e =>
    cases q with
    | nil => rfl
    | @cons _ _ c _ h _ =>
      have := h.le
      have : 0 < 2 ^ c := Nat.pow_pos (show 0 < 2 by decide)
      omega
  | cons h r ih =>
    rename_i f e c l
    cases q with
    | nil =>
      have := h.le
      have : 0 < 2 ^ c := Nat.pow_pos (show 0 < 2 by decide)
      omega
    | cons h' r' =>
      have e := is_unique h h'
      subst e
      rw [ih r']
theorem R.ex {e B : Nat} (he : e < 2 ^ B) (f : Nat) (h : f ≤ e) : ∃ l, R f e l := by
  have : ∀ n f, e - f = n → f ≤ e → ∃ l, R f e l := by
    intro n
    induction n using Nat.strongRecOn with
    | _ n ih =>
      intro f hn hf
      by_cases z : f = e
      · subst z
        exact ⟨[], .nil _⟩
      · have i := pe_is (f := f) (e := e) he B 0 (by omega) (Nat.mod_one _) (by omega)
        have p : 0 < 2 ^ pe f e B 0 := Nat.pow_pos (by decide)
        have l := i.le
        obtain ⟨m, q⟩ := ih (e - (f + 2 ^ pe f e B 0)) (by omega) _ rfl l
        exact ⟨_, .cons i q⟩
  exact this _ f rfl h
theorem add_al {f a c : Nat} (h : f % 2 ^ c = 0) (hac : a ≤ c) : (f + 2 ^ c) % 2 ^ a = 0 := by
  have h1 := is_mono h hac
  rw [Nat.add_mod, h1, Nat.mod_eq_zero_of_dvd (Nat.pow_dvd_pow 2 hac)]
  simp
/-- the number of pieces -/
theorem R.len {f e : Nat} {l : List (Nat × Nat)} (r : R f e l) (he : e < 2 ^ 100) : ∀ a, a ≤ 100 → f % 2 ^ a = 0 → (e < f + 2 ^ a → l.length ≤ a) ∧ l.length ≤ 201 - a := by
  induction r with
  | nil e =>
    intro a _ _
    exact ⟨fun _ => Nat.zero_le _, Nat.zero_le _⟩
  | cons h r ih =>
    rename_i f e c l
    intro a ha hf
    have hc : c < 100 := pow_lt (by have := h.le; omega)
    have low : e < f + 2 ^ (c + 1) → l.length ≤ c := fun q => by
      refine (ih he c (by omega) (add_al h.al (Nat.le_refl _))).1 ?_
      have : 2 ^ (c + 1) = 2 ^ c * 2 := Nat.pow_succ ..
      omega
    refine ⟨fun q => ?_, ?_⟩
    · have hca : c < a := pow_lt (by have := h.le; omega)
      have : e < f + 2 ^ (c + 1) := by
        rcases Nat.lt_or_ge e (f + 2 ^ (c + 1)) with z | z
        · exact z
        · exact absurd ⟨is_mono hf hca, z⟩ h.mx
      have := low this
      simp only [List.length_cons]
      omega
    · by_cases z : e < f + 2 ^ (c + 1)
      · have := low z
        simp only [List.length_cons]
        omega
      · by_cases q : f % 2 ^ (c + 1) = 0
        · exact absurd ⟨q, by omega⟩ h.mx
        · have hca : a ≤ c := by
            rcases Nat.lt_or_ge c a with w | w
            · exact absurd (is_mono hf w) q
            · exact w
          have al : (f + 2 ^ c) % 2 ^ (c + 1) = 0 := by
            have h1 := h.al
            have h2 := Nat.mod_mul (a := 2 ^ c) (b := 2) (x := f)
            rw [← Nat.pow_succ, h1, Nat.zero_add] at h2
            have h3 : f / 2 ^ c % 2 = 1 := by
              rcases Nat.mod_two_eq_zero_or_one (f / 2 ^ c) with w | w
              · rw [w, Nat.mul_zero] at h2
                exact absurd h2 q
              · exact w
            rw [h3, Nat.mul_one] at h2
            have e2 : 2 ^ (c + 1) = 2 ^ c + 2 ^ c := by rw [Nat.pow_succ]; omega
            have p : 0 < 2 ^ c := Nat.pow_pos (by decide)
            rw [Nat.add_mod, h2, Nat.mod_eq_of_lt (show 2 ^ c < 2 ^ (c + 1) by omega), ← e2, Nat.mod_self]
          have := (ih he (c + 1) (by omega) al).2
          simp only [List.length_cons]
          omega
theorem R.len0 {f e : Nat} {l : List (Nat × Nat)} (r : R f e l) (he : e < 2 ^ 100) : l.length ≤ 201 := (r.len he 0 (by omega) (Nat.mod_one _)).2
/-- by fuel -/
def pF (e : Nat) : Nat → Nat → List (Nat × Nat)
  | 0, _ => []
  | n + 1, f => if f < e then (f, 2 ^ pe f e 100 0) :: pF e n (f + 2 ^ pe f e 100 0) else []
theorem R.fuel {f e : Nat} {l : List (Nat × Nat)} (r : R f e l) (he : e < 2 ^ 100) : ∀ n, l.length ≤ n → pF e n f = l := by
  induction r with
  | nil e =>
    intro n _
    cases n with
    | zero => rfl
    | succ n => exact if_neg (Nat.lt_irrefl _)
  | cons h r ih =>
    rename_i f e c l
    intro n hn
    cases n with
    | zero => simp at hn
    | succ n =>
      have p : 0 < 2 ^ c := Nat.pow_pos (by decide)
      have hl := h.le
      have i := pe_is (f := f) (e := e) he 100 0 (by omega) (Nat.mod_one _) (by omega)
      have ec := is_unique i h
      unfold pF
      rw [if_pos (by omega), ec, ih he n (by simpa using hn)]
def pcs (f e : Nat) : List (Nat × Nat) := pF e 256 f
theorem pcs_R {f e : Nat} (h : f ≤ e) (he : e < 2 ^ 100) : R f e (pcs f e) := by
  obtain ⟨l, r⟩ := R.ex he f h
  unfold pcs
  rw [r.fuel he 256 (by have := r.len0 he; omega)]
  exact r
theorem R.drop {f e : Nat} {l : List (Nat × Nat)} (r : R f e l) : ∀ i, i ≤ l.length → ∃ x, R x e (l.drop i) ∧ (i = 0 → x = f) ∧ (0 < i → ∃ f' c', l[i - 1]? = some (f', 2 ^ c') ∧ Is f' e c' ∧ x = f' + 2 ^ c') := by
  induction r with
  | nil e =>
    intro i hi
    have : i = 0 := by simpa using hi
    subst this
    exact ⟨e, .nil e, fun _ => rfl, fun z => absurd z (Nat.lt_irrefl _)⟩
  | cons h r ih =>
    rename_i f e c l
    intro i hi
    cases i with
    | zero => exact ⟨f, .cons h r, fun _ => rfl, fun z => absurd z (Nat.lt_irrefl _)⟩
    | succ i =>
      obtain ⟨x, h1, h2, h3⟩ := ih i (by simpa using hi)
      refine ⟨x, h1, fun z => by omega, fun _ => ?_⟩
      cases i with
      | zero => exact ⟨f, c, rfl, h, h2 rfl⟩
      | succ i =>
        obtain ⟨f', c', a, b, d⟩ := h3 (by omega)
        exact ⟨f', c', by simpa using a, b, d⟩
/-! the fewest pieces, counted for all ends -/
def minL : List Nat → Nat
  | [] => 0
  | [a] => a
  | a :: l => min a (minL l)
def cand (low n : Nat) (L : List Nat) : List Nat := [1, 2, 4, 8, 16, 32, 64].filterMap fun s => if s ≤ n + 1 ∧ (low + n + 1 - s) % s = 0 then some (L.getD (n + 1 - s) 0 + 1) else none
def dp (low : Nat) : Nat → List Nat
  | 0 => [0]
  | n + 1 => dp low n ++ [minL (cand low n (dp low n))]
theorem dp_len (low : Nat) : ∀ n, (dp low n).length = n + 1
  | 0 => rfl
  | n + 1 => by
    unfold dp
    rw [List.length_append, dp_len low n]
    rfl
theorem dp_pre (low : Nat) : ∀ n m, n ≤ m → (dp low m).take (n + 1) = dp low n
  | n, 0, h => by
    have : n = 0 := by omega
    subst this
    rfl
  | n, m + 1, h => by
    by_cases e : n = m + 1
    · subst e
      rw [List.take_of_length_le (by rw [dp_len]; exact Nat.le_refl _)]
    · have ed : dp low (m + 1) = dp low m ++ [minL (cand low m (dp low m))] := rfl
      rw [ed, List.take_append_of_le_length (by rw [dp_len]; omega), dp_pre low n m (by omega)]
def tst (low : Nat) : Bool := (dp low 63) == ((List.range 64).map fun n => (pcs low (low + n)).length)
def chk (a : Nat) : Bool := (List.range 5).all fun b => tst (5 * a + b)
theorem chk0 : chk 0 = true := by decide +kernel
theorem chk1 : chk 1 = true := by decide +kernel
theorem chk2 : chk 2 = true := by decide +kernel
theorem chk3 : chk 3 = true := by decide +kernel
theorem chk4 : chk 4 = true := by decide +kernel
theorem chk5 : chk 5 = true := by decide +kernel
theorem chk6 : chk 6 = true := by decide +kernel
theorem chk7 : chk 7 = true := by decide +kernel
theorem chk8 : chk 8 = true := by decide +kernel
theorem chk9 : chk 9 = true := by decide +kernel
theorem chk10 : chk 10 = true := by decide +kernel
theorem chk11 : chk 11 = true := by decide +kernel
theorem chk12 : chk 12 = true := by decide +kernel
theorem chk13 : chk 13 = true := by decide +kernel
theorem chk14 : chk 14 = true := by decide +kernel
theorem chk15 : chk 15 = true := by decide +kernel
theorem chk16 : chk 16 = true := by decide +kernel
theorem chk17 : chk 17 = true := by decide +kernel
theorem chk18 : chk 18 = true := by decide +kernel
theorem chk19 : chk 19 = true := by decide +kernel
theorem chk_ok {low : Nat} (h : low < 100) : tst low = true := by
  have c : ∀ a, a < 20 → chk a = true := by
    intro a ha
    rcases (show a = 0 ∨ a = 1 ∨ a = 2 ∨ a = 3 ∨ a = 4 ∨ a = 5 ∨ a = 6 ∨ a = 7 ∨ a = 8 ∨ a = 9 ∨ a = 10 ∨ a = 11 ∨ a = 12 ∨ a = 13 ∨ a = 14 ∨ a = 15 ∨ a = 16 ∨ a = 17 ∨ a = 18 ∨ a = 19 by omega) with rfl | rfl | rfl | rfl | rfl | rfl | rfl | rfl | rfl | rfl | rfl | rfl | rfl | rfl | rfl | rfl | rfl | rfl | rfl | rfl
    · exact chk0
    · exact chk1
    · exact chk2
    · exact chk3
    · exact chk4
    · exact chk5
    · exact chk6
    · exact chk7
    · exact chk8
    · exact chk9
    · exact chk10
    · exact chk11
    · exact chk12
    · exact chk13
    · exact chk14
    · exact chk15
    · exact chk16
    · exact chk17
    · exact chk18
    · exact chk19
  have h1 := List.all_eq_true.mp (c (low / 5) (by omega)) (low % 5) (List.mem_range.mpr (by omega))
  have e : 5 * (low / 5) + low % 5 = low := by omega
  rw [e] at h1
  exact h1
theorem few {low n : Nat} (h : low < 100) (hn : n < 64) : (dp low n).getD n 0 = (pcs low (low + n)).length := by
  have h2 : dp low 63 = (List.range 64).map fun n => (pcs low (low + n)).length := eq_of_beq (chk_ok h)
  have h3 := dp_pre low n 63 (by omega)
  have h4 : (dp low n)[n]? = (dp low 63)[n]? := by
    rw [← h3, List.getElem?_take_of_lt (by omega)]
  rw [List.getD_eq_getElem?_getD, h4, h2]
  simp [hn]
theorem minL_spec : ∀ l : List Nat, l ≠ [] → minL l ∈ l ∧ ∀ x ∈ l, minL l ≤ x
  | [], h => absurd rfl h
  | [a], _ => ⟨by simp [minL], by simp [minL]⟩
  | a :: b :: l, _ => by
    obtain ⟨h1, h2⟩ := minL_spec (b :: l) (by simp)
    have e : minL (a :: b :: l) = min a (minL (b :: l)) := rfl
    rw [e]
    refine ⟨?_, fun x hx => ?_⟩
    · rcases Nat.le_total a (minL (b :: l)) with z | z
      · rw [Nat.min_eq_left z]
        exact List.mem_cons_self
      · rw [Nat.min_eq_right z]
        exact List.mem_cons_of_mem _ h1
    · rcases List.mem_cons.mp hx with z | z
      · rw [z]
        exact Nat.min_le_left _ _
      · exact Nat.le_trans (Nat.min_le_right _ _) (h2 x z)
end Pc
namespace K04
open PySem PySem.Spec PyProof.Rows L2 G
def top (i : Nat) : Stmt := PySem.Challenge.pw_oncebuilt_k04_bad_numbers.main.body.getD i (.Pass ⟨0, 0, 0, 0⟩)
local macro_rules | `(tactic| walk_at "rd") => `(tactic| try simp only [tCallT, tMethT, WE, rIsE2, rIsE, rIsET, wAs, tSeq, tAsg, tC, gName, tIfS, tTest, tB, tOp, tUn, rI0, rI, rU, tVar, tCB, tCons, tNil, tNext, tRet, tRetN, tDrop, tLst, tTup, rIxL, rIxT, tCall, tCallN, tPar, tAug, ipI, tAnd, tOr, tNot, tAndV, tOrV, tNotV, tIf, tBits, gSub, rSetL, cxOf, L2.start, rReverse, rIsB, rListD, tFld, sFld, sFldAug, rAdd, rSub, tMeth, tMake, tMethK, tDGet, tDIn, tDNotIn, sDPut, sDDel, tDisp, tPairs, rPop, gTup, gCons, gNil, if_true, if_false, Bool.not_true, Bool.not_false, Bool.false_eq_true, tFor_eq, tLc_eq, tYes, wipe, rEq, rNe, tBreak, tCont, tChain, iRng1, iRng2, iRng3, iList, tBM, tBM0, rAppend, TruV, List.map_cons, List.map_nil, List.length_cons, List.length_nil, Nat.reduceAdd, Nat.reduceSub, List.replicate_succ, List.replicate_zero, List.replicate, List.cons_append, List.nil_append, List.append_nil, List.getElem?_cons_zero, List.getElem?_cons_succ, Option.some.injEq, exists_eq_left', exists_eq_left, List.set_cons_zero, List.set_cons_succ, V.int.injEq, V.bl.injEq, V.ref.injEq, V.str.injEq, List.cons.injEq, and_true, true_and, and_assoc, exists_and_left, decide_eq_true_eq, exists_const])
structure Txt (K : PySem.W.Frag) (mg : Str → Option Value) : Prop where
  b_IndexError : mg "IndexError" = none
  b_LookupError : mg "LookupError" = none
  b_RuntimeError : mg "RuntimeError" = none
  b_ValueError : mg "ValueError" = none
  b_abs : mg "abs" = none
  b_bool : mg "bool" = none
  b_int : mg "int" = none
  b_isinstance : mg "isinstance" = none
  b_len : mg "len" = none
  b_min : mg "min" = none
  b_range : mg "range" = none
  b_sum : mg "sum" = none
  h_GREATEST : ∃ t, mg "GREATEST" = some (.int 1000000000000000000000000000000 t)
  g_BadNumber : mg "BadNumber" = some (.ref (He.ga K "BadNumber"))
  x_BadNumber : ExF K (He.ga K "BadNumber") [.type "ValueError", .type "Exception", .type "BaseException", .type "object"] "ValueError.__new__"
  xc_BadNumber : ExcC K (He.ga K "BadNumber")
  g_BadHistory : mg "BadHistory" = some (.ref (He.ga K "BadHistory"))
  kt_BadNumber_BadHistory : PySem.W.kitOne K (.ref (He.ga K "BadNumber")) (.ref (He.ga K "BadHistory")) = some false
  g_Busy : mg "Busy" = some (.ref (He.ga K "Busy"))
  kt_BadNumber_Busy : PySem.W.kitOne K (.ref (He.ga K "BadNumber")) (.ref (He.ga K "Busy")) = some false
  g_Empty : mg "Empty" = some (.ref (He.ga K "Empty"))
  kt_BadNumber_Empty : PySem.W.kitOne K (.ref (He.ga K "BadNumber")) (.ref (He.ga K "Empty")) = some false
  g_NoMember : mg "NoMember" = some (.ref (He.ga K "NoMember"))
  kt_BadNumber_NoMember : PySem.W.kitOne K (.ref (He.ga K "BadNumber")) (.ref (He.ga K "NoMember")) = some false
  g_NotTorn : mg "NotTorn" = some (.ref (He.ga K "NotTorn"))
  kt_BadNumber_NotTorn : PySem.W.kitOne K (.ref (He.ga K "BadNumber")) (.ref (He.ga K "NotTorn")) = some false
  g_Torn : mg "Torn" = some (.ref (He.ga K "Torn"))
  kt_BadNumber_Torn : PySem.W.kitOne K (.ref (He.ga K "BadNumber")) (.ref (He.ga K "Torn")) = some false
  g_OnceError : mg "OnceError" = some (.ref (He.ga K "OnceError"))
  kt_BadNumber_OnceError : PySem.W.kitOne K (.ref (He.ga K "BadNumber")) (.ref (He.ga K "OnceError")) = some true
  em_BadNumber_BadNumber : PySem.W.exmOne K (.ref (He.ga K "BadNumber")) (.ref (He.ga K "BadNumber")) = some true
variable {P : Program} {w : World} {K : PySem.W.Frag} {mg : Str → Option Value} {base : Heap} {f : Addr} {fd : FuncData}
abbrev s_bag : Stmt := top 18
theorem sc_bag : FnScope ["_law_script", "_law_at", "_law_cell", "_law_great", "_law_primes"] ["_law_script", "_law_at"] (defScope s_bag) := ⟨rfl, rfl, rfl, by decide +kernel, rfl, by decide +kernel, by decide +kernel⟩
def sp_bag (K : PySem.W.Frag) : Sp := fun vs H Q _ => ∃ (a : Addr) (ns : List Int) (i : Int), vs = [.ref a, .int i] ∧ SqL K H a (ns.map V.int) ∧ ns.length ≤ 63 ∧ 0 ≤ i ∧ i ≤ 1000 ∧
  ∀ (p : Addr) (H' : Hp) (g s : Int), Same H H' → H p = none → H' p = some (.lst [.int g, .int s, .int 0]) → Q (.ref p) H'
theorem ok_bag (T : Txt K mg)  (F : FunD K "_law_bag" "_law_bag" (defArgs s_bag) (defBody s_bag) (defScope s_bag) [] [] f fd) : FnOk P w K mg base (L2.CX P w) 1 f fd ["_law_script", "_law_at"] (sp_bag K) := by
  refine F.ok sc_bag (fun vs H Q E h => ?_) (fun cdv A outer s H vs Q E hr h => ?_)
  · obtain ⟨a, ns, i, rfl, _⟩ := h
    rfl
  · have hu := hu_of hr
    obtain ⟨a, ns, i, rfl, hS, hl, h0, h1, k⟩ := h
    refine ⟨_, (pss_cons (ps_set (i := 2) sc_bag.nd rfl (Or.inl rfl) pe_int)
      (pss_cons (ps_if (pt_cmpR op_lt (pv 1) (pe_callB call_len (by rfl) T.b_len (by decide +kernel) (pa_cons (pv 0) pa_nil)) (nomark _)) (pss_one (ps_set (i := 2) sc_bag.nd rfl (Or.inl rfl) (pe_ix ix_list (pv 0) (pv 1) (fun _ _ => rfl)))) pss_nil)
      (pss_cons (ps_set (i := 3) sc_bag.nd rfl (Or.inl rfl) pe_int)
      (pss_cons (ps_if (pt_cmpR op_ge (pe_callB call_abs (by rfl) T.b_abs (by decide +kernel) (pa_cons (pv 2) pa_nil)) (pe_op op_pow pe_int pe_int) (nomark _)) (pss_one (ps_set (i := 3) sc_bag.nd rfl (Or.inl rfl) (pe_callB call_abs (by rfl) T.b_abs (by decide +kernel) (pa_cons (pv 2) pa_nil)))) pss_nil)
      (pss_cons (ps_set (i := 4) sc_bag.nd rfl (Or.inl rfl) (pe_lst (pa_cons pe_int (pa_cons pe_int (pa_cons pe_int (pa_cons pe_int (pa_cons pe_int (pa_cons pe_int (pa_cons pe_int (pa_cons pe_int pa_nil))))))))))
      (pss_one (ps_ret (pe_lst (pa_cons (pv 3) (pa_cons (pe_op op_mod (pe_op op_pow (pe_op op_add (pe_op op_add (pe_op op_mod (pv 2) pe_int) (pe_op op_mul pe_int (pv 1))) pe_int) pe_int) (pe_ix ix_list (pv 4) (pe_op op_mod (pv 1) pe_int) (fun _ _ => rfl))) (pa_cons pe_int pa_nil))))))))))), ?_⟩
    refine seq_cut2 (fun σ H' => H' = H ∧ ∃ c : Int, σ = [some (.ref a), some (.int i), some (.int c), none, none]) (fun N hN => ?_) ?_
    · walk_at "rd"
      refine ⟨_, len_of hS, ite2 (fun hi => ?_) (fun _ => hN _ _ ⟨rfl, _, rfl⟩)⟩
      rw [List.length_map] at hi
      have hi2 : i.toNat < ns.length := by omega
      refine ⟨_, hS, _, atI_of h0 (v := .int ns[i.toNat]) (by simp [hi2]), hN _ _ ⟨rfl, _, rfl⟩⟩
    · rintro _ H1 ⟨rfl, c, rfl⟩
      refine seq_cut2 (fun σ H' => H' = H1 ∧ ∃ g : Int, σ = [some (.ref a), some (.int i), some (.int c), some (.int g), none]) (fun N hN => ?_) ?_
      · walk_at "rd"
        exact ⟨⟨by decide, by decide, by decide⟩, ite2 (fun _ => hN _ _ ⟨rfl, _, rfl⟩) (fun _ => hN _ _ ⟨rfl, _, rfl⟩)⟩
      · rintro _ H2 ⟨rfl, g, rfl⟩
        walk_at "rd"
        have hm := Int.emod_nonneg c (show (2147483647 : Int) ≠ 0 by decide)
        have hm2 := Int.emod_lt_of_pos c (show (0 : Int) < 2147483647 by decide)
        refine ⟨by decide, fun p hp => ⟨by decide, .inl ⟨by decide, by decide⟩, ⟨by decide, by decide, by omega⟩, by decide, _, SqL.of upd_same, ?_⟩⟩
        have h8 : i % 8 = 0 ∨ i % 8 = 1 ∨ i % 8 = 2 ∨ i % 8 = 3 ∨ i % 8 = 4 ∨ i % 8 = 5 ∨ i % 8 = 6 ∨ i % 8 = 7 := by omega
        rcases h8 with e | e | e | e | e | e | e | e <;> rw [e] <;> refine ⟨_, rfl, _, rfl, by decide, by decide, fun q hq => k q _ _ _ ?_ ?_ upd_same⟩
        all_goals first
          | exact (G.Same.upd hp).trans (G.Same.upd hq)
          | exact (G.Same.upd hp).free hq
abbrev s_take : Stmt := top 19
theorem sc_take : FnScope ["_law_bag_here", "_law_many", "_law_digit"] ["_law_bag_here", "_law_many"] (defScope s_take) := ⟨rfl, rfl, rfl, by decide +kernel, rfl, by decide +kernel, by decide +kernel⟩
def sp_take : Sp := fun vs H Q _ => ∃ (b : Addr) (g s c n : Int), vs = [.ref b, .int n] ∧ H b = some (.lst [.int g, .int s, .int c]) ∧ 0 < n ∧ n < 2 ^ 200 ∧
  ∀ r g' s' c' : Int, 0 ≤ r → r < n → Q (.int r) (upd H b (.lst [.int g', .int s', .int c']))
theorem ok_take (T : Txt K mg)  (F : FunD K "_law_take" "_law_take" (defArgs s_take) (defBody s_take) (defScope s_take) [] [] f fd) : FnOk P w K mg base (L2.CX P w) 1 f fd ["_law_bag_here", "_law_many"] sp_take := by
  refine F.ok sc_take (fun vs H Q E h => ?_) (fun cdv A outer s H vs Q E hr h => ?_)
  · obtain ⟨b, g, s, c, n, rfl, _⟩ := h
    rfl
  · have hu := hu_of hr
    obtain ⟨b, g, s', c, n, rfl, hb, n0, n1, k⟩ := h
    refine ⟨_, (pss_cons (ps_if (pt_cmpR op_gt (pe_ix ix_list (pv 0) pe_int (fun _ _ => rfl)) pe_int (nomark _)) (pss_cons (ps_set (i := 2) sc_take.nd rfl (Or.inl rfl) (pe_op op_mod (pe_ix ix_list (pv 0) pe_int (fun _ _ => rfl)) (pv 1)))
        (pss_cons (ps_asg (pe_op op_fdivW (pe_ix ix_list (pv 0) pe_int (fun _ _ => rfl)) (pv 1)) (pg_sub (pv 0) pe_int set_list))
        (pss_one (ps_ret (pv 2))))) pss_nil)
      (pss_cons (ps_asg (pe_op op_add (pe_ix ix_list (pv 0) pe_int (fun _ _ => rfl)) pe_int) (pg_sub (pv 0) pe_int set_list))
      (pss_cons (ps_asg (pe_op op_mod (pe_op op_add (pe_op op_add (pe_op op_mul (pe_ix ix_list (pv 0) pe_int (fun _ _ => rfl)) pe_int) (pe_op op_mul pe_int (pe_ix ix_list (pv 0) pe_int (fun _ _ => rfl)))) pe_int) pe_int) (pg_sub (pv 0) pe_int set_list))
      (pss_one (ps_ret (pe_op op_mod (pe_op op_mod (pe_op op_pow (pe_op op_fdiv (pe_ix ix_list (pv 0) pe_int (fun _ _ => rfl)) pe_int) pe_int) pe_int) (pv 1))))))), ?_⟩
    walk_at "rd"
    refine ⟨_, SqL.of hb, _, rfl, _, rfl, ?_⟩
    refine ite2 (fun hg => ?_) (fun hg => ?_)
    · refine ⟨_, SqL.of hb, _, rfl, _, rfl, n0, _, SqL.of hb, _, rfl, _, rfl, wide_div n0 (b := 200) (by omega) (by decide) (by decide), _, hb, _, rfl, ?_⟩
      exact k _ _ _ _ (Int.emod_nonneg _ (by omega)) (Int.emod_lt_of_pos _ n0)
    · refine ⟨_, SqL.of hb, _, rfl, _, rfl, _, hb, _, rfl, _, SqL.of upd_same, _, rfl, _, rfl, .inr ⟨by decide, by decide⟩, _, SqL.of upd_same, _, rfl, _, rfl, .inl ⟨by decide, by decide⟩, by decide, _, upd_same, _, rfl, _, SqL.of upd_same, _, rfl, _, rfl, ⟨by decide, by decide⟩, ?_⟩
      refine ⟨⟨by decide, by decide, ?_⟩, by decide, n0, ?_⟩
      · have hm := Int.emod_nonneg (s' * 69621 + 6007 * (c + 1) + 19) (show (2147483647 : Int) ≠ 0 by decide)
        have hm2 := Int.emod_lt_of_pos (s' * 69621 + 6007 * (c + 1) + 19) (show (0 : Int) < 2147483647 by decide)
        omega
      · rw [upd_upd]
        exact k _ _ _ _ (Int.emod_nonneg _ (by omega)) (Int.emod_lt_of_pos _ n0)
theorem bits_big {n : Nat} (h : (n : Int) ≤ 1000000000000000000000000000000) : Builtin.Int.intBits (n : Int) ≤ 100 := by
  rw [bits_eq]
  split
  · decide
  · rename_i h0
    have := (Nat.log2_lt h0 (k := 100)).mpr (by omega)
    omega
/-- tuples of two ints -/
inductive Tl (H : Hp) : List Addr → List (Nat × Nat) → Prop
  | nil : Tl H [] []
  | cons {t : Addr} {ts : List Addr} {q : Nat × Nat} {l : List (Nat × Nat)} (h : H t = some (.tup [.int (q.1 : Nat), .int (q.2 : Nat)])) (r : Tl H ts l) : Tl H (t :: ts) (q :: l)
theorem Tl.same {H H' : Hp} (s : Same H H') {ts : List Addr} {l : List (Nat × Nat)} (x : Tl H ts l) : Tl H' ts l := by
  induction x with
  | nil => exact .nil
  | cons h _ ih => exact .cons (s _ _ h) ih
theorem Tl.keep {F : List Addr} {H H' : Hp} (k : Keep F H H') {ts : List Addr} {l : List (Nat × Nat)} (x : Tl H ts l) (d : ∀ t ∈ ts, t ∉ F) : Tl H' ts l := by
  induction x with
  | nil => exact .nil
  | cons h _ ih => exact .cons (k _ _ (d _ List.mem_cons_self) h) (ih fun t ht => d t (List.mem_cons_of_mem _ ht))
theorem Tl.snoc {H : Hp} {ts : List Addr} {l : List (Nat × Nat)} (x : Tl H ts l) {t : Addr} {q : Nat × Nat} (h : H t = some (.tup [.int (q.1 : Nat), .int (q.2 : Nat)])) : Tl H (ts ++ [t]) (l ++ [q]) := by
  induction x with
  | nil => exact .cons h .nil
  | cons h' _ ih => exact .cons h' ih
theorem Tl.len {H : Hp} {ts : List Addr} {l : List (Nat × Nat)} (x : Tl H ts l) : ts.length = l.length := by
  induction x with
  | nil => rfl
  | cons _ _ ih => simp [ih]
theorem Tl.get {H : Hp} {ts : List Addr} {l : List (Nat × Nat)} (x : Tl H ts l) : ∀ (i : Nat) (q : Nat × Nat), l[i]? = some q → ∃ t, ts[i]? = some t ∧ H t = some (.tup [.int (q.1 : Nat), .int (q.2 : Nat)]) := by
  induction x with
  | nil =>
    intro i q h
    simp at h
  | cons h _ ih =>
    intro i q hq
    cases i with
    | zero =>
      simp at hq
      subst hq
      exact ⟨_, rfl, h⟩
    | succ i => simpa using ih i q (by simpa using hq)
theorem Tl.mem {H : Hp} {ts : List Addr} {l : List (Nat × Nat)} (x : Tl H ts l) : ∀ t ∈ ts, ∃ o, H t = some (.tup o) := by
  induction x with
  | nil =>
    intro t h
    cases h
  | cons h _ ih =>
    intro t ht
    rcases List.mem_cons.mp ht with e | e
    · subst e
      exact ⟨_, h⟩
    · exact ih t e
def tdat (q : Nat × Nat) : PyData := .tuple [.int (q.1 : Nat), .int (q.2 : Nat)]
theorem Tl.dp {K : PySem.W.Frag} {H : Hp} {ts : List Addr} {l : List (Nat × Nat)} (x : Tl H ts l) : DpAll K H (ts.map V.ref) (l.map tdat) := by
  induction x with
  | nil => exact .nil
  | cons h _ ih => exact .cons (.tup (SqT.of h) (.cons (.int _) (.cons (.int _) .nil))) ih
theorem shaped_tdat (l : List (Nat × Nat)) : SeqAt.shaped (.list (l.map tdat)) = true := by
  have h1 : PyData.canLayAll0 (l.map tdat) = true := by
    induction l with
    | nil => rfl
    | cons q r ih => simp [PyData.canLayAll0, tdat, PyData.canLay0, ih]
  have h2 : PyData.depthAll (l.map tdat) ≤ 3 := by
    induction l with
    | nil => simp [PyData.depthAll]
    | cons q r ih =>
      have := ih (by
        simp only [List.map_cons, PyData.canLayAll0, Bool.and_eq_true] at h1
        exact h1.2)
      simp only [List.map_cons, PyData.depthAll, tdat, PyData.depth] at this ⊢
      omega
  unfold SeqAt.shaped
  rw [Bool.and_eq_true]
  exact ⟨by simpa [PyData.canLay0] using h1, decide_eq_true (by simp only [PyData.depth]; omega)⟩
/-- what may be passed -/
inductive Thg (H : Hp) : V → Prop
  | int (n : Int) : Thg H (.int n)
  | bl (b : Bool) : Thg H (.bl b)
  | non : Thg H .non
  | str (x : Str) : Thg H (.str x)
  | lst {p : Addr} {xs : List V} (h : H p = some (.lst xs)) : Thg H (.ref p)
  | tup {p : Addr} {xs : List V} (h : H p = some (.tup xs)) : Thg H (.ref p)
theorem Thg.keep {F : List Addr} {H H' : Hp} {v : V} (t : Thg H v) (k : Keep F H H') (d : ∀ p, v = .ref p → p ∉ F) : Thg H' v := by
  cases t with
  | int n => exact .int n
  | bl b => exact .bl b
  | non => exact .non
  | str x => exact .str x
  | lst h => exact .lst (k _ _ (d _ rfl) h)
  | tup h => exact .tup (k _ _ (d _ rfl) h)
theorem Thg.same {H H' : Hp} {v : V} (t : Thg H v) (k : Same H H') : Thg H' v := t.keep (F := []) (.of k) (fun _ _ h => by cases h)
def isI : V → Bool
  | .int _ => true
  | _ => false
def good (v : V) (l : Int) : Bool := match v with
  | .int n => decide (l ≤ n) && decide (n ≤ 1000000000000000000000000000000)
  | _ => false
def isB : V → Bool
  | .bl _ => true
  | _ => false
theorem Thg.isint {K : PySem.W.Frag} {H : Hp} {v : V} {Q : VK} (t : Thg H v) (h : Q (.bl (isI v || isB v)) H) : rIsi K [v, .ty "int"] H Q := by
  cases t with
  | int n => exact isi (b := true) (.base (.int n)) (by decide +kernel) h
  | bl b => exact isi (b := true) (.base (.bl b)) (by decide +kernel) h
  | non => exact isi (b := false) (.base .non) (by decide +kernel) h
  | str x => exact isi (b := false) (.base (.str x)) (by decide +kernel) h
  | lst h' => exact isi (b := false) (.base (.lst h')) (by decide +kernel) h
  | tup h' => exact isi (b := false) (.base (.tup h')) (by decide +kernel) h
theorem Thg.isbool {K : PySem.W.Frag} {H : Hp} {v : V} {Q : VK} (t : Thg H v) (h : Q (.bl (isB v)) H) : rIsi K [v, .ty "bool"] H Q := by
  cases t with
  | int n => exact isi (b := false) (.base (.int n)) (by decide +kernel) h
  | bl b => exact isi (b := true) (.base (.bl b)) (by decide +kernel) h
  | non => exact isi (b := false) (.base .non) (by decide +kernel) h
  | str x => exact isi (b := false) (.base (.str x)) (by decide +kernel) h
  | lst h' => exact isi (b := false) (.base (.lst h')) (by decide +kernel) h
  | tup h' => exact isi (b := false) (.base (.tup h')) (by decide +kernel) h
abbrev s_is_integer : Stmt := top 11
theorem sc_is_integer : FnScope ["thing"] ["thing"] (defScope s_is_integer) := ⟨rfl, rfl, rfl, by decide +kernel, rfl, by decide +kernel, by decide +kernel⟩
def sp_is_integer : Sp := fun vs H Q _ => ∃ v : V, vs = [v] ∧ Thg H v ∧ Q (.bl (isI v)) H
theorem ok_is_integer (T : Txt K mg)  (F : FunD K "is_integer" "is_integer" (defArgs s_is_integer) (defBody s_is_integer) (defScope s_is_integer) [] [] f fd) : FnOk P w K mg base (L2.CX P w) 1 f fd ["thing"] sp_is_integer := by
  refine F.ok sc_is_integer (fun vs H Q E h => ?_) (fun cdv A outer s H vs Q E hr h => ?_)
  · obtain ⟨n, rfl, _⟩ := h
    rfl
  · have hu := hu_of hr
    obtain ⟨v, rfl, ht, k⟩ := h
    refine ⟨_, (pss_one (ps_ret (pe_and (pe_callB call_isi (by rfl) T.b_isinstance (by decide +kernel) (pa_cons (pv 0) (pa_cons (pe_bltn (v := .ty "int") (by rfl) T.b_int (by decide +kernel) rfl) pa_nil))) (pe_one (pe_not (pe_callB call_isi (by rfl) T.b_isinstance (by decide +kernel) (pa_cons (pv 0) (pa_cons (pe_bltn (v := .ty "bool") (by rfl) T.b_bool (by decide +kernel) rfl) pa_nil)))))))), ?_⟩
    walk_at "rd"
    refine ht.isint ⟨_, rfl, ?_⟩
    cases v with
    | int n => exact iteT (ht.isbool ⟨_, rfl, k⟩)
    | bl b => exact iteT (ht.isbool ⟨_, rfl, k⟩)
    | _ => exact iteF k
abbrev s_check_number : Stmt := top 12
theorem sc_check_number : FnScope ["thing", "least"] ["thing", "least"] (defScope s_check_number) := ⟨rfl, rfl, rfl, by decide +kernel, rfl, by decide +kernel, by decide +kernel⟩
def sp_check_number (K : PySem.W.Frag) : Sp := fun vs H Q E => ∃ (v : V) (l : Int), vs = [v, .int l] ∧ Thg H v ∧ (good v l = true → Q .non H) ∧ (good v l = false → E (.ref (He.ga K "BadNumber")) none H)
theorem ok_check_number (T : Txt K mg) (D_is_integer : Df P w K mg base 1 "is_integer" ["thing"] [] sp_is_integer) (F : FunD K "check_number" "check_number" (defArgs s_check_number) (defBody s_check_number) (defScope s_check_number) [.int 0] [] f fd) : FnOk P w K mg base (L2.CX P w) 2 f fd ["thing", "least"] (sp_check_number K) := by
  refine F.ok sc_check_number (fun vs H Q E h => ?_) (fun cdv A outer s H vs Q E hr h => ?_)
  · obtain ⟨n, l, rfl, _⟩ := h
    rfl
  · have hu := hu_of hr
    obtain ⟨v, l, rfl, ht, k, kE⟩ := h
    obtain ⟨tg, hg⟩ := T.h_GREATEST
    refine ⟨_, (pss_one (ps_if (PW.pt (pw_or (pt_not (pt_val (pe_callTD D_is_integer hr (by rfl) takeE (pa_cons (pv 0) pa_nil)))) (pw_or1 (pt_not (pt_chain op_le op_le (pv 1) (pv 0) (pe_glob (by rfl) hg (v := .int 1000000000000000000000000000000) ⟨_, rfl⟩)))))) (pss_one (ps_raise rfl takeE (pmk_own PySem.F.excBase_ValueError T.x_BadNumber.ex T.g_BadNumber T.x_BadNumber.kp (raises_own T.x_BadNumber.sb T.x_BadNumber.ty) (by exact rfl)))) pss_nil)), ?_⟩
    walk_at "rd"
    refine ⟨v, rfl, ht, _, rfl, ?_⟩
    cases v with
    | int n =>
      refine iteF ⟨n, rfl, ?_⟩
      by_cases h1 : l ≤ n
      · by_cases h2 : n ≤ 1000000000000000000000000000000
        · simp only [h1, if_true, ↓reduceIte]
          exact ⟨n, rfl, by rw [decide_eq_true h2]; exact iteF (k (by simp [good, h1, h2]))⟩
        · simp only [h1, if_true, ↓reduceIte]
          exact ⟨n, rfl, by rw [decide_eq_false h2]; exact iteT (kE (by simp [good, h1, h2]))⟩
      · simp only [h1, if_true, ↓reduceIte, decide_true, decide_false, V.bl.injEq, exists_eq_left', Bool.not_false, Bool.false_eq_true, if_false]
        exact kE (by simp [good, h1])
    | _ => exact iteT (kE rfl)
abbrev s_block_sizes : Stmt := top 13
theorem sc_block_sizes : FnScope ["many", "place"] ["many"] (defScope s_block_sizes) := ⟨rfl, rfl, rfl, by decide +kernel, rfl, by decide +kernel, by decide +kernel⟩
def sp_block_sizes (K : PySem.W.Frag) : Sp := fun vs H Q E => ∃ v : V, vs = [v] ∧ Thg H v ∧ (∀ n : Nat, v = .int n → (n : Int) ≤ 1000000000000000000000000000000 → ∀ p, H p = none → Q (.ref p) (upd H p (.lst ((M.bl n (Builtin.Int.intBits (n : Int))).map fun x => V.int (x : Nat))))) ∧ (good v 0 = false → E (.ref (He.ga K "BadNumber")) none H)
theorem ok_block_sizes (T : Txt K mg) (D_check_number_1 : Df P w K mg base 2 "check_number" ["thing", "least"] [.int 0] (sp_check_number K)) (F : FunD K "block_sizes" "block_sizes" (defArgs s_block_sizes) (defBody s_block_sizes) (defScope s_block_sizes) [] [] f fd) : FnOk P w K mg base (L2.CX P w) 3 f fd ["many"] (sp_block_sizes K) := by
  refine F.ok sc_block_sizes (fun vs H Q E h => ?_) (fun cdv A outer s H vs Q E hr h => ?_)
  · obtain ⟨n, rfl, _⟩ := h
    rfl
  · have hu := hu_of hr
    obtain ⟨v, rfl, ht, k, kE⟩ := h
    refine ⟨_, (pss_cons (ps_expr (pe_callTD D_check_number_1 hr (by rfl) takeE (pa_cons (pv 0) pa_nil)))
      (pss_one (ps_ret (pe_lc (own := [("place", 1)]) rfl sc_block_sizes.nd (pi_range3 (by rfl) T.b_range (pa_cons (pe_op op_sub (pe_bits (pv 0)) pe_int) (pa_cons (pe_un un_neg pe_int) (pa_cons (pe_un un_neg pe_int) pa_nil)))) (blkOk_by (own := [("place", 1)]) (N := ["many", "place"]) (sc := defScope s_block_sizes) (by decide +kernel)) (fun _ _ _ _ _ => (pg_name (i := 1) sc_block_sizes.nd rfl (Or.inl rfl))) (fun _ _ _ _ _ => (pts_one (pt_cmpR op_eq (pe_op op_odd (pe_op op_shrN (pv 0) (pv 1)) pe_int) pe_int (nomark _)))) (fun _ _ _ _ _ => (pe_op op_shlW pe_int (pv 1))))))), ?_⟩
    walk_at "rd"
    refine ⟨v, 0, rfl, ht, fun hg => ?_, kE⟩
    obtain ⟨n, rfl, h1⟩ : ∃ n : Nat, v = .int n ∧ (n : Int) ≤ 1000000000000000000000000000000 := by
      cases v with
      | int z =>
        simp only [good, Bool.and_eq_true, decide_eq_true_eq] at hg
        exact ⟨z.toNat, by rw [Int.toNat_of_nonneg hg.1], by omega⟩
      | _ => cases hg
    have k := k n rfl h1
    walk_at "rd"
    have hb := bits_big h1
    generalize eb : Builtin.Int.intBits (n : Int) = b at *
    refine ⟨_, RgC.neg (i := (b : Int) - 1) (j := -1) (by omega) (by omega) (by omega) (by omega), ?_⟩
    have en : ((b : Int) - 1 - -1).toNat = b := by omega
    rw [en]
    refine lcB (itp_c _ _ _) (fun i => if n / 2 ^ (b - 1 - i) % 2 = 1 then some (V.int ((2 ^ (b - 1 - i) : Nat) : Int)) else none) (fun _ _ _ => trivial) (fun i D acc C hi hD ha hC => ?_) (fun D hD => ?_)
    · walk_at "rd"
      have ep : (b : Int) - 1 + (i : Int) * -1 = ((b - 1 - i : Nat) : Int) := by omega
      rw [ep]
      have hj : b - 1 - i ≤ 100 := by omega
      generalize b - 1 - i = j at *
      refine ⟨j, rfl, n / 2 ^ j, div_pow_cast n j, rfl, ite2 (fun h => ?_) (fun h => ?_)⟩
      · refine ⟨cshl_nat (a := 1) 1 (by decide) (by decide) (by omega), ?_⟩
        rw [Int.toNat_natCast, Int.one_mul, ← pow_cast]
        exact lcE hC (if_pos (by omega)) (Nat.lt_of_le_of_lt ha (by have : sizeLine = 16777216 := sizeLine_eq; omega))
      · exact hC.1 (if_neg (by omega))
    · have e := congrArg (List.map fun x : Nat => V.int (x : Int)) (M.bl_range n b)
      rw [List.map_filterMap] at e
      have e2 : (fun i => Option.map (fun x : Nat => V.int (x : Int)) (if n / 2 ^ (b - 1 - i) % 2 = 1 then some (2 ^ (b - 1 - i)) else none)) = fun i => if n / 2 ^ (b - 1 - i) % 2 = 1 then some (V.int ((2 ^ (b - 1 - i) : Nat) : Int)) else none := by
        funext i
        split <;> rfl
      rw [e2] at e
      rw [e]
      exact k D hD
abbrev s_total_built : Stmt := top 14
theorem sc_total_built : FnScope ["many", "place"] ["many"] (defScope s_total_built) := ⟨rfl, rfl, rfl, by decide +kernel, rfl, by decide +kernel, by decide +kernel⟩
def sp_total_built (K : PySem.W.Frag) : Sp := fun vs H Q E => ∃ v : V, vs = [v] ∧ Thg H v ∧ (∀ n : Nat, v = .int n → (n : Int) ≤ 1000000000000000000000000000000 → ∀ H', Same H H' → Q (.int (M.tot n : Nat)) H') ∧ (good v 0 = false → E (.ref (He.ga K "BadNumber")) none H)
theorem ok_total_built (T : Txt K mg) (D_check_number_1 : Df P w K mg base 2 "check_number" ["thing", "least"] [.int 0] (sp_check_number K)) (F : FunD K "total_built" "total_built" (defArgs s_total_built) (defBody s_total_built) (defScope s_total_built) [] [] f fd) : FnOk P w K mg base (L2.CX P w) 3 f fd ["many"] (sp_total_built K) := by
  refine F.ok sc_total_built (fun vs H Q E h => ?_) (fun cdv A outer s H vs Q E hr h => ?_)
  · obtain ⟨n, rfl, _⟩ := h
    rfl
  · have hu := hu_of hr
    obtain ⟨v, rfl, ht, k, kE⟩ := h
    refine ⟨_, (pss_cons (ps_expr (pe_callTD D_check_number_1 hr (by rfl) takeE (pa_cons (pv 0) pa_nil)))
      (pss_one (ps_ret (pe_callB (cr_sum rfl) (by rfl) T.b_sum (by decide +kernel) (pa_cons (pe_lc (own := [("place", 1)]) rfl sc_total_built.nd (pi_range1 (by rfl) T.b_range (pa_cons (pe_bits (pv 0)) pa_nil)) (blkOk_by (own := [("place", 1)]) (N := ["many", "place"]) (sc := defScope s_total_built) (by decide +kernel)) (fun _ _ _ _ _ => (pg_name (i := 1) sc_total_built.nd rfl (Or.inl rfl))) (fun _ _ _ _ _ => pts_nil) (fun _ _ _ _ _ => (pe_op op_shlW (pe_op op_sub (pe_op op_fdivW (pv 0) (pe_op op_shlW pe_int (pv 1))) (pe_op op_fdivW (pv 0) (pe_op op_shlW pe_int (pv 1)))) (pv 1)))) pa_nil))))), ?_⟩
    walk_at "rd"
    refine ⟨v, 0, rfl, ht, fun hg => ?_, kE⟩
    obtain ⟨n, rfl, h1⟩ : ∃ n : Nat, v = .int n ∧ (n : Int) ≤ 1000000000000000000000000000000 := by
      cases v with
      | int z =>
        simp only [good, Bool.and_eq_true, decide_eq_true_eq] at hg
        exact ⟨z.toNat, by rw [Int.toNat_of_nonneg hg.1], by omega⟩
      | _ => cases hg
    have k := k n rfl h1
    walk_at "rd"
    have hb := bits_big h1
    refine ⟨by omega, by omega, ?_⟩
    refine lcB (itp_r _ _) (fun i => some (V.int (((n / 2 ^ i - n / 2 ^ (i + 1)) * 2 ^ i : Nat) : Int))) (fun _ _ _ => trivial) (fun i D acc C hi hD ha hC => ?_) (fun D hD => ?_)
    · walk_at "rd"
      rw [Int.zero_add, Int.toNat_natCast, Int.one_mul, show (2 : Int) * 2 ^ i = ((2 ^ (i + 1) : Nat) : Int) by rw [pow_cast, Int.pow_succ, Int.mul_comm], ← pow_cast]
      have e1 : (n : Int) / ((2 ^ i : Nat) : Int) = ((n / 2 ^ i : Nat) : Int) := by simp
      have e2 : (n : Int) / ((2 ^ (i + 1) : Nat) : Int) = ((n / 2 ^ (i + 1) : Nat) : Int) := by simp
      have e3 : n / 2 ^ (i + 1) ≤ n / 2 ^ i := by
        rw [Nat.pow_succ, ← Nat.div_div_eq_div_mul]
        exact Nat.div_le_self _ _
      have e4 : n / 2 ^ i ≤ n := Nat.div_le_self _ _
      rw [e1, e2, ← Int.ofNat_sub e3, ← Int.natCast_mul]
      refine ⟨cshl_nat (a := 1) 1 (by decide) (by decide) (by omega), divw_pow _ (by omega), cshl_nat (a := 2) 2 (by decide) (by decide) (by omega), divw_pow _ (by omega), cshl_nat 100 (Nat.lt_of_le_of_lt (Nat.sub_le _ _) (Nat.lt_of_le_of_lt e4 (by omega))) (by decide) (by omega), ?_⟩
      exact lcE hC rfl (Nat.lt_of_le_of_lt ha (by have : sizeLine = 16777216 := sizeLine_eq; omega))
    · refine ⟨D, (List.range (Builtin.Int.intBits (n : Int))).map (fun i => (((n / 2 ^ i - n / 2 ^ (i + 1)) * 2 ^ i : Nat) : Int)), rfl, ?_, ?_⟩
      · rw [List.map_map]
        refine SqL.of (upd_same.trans ?_)
        rw [Int.toNat_natCast, List.filterMap_eq_map']
        rfl
      · have e : ((List.range (Builtin.Int.intBits (n : Int))).map (fun i => (((n / 2 ^ i - n / 2 ^ (i + 1)) * 2 ^ i : Nat) : Int))).sum = (M.tot n : Nat) := by
          rw [← M.tot_places _ n (bits_lt n)]
          generalize List.range _ = l
          induction l with
          | nil => rfl
          | cons x r ih => rw [List.map_cons, List.map_cons, List.sum_cons, List.sum_cons, ih, Int.natCast_add]
        rw [e]
        exact k _ (G.Same.upd hD)
abbrev s_piece_at : Stmt := top 15
theorem sc_piece_at : FnScope ["first", "end", "size"] ["first", "end"] (defScope s_piece_at) := ⟨rfl, rfl, rfl, by decide +kernel, rfl, by decide +kernel, by decide +kernel⟩
def sp_piece_at : Sp := fun vs H Q _ => ∃ f e : Nat, vs = [.int f, .int e] ∧ f < e ∧ e < 2 ^ 100 ∧ ∀ c, Pc.Is f e c → Q (.int ((2 ^ c : Nat) : Int)) H
theorem ok_piece_at (T : Txt K mg)  (F : FunD K "piece_at" "piece_at" (defArgs s_piece_at) (defBody s_piece_at) (defScope s_piece_at) [] [] f fd) : FnOk P w K mg base (L2.CX P w) 1 f fd ["first", "end"] sp_piece_at := by
  refine F.ok sc_piece_at (fun vs H Q E h => ?_) (fun cdv A outer s H vs Q E hr h => ?_)
  · obtain ⟨f, e, rfl, _⟩ := h
    rfl
  · have hu := hu_of hr
    obtain ⟨f, e, rfl, h1, h2, k⟩ := h
    refine ⟨_, (pss_cons (ps_set (i := 2) sc_piece_at.nd rfl (Or.inl rfl) pe_int)
      (pss_cons (ps_while (passes_of rfl) (PW.pt (pw_and (pt_cmpR op_eq (pe_op op_mod (pv 0) (pe_op op_mul pe_int (pv 2))) pe_int (nomark _)) (pw_and1 (pt_cmpR op_le (pe_op op_add (pv 0) (pe_op op_mul pe_int (pv 2))) (pv 1) (nomark _))))) (pss_one (ps_aug (i := 2) sc_piece_at.nd rfl (Or.inl rfl) pe_int iop_mul)))
      (pss_one (ps_ret (pv 2))))), ?_⟩
    walk_at "rd"
    refine whileC (fun σ H' => H' = H ∧ ∃ c : Nat, σ = [some (.int f), some (.int e), some (.int ((2 ^ c : Nat) : Int))] ∧ f % 2 ^ c = 0 ∧ f + 2 ^ c ≤ e) (fun σ H' => match σ with | [_, _, some (.int x)] => e - x.toNat | _ => 0) ⟨rfl, 0, rfl, Nat.mod_one _, by omega⟩ ?_
    rintro _ H ⟨rfl, c, rfl, a1, a2⟩ B hB
    have p : 0 < 2 ^ c := Nat.pow_pos (by decide)
    have e2 : (2 : Int) * ((2 ^ c : Nat) : Int) = ((2 ^ (c + 1) : Nat) : Int) := by rw [Nat.pow_succ, Int.natCast_mul, Int.mul_comm]; rfl
    have e3 : 2 ^ (c + 1) = 2 ^ c * 2 := Nat.pow_succ ..
    walk_at "rd"
    rw [e2]
    refine ⟨.inl ⟨by decide, by decide⟩, by omega, rfl, ?_⟩
    have fin : ¬ (f % 2 ^ (c + 1) = 0 ∧ f + 2 ^ (c + 1) ≤ e) → Q (.int ((2 ^ c : Nat) : Int)) H := fun z => k c ⟨a1, a2, z⟩
    refine ite2 (fun hc => ⟨.inl ⟨by decide, by decide⟩, ite2 (fun hd => hB _ _ fun N hN => ?_) (fun hd => ?_)⟩) (fun hc => ?_)
    · walk_at "rd"
      have e4 : ((2 ^ c : Nat) : Int) * 2 = ((2 ^ (c + 1) : Nat) : Int) := by rw [Nat.pow_succ, Int.natCast_mul]; rfl
      rw [e4]
      refine ⟨.inr ⟨by decide, by decide⟩, hN _ _ ⟨rfl, c + 1, rfl, by rw [← Int.natCast_emod] at hc; omega, by omega⟩ ?_⟩
      show e - (((2 ^ (c + 1) : Nat) : Int)).toNat < e - (((2 ^ c : Nat) : Int)).toNat
      rw [Int.toNat_natCast, Int.toNat_natCast]
      omega
    · exact fin fun z => hd (by omega)
    · exact fin fun z => hc (by rw [← Int.natCast_emod, z.1]; rfl)
abbrev s_pieces : Stmt := top 16
theorem sc_pieces : FnScope ["begin", "end", "found", "first", "size"] ["begin", "end"] (defScope s_pieces) := ⟨rfl, rfl, rfl, by decide +kernel, rfl, by decide +kernel, by decide +kernel⟩
def sp_pieces (K : PySem.W.Frag) : Sp := fun vs H Q E => ∃ v u : V, vs = [v, u] ∧ Thg H v ∧ Thg H u ∧ (∀ f e : Nat, v = .int f → u = .int e → f ≤ e → (e : Int) ≤ 1000000000000000000000000000000 → ∀ (p : Addr) (ts : List Addr) (H' : Hp), Same H H' → H p = none → H' p = some (.lst (ts.map V.ref)) → Tl H' ts (Pc.pcs f e) → Q (.ref p) H') ∧
  (good v 0 = false ∨ (∃ f : Int, v = .int f ∧ good u f = false) → E (.ref (He.ga K "BadNumber")) none H)
theorem ok_pieces (T : Txt K mg) (D_check_number : Df P w K mg base 2 "check_number" ["thing", "least"] [] (sp_check_number K)) (D_check_number_1 : Df P w K mg base 2 "check_number" ["thing", "least"] [.int 0] (sp_check_number K)) (D_piece_at : Df P w K mg base 1 "piece_at" ["first", "end"] [] sp_piece_at) (F : FunD K "pieces" "pieces" (defArgs s_pieces) (defBody s_pieces) (defScope s_pieces) [] [] f fd) : FnOk P w K mg base (L2.CX P w) 3 f fd ["begin", "end"] (sp_pieces K) := by
  refine F.ok sc_pieces (fun vs H Q E h => ?_) (fun cdv A outer s H vs Q E hr h => ?_)
  · obtain ⟨f, e, rfl, _⟩ := h
    rfl
  · have hu := hu_of hr
    obtain ⟨v, u, rfl, ht, htu, k, kE⟩ := h
    refine ⟨_, (pss_cons (ps_expr (pe_callTD D_check_number_1 hr (by rfl) takeE (pa_cons (pv 0) pa_nil)))
      (pss_cons (ps_expr (pe_callTD D_check_number hr (by rfl) takeE (pa_cons (pv 1) (pa_cons (pv 0) pa_nil))))
      (pss_cons (ps_set (i := 2) sc_pieces.nd rfl (Or.inl rfl) (pe_lst pa_nil))
      (pss_cons (ps_set (i := 3) sc_pieces.nd rfl (Or.inl rfl) (pv 0))
      (pss_cons (ps_while (passes_of rfl) (pt_cmpR op_lt (pv 3) (pv 1) (nomark _)) (pss_cons (ps_set (i := 4) sc_pieces.nd rfl (Or.inl rfl) (pe_callTD D_piece_at hr (by rfl) takeE (pa_cons (pv 3) (pa_cons (pv 1) pa_nil))))
        (pss_cons (ps_expr (pe_bm PySem.F.plainAttrs_list PySem.F.slot_list_append PySem.F.type_list_append mt_append (pv 2) (pa_cons (pe_tup (pa_cons (pv 3) (pa_cons (pv 4) pa_nil))) pa_nil)))
        (pss_one (ps_aug (i := 3) sc_pieces.nd rfl (Or.inl rfl) (pv 4) ip_add)))))
      (pss_one (ps_ret (pv 2)))))))), ?_⟩
    walk_at "rd"
    refine ⟨v, 0, rfl, ht, fun hg => ?_, fun hb => kE (.inl hb)⟩
    obtain ⟨f, rfl, h1'⟩ : ∃ n : Nat, v = .int n ∧ (n : Int) ≤ 1000000000000000000000000000000 := by
      cases v with
      | int z =>
        simp only [good, Bool.and_eq_true, decide_eq_true_eq] at hg
        exact ⟨z.toNat, by rw [Int.toNat_of_nonneg hg.1], by omega⟩
      | _ => cases hg
    refine ⟨u, f, rfl, htu, fun hg2 => ?_, fun hb => kE (.inr ⟨_, rfl, hb⟩)⟩
    obtain ⟨e, rfl, h1, h2⟩ : ∃ e : Nat, u = .int e ∧ f ≤ e ∧ (e : Int) ≤ 1000000000000000000000000000000 := by
      cases u with
      | int z =>
        simp only [good, Bool.and_eq_true, decide_eq_true_eq] at hg2
        exact ⟨z.toNat, by rw [Int.toNat_of_nonneg (by omega)], by omega, by omega⟩
      | _ => cases hg2
    have k := k f e rfl rfl h1 h2
    have h2' : e < 2 ^ 100 := by omega
    have RR := Pc.pcs_R h1 h2'
    have hlen := RR.len0 h2'
    have hz : sizeLine = 16777216 := sizeLine_eq
    walk_at "rd"
    refine ⟨by decide, fun p hp => ?_⟩
    refine whileC (fun σ H' => Same H H' ∧ ∃ (ts : List Addr) (m r : List (Nat × Nat)) (x : Nat) (v : Option V), H' p = some (.lst (ts.map V.ref)) ∧ Tl H' ts m ∧ Pc.pcs f e = m ++ r ∧ Pc.R x e r ∧ σ = [some (.int f), some (.int e), some (.ref p), some (.int x), v]) (fun σ H' => match σ with | [_, _, _, some (.int x), _] => e - x.toNat | _ => 0) ⟨G.Same.upd hp, [], [], Pc.pcs f e, f, none, upd_same, .nil, rfl, RR, rfl⟩ ?_
    rintro _ H1 ⟨S1, ts, m, r, x, v, hp1, ht, em, hR, rfl⟩ B hB
    walk_at "rd"
    refine ite2 (fun hc => hB _ _ fun N hN => ?_) (fun hc => ?_)
    · walk_at "rd"
      refine ⟨x, e, rfl, by omega, h2', fun c hI => ?_⟩
      have hml : ts.length ≤ 201 := by
        rw [ht.len]
        have := congrArg List.length em
        rw [List.length_append] at this
        omega
      refine ⟨tyL hp1, by decide, fun t1 ht1 => ⟨_, (G.Same.upd ht1) _ _ hp1, by rw [List.length_map]; omega, ?_⟩⟩
      have npt : p ≠ t1 := ne_of_none hp1 ht1
      have S2 : Same H (upd (upd H1 t1 (.tup [.int (x : Int), .int ((2 ^ c : Nat) : Int)])) p (.lst (ts.map V.ref ++ [.ref t1]))) := fun b o e' => by
        rw [upd_ne (ne_of_none e' hp)]
        exact (G.Same.upd ht1) _ _ (S1 _ _ e')
      have ee : (x : Int) + ((2 ^ c : Nat) : Int) = ((x + 2 ^ c : Nat) : Int) := by rw [Int.natCast_add]
      refine ⟨_, rfl, ?_⟩
      rw [ee]
      have p2 : 0 < 2 ^ c := Nat.pow_pos (by decide)
      have le := hI.le
      obtain ⟨r', er, hR'⟩ : ∃ r', r = (x, 2 ^ c) :: r' ∧ Pc.R (x + 2 ^ c) e r' := by
        cases hR with
        | nil => omega
        | @cons _ _ c' l' h' q' =>
          have := Pc.is_unique h' hI
          subst this
          exact ⟨l', rfl, q'⟩
      refine hN _ _ ⟨S2, ts ++ [t1], m ++ [(x, 2 ^ c)], r', x + 2 ^ c, some (.int ((2 ^ c : Nat) : Int)), ?_, ?_, ?_, hR', rfl⟩ ?_
      · rw [upd_same, List.map_append]
        rfl
      · refine Tl.snoc (ht.keep (F := [t1, p]) (fun a o n e' => ?_) fun t htm => ?_) ?_
        · rw [upd_ne (fun z => n (by simp [z])), upd_ne (fun z => n (by simp [z]))]
          exact e'
        · obtain ⟨o, eo⟩ := ht.mem t htm
          exact notin2 (ne_of_none eo ht1) (ne_of eo hp1 (by intro z; cases z))
        · rw [upd_ne npt.symm, upd_same]
      · rw [em, er, List.append_assoc]
        rfl
      · show e - (((x + 2 ^ c : Nat) : Int)).toNat < e - ((x : Int)).toNat
        omega
    · have hx : x = e := by have := hR.le; omega
      subst hx
      have r0 : r = [] := hR.unique (.nil _)
      subst r0
      rw [List.append_nil] at em
      rw [← em] at ht
      exact k p ts H1 S1 hp hp1 ht
abbrev s_is_number : Stmt := top 21
theorem sc_is_number : FnScope ["_law_thing_here"] ["_law_thing_here"] (defScope s_is_number) := ⟨rfl, rfl, rfl, by decide +kernel, rfl, by decide +kernel, by decide +kernel⟩
def sp_is_number : Sp := fun vs H Q _ => ∃ v : V, vs = [v] ∧ Thg H v ∧ Q (.bl (good v 0)) H
theorem ok_is_number (T : Txt K mg)  (F : FunD K "_law_is_number" "_law_is_number" (defArgs s_is_number) (defBody s_is_number) (defScope s_is_number) [] [] f fd) : FnOk P w K mg base (L2.CX P w) 1 f fd ["_law_thing_here"] sp_is_number := by
  refine F.ok sc_is_number (fun vs H Q E h => ?_) (fun cdv A outer s H vs Q E hr h => ?_)
  · obtain ⟨n, rfl, _⟩ := h
    rfl
  · have hu := hu_of hr
    obtain ⟨v, rfl, ht, k⟩ := h
    refine ⟨_, (pss_one (ps_ret (pe_and (pe_callB call_isi (by rfl) T.b_isinstance (by decide +kernel) (pa_cons (pv 0) (pa_cons (pe_bltn (v := .ty "int") (by rfl) T.b_int (by decide +kernel) rfl) pa_nil))) (pe_and (pe_not (pe_callB call_isi (by rfl) T.b_isinstance (by decide +kernel) (pa_cons (pv 0) (pa_cons (pe_bltn (v := .ty "bool") (by rfl) T.b_bool (by decide +kernel) rfl) pa_nil)))) (pe_one (pe_chain op_le op_le pe_int (pv 0) (pe_op op_pow pe_int pe_int))))))), ?_⟩
    walk_at "rd"
    refine ht.isint ⟨_, rfl, ?_⟩
    have e10 : (10 : Int) ^ (30 : Int).toNat = 1000000000000000000000000000000 := by decide
    cases v with
    | int n =>
      refine iteT (ht.isbool ⟨_, rfl, iteT ⟨_, rfl, ?_⟩⟩)
      by_cases h1 : 0 ≤ n
      · rw [if_pos h1, e10]
        refine ⟨⟨by decide, by decide, by decide⟩, _, rfl, ?_⟩
        have : good (.int n) 0 = decide (n ≤ 1000000000000000000000000000000) := by simp [good, h1]
        rw [this] at k
        exact k
      · rw [if_neg h1]
        have : good (.int n) 0 = false := by simp [good, h1]
        rw [this] at k
        exact k
    | bl b => exact iteT (ht.isbool ⟨_, rfl, iteF k⟩)
    | _ => exact iteF k
abbrev s_raises : Stmt := top 22
theorem sc_raises : FnScope ["_law_kind", "_law_one", "_law_other", "e"] ["_law_kind", "_law_one", "_law_other"] (defScope s_raises) := ⟨rfl, rfl, rfl, by decide +kernel, rfl, by decide +kernel, by decide +kernel⟩
def sp_raises : Sp := fun vs H Q _ => ∃ (kd : Int) (v u : V), vs = [.int kd, v, u] ∧ Thg H v ∧ Thg H u ∧ ∀ (b : Bool) (H' : Hp), Same H H' → (b = true ↔ if kd = 0 ∨ kd = 1 then good v 0 = false else (good v 0 = false ∨ ∃ f : Int, v = .int f ∧ good u f = false)) → Q (.bl b) H'
theorem ok_raises (T : Txt K mg) (D_block_sizes : Df P w K mg base 3 "block_sizes" ["many"] [] (sp_block_sizes K)) (D_pieces : Df P w K mg base 3 "pieces" ["begin", "end"] [] (sp_pieces K)) (D_total_built : Df P w K mg base 3 "total_built" ["many"] [] (sp_total_built K)) (F : FunD K "_law_raises" "_law_raises" (defArgs s_raises) (defBody s_raises) (defScope s_raises) [] [] f fd) : FnOk P w K mg base (L2.CX P w) 4 f fd ["_law_kind", "_law_one", "_law_other"] sp_raises := by
  refine F.ok sc_raises (fun vs H Q E h => ?_) (fun cdv A outer s H vs Q E hr h => ?_)
  · obtain ⟨kd, v, u, rfl, _⟩ := h
    rfl
  · have hu := hu_of hr
    obtain ⟨kd, v, u, rfl, ht, htu, k⟩ := h
    refine ⟨_, (pss_cons (ps_try_as (i := 3) rfl rfl sc_raises.nd rfl rfl ⟨rfl, by decide, .inl T.g_BadNumber⟩ takes0 (fun W pn xe tk po => (pss_one (ps_if (pt_cmpR op_eq (pv 0) pe_int (nomark _)) (pss_one (ps_expr (pe_callTD D_block_sizes hr (by rfl) tk (pa_cons (pv 1) pa_nil)))) (pss_one (ps_if (pt_cmpR op_eq (pv 0) pe_int (nomark _)) (pss_one (ps_expr (pe_callTD D_total_built hr (by rfl) tk (pa_cons (pv 1) pa_nil)))) (pss_one (ps_expr (pe_callTD D_pieces hr (by rfl) tk (pa_cons (pv 1) (pa_cons (pv 2) pa_nil)))))))))) (fun a oe cls d pn hz hf => (pss_cons (ps_if (PW.pt (pw_or (pt_val (pe_callB (call_isET hz hf) (by rfl) T.b_isinstance (by decide +kernel) (pa_cons (pv 3) (pa_cons (pe_tup (pa_cons (pe_glob (v := .ref (He.ga K "BadHistory")) (by rfl) T.g_BadHistory rfl) (pa_cons (pe_glob (v := .ref (He.ga K "Busy")) (by rfl) T.g_Busy rfl) (pa_cons (pe_glob (v := .ref (He.ga K "Empty")) (by rfl) T.g_Empty rfl) (pa_cons (pe_glob (v := .ref (He.ga K "NoMember")) (by rfl) T.g_NoMember rfl) (pa_cons (pe_glob (v := .ref (He.ga K "NotTorn")) (by rfl) T.g_NotTorn rfl) (pa_cons (pe_glob (v := .ref (He.ga K "Torn")) (by rfl) T.g_Torn rfl) pa_nil))))))) pa_nil)))) (pw_or1 (pt_not (pt_val (pe_callB (call_isE2 hz hf) (by rfl) T.b_isinstance (by decide +kernel) (pa_cons (pv 3) (pa_cons (pe_glob (v := .ref (He.ga K "OnceError")) (by rfl) T.g_OnceError rfl) pa_nil)))))))) (pss_one (ps_ret pe_non)) pss_nil)
        (pss_one (ps_ret pe_bl)))))
      (pss_one (ps_ret pe_bl))), ?_⟩
    walk_at "rd"
    have EC : ∀ H' : Hp, Same H H' → (if kd = 0 ∨ kd = 1 then good v 0 = false else good v 0 = false ∨ ∃ f : Int, v = V.int f ∧ good u f = false) → ∀ (p : Addr) (o : HO), H' p = none → Q (V.bl true) (upd H' p o) := fun H' S z p o hp => k true _ (S.trans (G.Same.upd hp)) (by simpa using z)
    have hf : ∀ t ∈ [Value.ref (He.ga K "BadHistory"), .ref (He.ga K "Busy"), .ref (He.ga K "Empty"), .ref (He.ga K "NoMember"), .ref (He.ga K "NotTorn"), .ref (He.ga K "Torn")], PySem.W.kitOne K (.ref (He.ga K "BadNumber")) t = some false := by
      intro t ht
      simp only [List.mem_cons, List.not_mem_nil, or_false] at ht
      rcases ht with rfl | rfl | rfl | rfl | rfl | rfl
      · exact T.kt_BadNumber_BadHistory
      · exact T.kt_BadNumber_Busy
      · exact T.kt_BadNumber_Empty
      · exact T.kt_BadNumber_NoMember
      · exact T.kt_BadNumber_NotTorn
      · exact T.kt_BadNumber_Torn
    refine ⟨rfl, ite2 (fun k0 => ?_) (fun k0 => ⟨rfl, ite2 (fun k1 => ?_) (fun k1 => ?_)⟩)⟩
    · refine ⟨v, rfl, ht, fun n e1 e2 p hp => k false _ (G.Same.upd hp) ?_, fun hb => ⟨true, T.em_BadNumber_BadNumber, fun _ a ha => ⟨by decide, fun p hp => ⟨_, rfl, rfl, T.xc_BadNumber, _, upd_same, _, .cons (.own _) (.cons (.own _) (.cons (.own _) (.cons (.own _) (.cons (.own _) (.cons (.own _) .nil))))), false, kitAny_false hf, iteF ⟨_, rfl, rfl, T.xc_BadNumber, _, fun _ z => z, true, T.kt_BadNumber_OnceError, iteF (EC _ (Same.refl _) (by rw [if_pos (.inl k0)]; exact hb) p _ hp)⟩⟩⟩, fun z => nomatch z⟩⟩
      rw [if_pos (.inl k0), e1]
      simp [good, e2]
    · refine ⟨v, rfl, ht, fun n e1 e2 H1 S1 => k false _ S1 ?_, fun hb => ⟨true, T.em_BadNumber_BadNumber, fun _ a ha => ⟨by decide, fun p hp => ⟨_, rfl, rfl, T.xc_BadNumber, _, upd_same, _, .cons (.own _) (.cons (.own _) (.cons (.own _) (.cons (.own _) (.cons (.own _) (.cons (.own _) .nil))))), false, kitAny_false hf, iteF ⟨_, rfl, rfl, T.xc_BadNumber, _, fun _ z => z, true, T.kt_BadNumber_OnceError, iteF (EC _ (Same.refl _) (by rw [if_pos (.inr k1)]; exact hb) p _ hp)⟩⟩⟩, fun z => nomatch z⟩⟩
      rw [if_pos (.inr k1), e1]
      simp [good, e2]
    · refine ⟨v, u, rfl, ht, htu, fun x y e1 e2 h1 h2 p ts H1 S1 hp hp1 _ => k false _ S1 ?_, fun hb => ⟨true, T.em_BadNumber_BadNumber, fun _ a ha => ⟨by decide, fun p hp => ⟨_, rfl, rfl, T.xc_BadNumber, _, upd_same, _, .cons (.own _) (.cons (.own _) (.cons (.own _) (.cons (.own _) (.cons (.own _) (.cons (.own _) .nil))))), false, kitAny_false hf, iteF ⟨_, rfl, rfl, T.xc_BadNumber, _, fun _ z => z, true, T.kt_BadNumber_OnceError, iteF (EC _ (Same.refl _) (by rw [if_neg (by omega)]; exact hb) p _ hp)⟩⟩⟩, fun z => nomatch z⟩⟩
      rw [if_neg (by omega), e1, e2]
      have : (x : Int) ≤ 1000000000000000000000000000000 := by omega
      have : (x : Int) ≤ (y : Int) := by omega
      simp [good, *]
abbrev s_thing : Stmt := top 20
theorem sc_thing : FnScope ["_law_bag_here", "_law_some", "_law_good"] ["_law_bag_here"] (defScope s_thing) := ⟨rfl, rfl, rfl, by decide +kernel, rfl, by decide +kernel, by decide +kernel⟩
def sp_thing : Sp := fun vs H Q _ => ∃ (b : Addr) (g s c : Int), vs = [.ref b] ∧ H b = some (.lst [.int g, .int s, .int c]) ∧
  ∀ (v : V) (H' : Hp) (g' s' c' : Int), Keep [b] H H' → H' b = some (.lst [.int g', .int s', .int c']) → Thg H' v → (∀ p, v = .ref p → H p = none) → Q v H'
theorem ok_thing (T : Txt K mg) (D_take : Df P w K mg base 1 "_law_take" ["_law_bag_here", "_law_many"] [] sp_take) (F : FunD K "_law_thing" "_law_thing" (defArgs s_thing) (defBody s_thing) (defScope s_thing) [] [] f fd) : FnOk P w K mg base (L2.CX P w) 2 f fd ["_law_bag_here"] sp_thing := by
  refine F.ok sc_thing (fun vs H Q E h => ?_) (fun cdv A outer s H vs Q E hr h => ?_)
  · obtain ⟨b, g, s, c, rfl, _⟩ := h
    rfl
  · have hu := hu_of hr
    obtain ⟨b, g, s', c, rfl, hb, k⟩ := h
    refine ⟨_, (pss_cons (ps_set (i := 1) sc_thing.nd rfl (Or.inl rfl) (pe_lst (pa_cons (pe_un un_neg pe_int) (pa_cons (pe_op op_add (pe_op op_pow pe_int pe_int) pe_int) (pa_cons (pe_op op_sub pe_int (pe_op op_pow pe_int pe_int)) (pa_cons pe_bl (pa_cons pe_bl (pa_cons pe_non (pa_cons pe_str (pa_cons pe_str (pa_cons (pe_lst (pa_cons pe_int pa_nil)) (pa_cons (pe_tup (pa_cons pe_int pa_nil)) (pa_cons (pe_op op_pow pe_int pe_int) pa_nil)))))))))))))
      (pss_cons (ps_set (i := 2) sc_thing.nd rfl (Or.inl rfl) (pe_lst (pa_cons (pe_callD D_take hr (by rfl) passL (pa_cons (pv 0) (pa_cons pe_int pa_nil))) (pa_cons (pe_callD D_take hr (by rfl) passL (pa_cons (pv 0) (pa_cons (pe_op op_pow pe_int pe_int) pa_nil))) (pa_cons (pe_op op_pow pe_int pe_int) (pa_cons pe_int pa_nil))))))
      (pss_cons (ps_if (pt_cmpR op_eq (pe_callD D_take hr (by rfl) passL (pa_cons (pv 0) (pa_cons pe_int pa_nil))) pe_int (nomark _)) (pss_one (ps_ret (pe_ix ix_list (pv 2) (pe_callD D_take hr (by rfl) passL (pa_cons (pv 0) (pa_cons pe_int pa_nil))) (fun _ _ => rfl)))) pss_nil)
      (pss_one (ps_ret (pe_ix ix_list (pv 1) (pe_callD D_take hr (by rfl) passL (pa_cons (pv 0) (pa_cons pe_int pa_nil))) (fun _ _ => rfl))))))), ?_⟩
    walk_at "rd"
    have p30 : (10 : Int) ^ (30 : Int).toNat = 1000000000000000000000000000000 := by decide
    have p60 : (10 : Int) ^ (60 : Int).toNat = 1000000000000000000000000000000000000000000000000000000000000 := by decide
    rw [p30, p60]
    refine ⟨⟨by decide, by decide, by decide⟩, ⟨by decide, by decide, by decide⟩, by decide, fun p1 h1 => ⟨by decide, fun p2 h2 => ⟨⟨by decide, by decide, by decide⟩, by decide, fun p3 h3 => ?_⟩⟩⟩
    have S1 := G.Same.upd (o := .lst [V.int 2]) h1
    have S2 := G.Same.upd (o := .tup [V.int 1]) h2
    have S3 := G.Same.upd (o := HO.lst [V.int (-1), V.int (1000000000000000000000000000000 + 1), V.int (0 - 1000000000000000000000000000000), V.bl true, V.bl false, V.non, V.str "3", V.str "", V.ref p1, V.ref p2, V.int 1000000000000000000000000000000000000000000000000000000000000]) h3
    have e1 := S3 _ _ (S2 _ _ (upd_same (H := H) (a := p1) (o := .lst [V.int 2])))
    have e2 := S3 _ _ (upd_same (H := upd H p1 (.lst [V.int 2])) (a := p2) (o := .tup [V.int 1]))
    have e3 := upd_same (H := upd (upd H p1 (.lst [V.int 2])) p2 (.tup [V.int 1])) (a := p3) (o := HO.lst [V.int (-1), V.int (1000000000000000000000000000000 + 1), V.int (0 - 1000000000000000000000000000000), V.bl true, V.bl false, V.non, V.str "3", V.str "", V.ref p1, V.ref p2, V.int 1000000000000000000000000000000000000000000000000000000000000])
    have h2' := S1.free h2
    have h3' := (S1.trans S2).free h3
    have n1 : p1 ∉ [b] := fun z => by rw [List.mem_singleton.mp z, hb] at h1; cases h1
    have n2 : p2 ∉ [b] := fun z => by rw [List.mem_singleton.mp z, hb] at h2'; cases h2'
    have n3 : p3 ∉ [b] := fun z => by rw [List.mem_singleton.mp z, hb] at h3'; cases h3'
    have hb3 := S3 _ _ (S2 _ _ (S1 _ _ hb))
    have KK : Keep [b] H _ := .of ((S1.trans S2).trans S3)
    generalize upd (upd (upd H p1 (.lst [V.int 2])) p2 (.tup [V.int 1])) p3 _ = H3 at e1 e2 e3 hb3 KK ⊢
    refine ⟨b, _, _, _, _, rfl, hb3, by decide, by decide, fun r1 g1 s1 c1 l1 u1 => ⟨⟨by decide, by decide, by decide⟩, ?_⟩⟩
    refine ⟨b, _, _, _, _, rfl, upd_same, by decide, by decide, fun r2 g2 s2 c2 l2 u2 => ⟨⟨by decide, by decide, by decide⟩, by decide, fun p4 h4 => ?_⟩⟩
    have S4 := G.Same.upd (o := .lst [V.int r1, V.int r2, V.int 1000000000000000000000000000000, V.int 0]) h4
    have K4 : Keep [b] H3 _ := ((Keep.upd (b := b) (o := .lst [.int g1, .int s1, .int c1]) (by simp)).trans (Keep.upd (b := b) (o := .lst [.int g2, .int s2, .int c2]) (by simp))).trans (.of S4)
    have e4 := upd_same (H := upd (upd H3 b (.lst [.int g1, .int s1, .int c1])) b (.lst [.int g2, .int s2, .int c2])) (a := p4) (o := .lst [V.int r1, V.int r2, V.int 1000000000000000000000000000000, V.int 0])
    have hb4 := S4 _ _ (upd_same (H := upd H3 b (.lst [.int g1, .int s1, .int c1])) (a := b) (o := .lst [.int g2, .int s2, .int c2]))
    have n4 : p4 ≠ b := fun z => by rw [z, upd_same] at h4; cases h4
    generalize upd (upd (upd H3 b (.lst [.int g1, .int s1, .int c1])) b (.lst [.int g2, .int s2, .int c2])) p4 _ = H4 at K4 e4 hb4 ⊢
    refine ⟨b, _, _, _, _, rfl, hb4, by decide, by decide, fun r3 g3 s3 c3 l3 u3 => ⟨rfl, ite2 (fun _ => ?_) (fun _ => ?_)⟩⟩
    · refine ⟨b, _, _, _, _, rfl, upd_same, by decide, by decide, fun r g5 s5 c5 l5 u5 => ⟨_, r, rfl, SqL.of ((upd_ne n4).trans ((upd_ne n4).trans e4)), ?_⟩⟩
      have K5 : Keep [b] H _ := ((KK.trans K4).trans (Keep.upd (b := b) (o := .lst [.int g3, .int s3, .int c3]) (by simp))).trans (Keep.upd (b := b) (o := .lst [.int g5, .int s5, .int c5]) (by simp))
      have h8 : r = 0 ∨ r = 1 ∨ r = 2 ∨ r = 3 := by omega
      rcases h8 with rfl | rfl | rfl | rfl <;> exact ⟨_, rfl, k _ _ _ _ _ K5 upd_same (.int _) (fun _ z => nomatch z)⟩
    · refine ⟨b, _, _, _, _, rfl, upd_same, by decide, by decide, fun r g5 s5 c5 l5 u5 => ?_⟩
      have K5' : Keep [b] H3 _ := (K4.trans (Keep.upd (b := b) (o := .lst [.int g3, .int s3, .int c3]) (by simp))).trans (Keep.upd (b := b) (o := .lst [.int g5, .int s5, .int c5]) (by simp))
      refine ⟨_, r, rfl, SqL.of (K5' _ _ n3 e3), ?_⟩
      have K5 := KK.trans K5'
      have h8 : r = 0 ∨ r = 1 ∨ r = 2 ∨ r = 3 ∨ r = 4 ∨ r = 5 ∨ r = 6 ∨ r = 7 ∨ r = 8 ∨ r = 9 ∨ r = 10 := by omega
      rcases h8 with rfl | rfl | rfl | rfl | rfl | rfl | rfl | rfl | rfl | rfl | rfl
      · exact ⟨_, rfl, k _ _ _ _ _ K5 upd_same (.int _) (fun _ z => nomatch z)⟩
      · exact ⟨_, rfl, k _ _ _ _ _ K5 upd_same (.int _) (fun _ z => nomatch z)⟩
      · exact ⟨_, rfl, k _ _ _ _ _ K5 upd_same (.int _) (fun _ z => nomatch z)⟩
      · exact ⟨_, rfl, k _ _ _ _ _ K5 upd_same (.bl _) (fun _ z => nomatch z)⟩
      · exact ⟨_, rfl, k _ _ _ _ _ K5 upd_same (.bl _) (fun _ z => nomatch z)⟩
      · exact ⟨_, rfl, k _ _ _ _ _ K5 upd_same .non (fun _ z => nomatch z)⟩
      · exact ⟨_, rfl, k _ _ _ _ _ K5 upd_same (.str _) (fun _ z => nomatch z)⟩
      · exact ⟨_, rfl, k _ _ _ _ _ K5 upd_same (.str _) (fun _ z => nomatch z)⟩
      · exact ⟨_, rfl, k _ _ _ _ _ K5 upd_same (.lst (K5' _ _ n1 e1)) (fun _ z => by cases z; exact h1)⟩
      · exact ⟨_, rfl, k _ _ _ _ _ K5 upd_same (.tup (K5' _ _ n2 e2)) (fun _ z => by cases z; exact h2')⟩
      · exact ⟨_, rfl, k _ _ _ _ _ K5 upd_same (.int _) (fun _ z => nomatch z)⟩
abbrev s_law : Stmt := top 23
theorem sc_law : FnScope ["_law_script", "_law_k", "_law_bag_here", "_law_turn", "_law_one", "_law_other", "_law_good", "_law_kind", "_law_told"] ["_law_script"] (defScope s_law) := ⟨rfl, rfl, rfl, by decide +kernel, rfl, by decide +kernel, by decide +kernel⟩
def sp_law (K : PySem.W.Frag) : Sp := fun vs H Q _ => ∃ (a : Addr) (ns : List Int), vs = [.ref a] ∧ SqL K H a (ns.map V.int) ∧ ns.length ≤ 63 ∧ (∀ z ∈ ns, Builtin.Int.intBits z ≤ 1048576) ∧ ∀ H', Q (.bl true) H'
theorem ok_law (T : Txt K mg) (D_bag : Df P w K mg base 1 "_law_bag" ["_law_script", "_law_at"] [] (sp_bag K)) (D_is_number : Df P w K mg base 1 "_law_is_number" ["_law_thing_here"] [] sp_is_number) (D_raises : Df P w K mg base 4 "_law_raises" ["_law_kind", "_law_one", "_law_other"] [] sp_raises) (D_thing : Df P w K mg base 2 "_law_thing" ["_law_bag_here"] [] sp_thing) (F : FunD K "law" "law" (defArgs s_law) (defBody s_law) (defScope s_law) [] [] f fd) : FnOk P w K mg base (L2.CX P w) 5 f fd ["_law_script"] (sp_law K) := by
  refine F.ok sc_law (fun vs H Q E h => ?_) (fun cdv A outer s H vs Q E hr h => ?_)
  · obtain ⟨a, ns, rfl, _⟩ := h
    rfl
  · have hu := hu_of hr
    obtain ⟨a, ns, rfl, hS, hl, _, k⟩ := h
    refine ⟨_, (pss_cons (ps_for (passes_of rfl) rfl (pi_range1 (by rfl) T.b_range (pa_cons (pe_op op_add pe_int (pe_callB (call_min2 rfl) (by rfl) T.b_min (by decide +kernel) (pa_cons pe_int (pa_cons (pe_callB call_len (by rfl) T.b_len (by decide +kernel) (pa_cons (pv 0) pa_nil)) pa_nil)))) pa_nil)) (pg_name (i := 1) sc_law.nd rfl (Or.inl rfl)) (pss_cons (ps_set (i := 2) sc_law.nd rfl (Or.inl rfl) (pe_callD D_bag hr (by rfl) passL (pa_cons (pv 0) (pa_cons (pv 1) pa_nil))))
        (pss_one (ps_for (passes_of rfl) rfl (pi_range1 (by rfl) T.b_range (pa_cons pe_int pa_nil)) (pg_name (i := 3) sc_law.nd rfl (Or.inl rfl)) (pss_cons (ps_par (i := 4) (j := 5) (by rfl) sc_law.nd rfl rfl (by decide) rfl rfl (pa_cons (pe_callD D_thing hr (by rfl) passL (pa_cons (pv 2) pa_nil)) (pa_cons (pe_callD D_thing hr (by rfl) passL (pa_cons (pv 2) pa_nil)) pa_nil)) (by rfl))
          (pss_cons (ps_set (i := 6) sc_law.nd rfl (Or.inl rfl) (pe_callD D_is_number hr (by rfl) passL (pa_cons (pv 4) pa_nil)))
          (pss_cons (ps_for (passes_of rfl) rfl (pi_range1 (by rfl) T.b_range (pa_cons pe_int pa_nil)) (pg_name (i := 7) sc_law.nd rfl (Or.inl rfl)) (pss_cons (ps_set (i := 8) sc_law.nd rfl (Or.inl rfl) (pe_callD D_raises hr (by rfl) passL (pa_cons (pv 7) (pa_cons (pv 4) (pa_cons pe_non pa_nil)))))
            (pss_one (ps_if (PW.pt (pw_or (pt_cmpR op_isN (pv 8) pe_non (nomark _)) (pw_or1 (pt_cmpR op_eq (pv 8) (pv 6) (nomark _))))) (pss_one (ps_ret pe_bl)) pss_nil))))
          (pss_cons (ps_set (i := 6) sc_law.nd rfl (Or.inl rfl) (pe_and (pv 6) (pe_and (pe_callD D_is_number hr (by rfl) passL (pa_cons (pv 5) pa_nil)) (pe_one (pe_cmpR op_le (pv 4) (pv 5) (nomark _))))))
          (pss_cons (ps_set (i := 8) sc_law.nd rfl (Or.inl rfl) (pe_callD D_raises hr (by rfl) passL (pa_cons pe_int (pa_cons (pv 4) (pa_cons (pv 5) pa_nil)))))
          (pss_one (ps_if (PW.pt (pw_or (pt_cmpR op_isN (pv 8) pe_non (nomark _)) (pw_or1 (pt_cmpR op_eq (pv 8) (pv 6) (nomark _))))) (pss_one (ps_ret pe_bl)) pss_nil)))))))))))
      (pss_one (ps_ret pe_bl))), ?_⟩
    walk_at "rd"
    refine ⟨_, len_of hS, ?_⟩
    rw [List.length_map]
    generalize en : (1 + if (ns.length : Int) < 4 then (ns.length : Int) else 4) = m
    have hm : 0 ≤ m ∧ m ≤ 5 := by rw [← en]; split <;> omega
    refine ⟨by omega, by omega, ?_⟩
    refine forB (itp_r _ _) (fun i σ H' => Same H H' ∧ ∃ v1 v2 v3 v4 v5 v6 v7 v8, σ = [some (.ref a), v1, v2, v3, v4, v5, v6, v7, v8]) ⟨Same.refl _, none, none, none, none, none, none, none, none, rfl⟩ (fun _ _ _ _ _ => trivial) ?_ ?_
    · rintro i _ H1 N hi ⟨S1, v1, v2, v3, v4, v5, v6, v7, v8, rfl⟩ hN
      walk_at "rd"
      refine ⟨a, ns, _, rfl, S1.seq hS, hl, by omega, by omega, fun b H2 g s2 S2 hb2 hb => ?_⟩
      walk_at "rd"
      refine ⟨by decide, by decide, ?_⟩
      have FR : ∀ c ∈ [b], H c = none := fun c hc => by rw [List.mem_singleton.mp hc]; exact S1.free hb2
      refine forB (itp_r _ _) (fun i' σ H' => Keep [b] H2 H' ∧ (∃ g s2 c : Int, H' b = some (.lst [.int g, .int s2, .int c])) ∧ ∃ v3 v4 v5 v6 v7 v8, σ = [some (.ref a), some (.int (0 + (i : Int))), some (.ref b), v3, v4, v5, v6, v7, v8]) ⟨Keep.refl _ _, ⟨_, _, _, hb⟩, _, _, _, _, _, _, rfl⟩ (fun _ _ _ _ _ => trivial) ?_ ?_
      · rintro i' _ H3 N3 hi' ⟨K3, ⟨g3, s3, c3, hb3⟩, w3, w4, w5, w6, w7, w8, rfl⟩ hN3
        walk_at "rd"
        refine ⟨b, _, _, _, rfl, hb3, fun v H4 g4 s4 c4 K4 hb4 tv nv => ⟨b, _, _, _, rfl, hb4, fun u H5 g5 s5 c5 K5 hb5 tu nu => ?_⟩⟩
        have tv5 : Thg H5 v := tv.keep K5 fun p e z => by rw [List.mem_singleton.mp z] at e; have := nv _ e; rw [hb3] at this; cases this
        have K5' := (K3.trans K4).trans K5
        walk_at "rd"
        refine ⟨v, rfl, tv5, by decide, by decide, ?_⟩
        have hh : ∀ b1 : Bool, ∀ b2 : Bool, (b1 = true ↔ b2 = false) → ¬ b1 = b2 := by decide
        have hs : ∀ b1 : Bool, ∀ b2 : Bool, scal (.bl b1) (.bl b2) = true := by decide
        refine forB (itp_r _ _) (fun i'' σ H' => Same H5 H' ∧ ∃ v7 v8, σ = [some (.ref a), some (.int (0 + (i : Int))), some (.ref b), some (.int (0 + (i' : Int))), some v, some u, some (.bl (good v 0)), v7, v8]) ⟨Same.refl _, _, _, rfl⟩ (fun _ _ _ _ _ => trivial) ?_ ?_
        · rintro i'' _ H6 N6 hi'' ⟨S6, w7', w8', rfl⟩ hN6
          walk_at "rd"
          refine ⟨_, v, .non, rfl, tv5.same S6, .non, fun bb H7 S7 hbb => ?_⟩
          rw [if_pos (by omega)] at hbb
          walk_at "rd"
          rw [if_neg (fun z => nomatch z)]
          refine ⟨hs _ _, ?_⟩
          rw [if_neg (hh _ _ hbb)]
          exact hN6 _ _ ⟨S6.trans S7, _, _, rfl⟩
        · rintro _ H6 ⟨S6, w7', w8', rfl⟩
          refine seq_cut2 (fun σ H' => H' = H6 ∧ ∃ b6 : Bool, (b6 = false ↔ (good v 0 = false ∨ ∃ f : Int, v = .int f ∧ good u f = false)) ∧ σ = [some (.ref a), some (.int (0 + (i : Int))), some (.ref b), some (.int (0 + (i' : Int))), some v, some u, some (.bl b6), w7', w8']) (fun N7 hN7 => ?_) ?_
          · walk_at "rd"
            cases hv : good v 0 with
            | false =>
              simp only [Bool.false_eq_true, if_false]
              exact hN7 _ _ ⟨rfl, false, by simp [hv], rfl⟩
            | true =>
              simp only [if_true]
              obtain ⟨z, rfl, hz1⟩ : ∃ z, v = .int z ∧ 0 ≤ z := by
                cases v with
                | int z =>
                  simp only [good, Bool.and_eq_true, decide_eq_true_eq] at hv
                  exact ⟨z, rfl, hv.1⟩
                | _ => cases hv
              refine ⟨u, rfl, tu.same S6, _, rfl, ?_⟩
              cases hu' : good u 0 with
              | false =>
                refine iteF (hN7 _ _ ⟨rfl, false, ⟨fun _ => .inr ⟨z, rfl, ?_⟩, fun _ => rfl⟩, rfl⟩)
                cases u with
                | int y =>
                  simp only [good, Bool.and_eq_false_iff, decide_eq_false_iff_not] at hu' ⊢
                  omega
                | _ => rfl
              | true =>
                obtain ⟨y, rfl, hy⟩ : ∃ y, u = .int y ∧ y ≤ 1000000000000000000000000000000 := by
                  cases u with
                  | int z =>
                    simp only [good, Bool.and_eq_true, decide_eq_true_eq] at hu'
                    exact ⟨z, rfl, hu'.2⟩
                  | _ => cases hu'
                refine iteT ⟨_, rfl, _, rfl, hN7 _ _ ⟨rfl, _, ⟨fun h => .inr ⟨z, rfl, ?_⟩, ?_⟩, rfl⟩⟩
                · simp only [good, h, Bool.false_and]
                · rintro (h | ⟨f', e, h⟩)
                  · rw [h] at hv
                    cases hv
                  · cases e
                    simpa [good, hy] using h
          · rintro _ H7 ⟨rfl, b6, h6, rfl⟩
            walk_at "rd"
            refine ⟨2, v, u, rfl, tv5.same S6, tu.same S6, fun bb H8 S8 hbb => ?_⟩
            rw [if_neg (by decide)] at hbb
            walk_at "rd"
            rw [if_neg (fun z => nomatch z)]
            refine ⟨hs _ _, ?_⟩
            rw [if_neg (hh _ _ (hbb.trans h6.symm))]
            exact hN3 _ _ ⟨K5'.trans (.of (S6.trans S8)), ⟨_, _, _, (S6.trans S8) _ _ hb5⟩, _, _, _, _, _, _, rfl⟩
      · rintro _ H3 ⟨K3, ⟨g3, s3, c3, hb3⟩, w3, w4, w5, w6, w7, w8, rfl⟩
        exact hN _ _ ⟨K3.same (S1.trans S2) FR, _, _, _, _, _, _, _, _, rfl⟩
    · rintro _ H1 ⟨S1, v1, v2, v3, v4, v5, v6, v7, v8, rfl⟩
      walk_at "rd"
      exact k _
def d_bag : He.DefD := ⟨("_law_bag", none), "_law_bag", "_law_bag", defArgs s_bag, defBody s_bag, defScope s_bag, [], []⟩
def d_take : He.DefD := ⟨("_law_take", none), "_law_take", "_law_take", defArgs s_take, defBody s_take, defScope s_take, [], []⟩
def d_is_integer : He.DefD := ⟨("is_integer", none), "is_integer", "is_integer", defArgs s_is_integer, defBody s_is_integer, defScope s_is_integer, [], []⟩
def d_check_number : He.DefD := ⟨("check_number", none), "check_number", "check_number", defArgs s_check_number, defBody s_check_number, defScope s_check_number, [.int 0], []⟩
def d_block_sizes : He.DefD := ⟨("block_sizes", none), "block_sizes", "block_sizes", defArgs s_block_sizes, defBody s_block_sizes, defScope s_block_sizes, [], []⟩
def d_total_built : He.DefD := ⟨("total_built", none), "total_built", "total_built", defArgs s_total_built, defBody s_total_built, defScope s_total_built, [], []⟩
def d_piece_at : He.DefD := ⟨("piece_at", none), "piece_at", "piece_at", defArgs s_piece_at, defBody s_piece_at, defScope s_piece_at, [], []⟩
def d_pieces : He.DefD := ⟨("pieces", none), "pieces", "pieces", defArgs s_pieces, defBody s_pieces, defScope s_pieces, [], []⟩
def d_is_number : He.DefD := ⟨("_law_is_number", none), "_law_is_number", "_law_is_number", defArgs s_is_number, defBody s_is_number, defScope s_is_number, [], []⟩
def d_raises : He.DefD := ⟨("_law_raises", none), "_law_raises", "_law_raises", defArgs s_raises, defBody s_raises, defScope s_raises, [], []⟩
def d_thing : He.DefD := ⟨("_law_thing", none), "_law_thing", "_law_thing", defArgs s_thing, defBody s_thing, defScope s_thing, [], []⟩
def d_law : He.DefD := ⟨("law", none), "law", "law", defArgs s_law, defBody s_law, defScope s_law, [], []⟩
def fn : List He.DefD := [d_bag, d_take, d_is_integer, d_check_number, d_block_sizes, d_total_built, d_piece_at, d_pieces, d_is_number, d_raises, d_thing, d_law]
def fa : List Fx := [fFree "IndexError", fFree "LookupError", fFree "RuntimeError", fFree "ValueError", fFree "abs", fFree "bool", fFree "int", fFree "isinstance", fFree "len", fFree "min", fFree "range", fFree "sum", fInt "GREATEST" 1000000000000000000000000000000, fGlo "BadNumber", fExF "BadNumber" [.type "ValueError", .type "Exception", .type "BaseException", .type "object"] "ValueError.__new__", fExcC "BadNumber", fGlo "BadHistory", fKit "BadNumber" "BadHistory" false, fGlo "Busy", fKit "BadNumber" "Busy" false, fGlo "Empty", fKit "BadNumber" "Empty" false, fGlo "NoMember", fKit "BadNumber" "NoMember" false, fGlo "NotTorn", fKit "BadNumber" "NotTorn" false, fGlo "Torn", fKit "BadNumber" "Torn" false, fGlo "OnceError", fKit "BadNumber" "OnceError" true, fExm' "BadNumber" "BadNumber" true, fGlo "_law_bag", fGlo "_law_take", fGlo "is_integer", fGlo "check_number", fGlo "block_sizes", fGlo "total_built", fGlo "piece_at", fGlo "pieces", fGlo "_law_is_number", fGlo "_law_raises", fGlo "_law_thing", fGlo "law"]
abbrev R : PySem.W.OpenRow := PySem.W.OpenLaw.row PySem.Challenge.rw_oncebuilt_k04_bad_numbers
abbrev hk : PySem.W.Hook := hookX 6 fa fn
def ob (s : PySem.W.SharedT) : He.AlD := obsXG 6 fa fn (HandSHeadRun.getT s)
theorem ob_eq (s : PySem.W.SharedT) : ob s = hk.obs s.abs := obsXG_eq (HandSHeadRun.getT_eq s)
def loose : List Str := (["OnceError", "BadNumber", "BadHistory", "NoMember", "Empty", "Busy", "Torn", "NotTorn", "GREATEST", "is_integer", "check_number", "block_sizes", "total_built", "piece_at", "pieces", "_law_bag", "_law_take", "_law_thing", "_law_is_number", "_law_raises"] : List Str)
theorem run (w : World) : HandSHeadRun.RunEq R (PySem.W.view R.prog [23]) hk ob 20000 loose w := by
  intro os
  kernel_rfl
theorem facts {P : Program} {w : World} {K : PySem.W.Frag} {h : Heap} {mg : Str → Option Value} {f : Addr} (X : K.In h) (G : h.Ns mainGlobals mg) (hfa : mg ("law" : Str) = some (.ref f)) (c : SaysX fa fn K) :
    ∃ fd : FuncData, (∀ (s : Shared) (v : Value), BindsTo s fd ⟨[v], []⟩ [("_law_script", v)]) ∧ ∀ base : Heap, K.In base → base.Ns mainGlobals mg → FnOk P w K mg base (L2.CX P w) 5 f fd ["_law_script"] (sp_law K) := by
  obtain ⟨fd_bag, F_bag⟩ := c.def_ 0 (d := d_bag) rfl
  obtain ⟨fd_take, F_take⟩ := c.def_ 1 (d := d_take) rfl
  obtain ⟨fd_is_integer, F_is_integer⟩ := c.def_ 2 (d := d_is_integer) rfl
  obtain ⟨fd_check_number, F_check_number⟩ := c.def_ 3 (d := d_check_number) rfl
  obtain ⟨fd_block_sizes, F_block_sizes⟩ := c.def_ 4 (d := d_block_sizes) rfl
  obtain ⟨fd_total_built, F_total_built⟩ := c.def_ 5 (d := d_total_built) rfl
  obtain ⟨fd_piece_at, F_piece_at⟩ := c.def_ 6 (d := d_piece_at) rfl
  obtain ⟨fd_pieces, F_pieces⟩ := c.def_ 7 (d := d_pieces) rfl
  obtain ⟨fd_is_number, F_is_number⟩ := c.def_ 8 (d := d_is_number) rfl
  obtain ⟨fd_raises, F_raises⟩ := c.def_ 9 (d := d_raises) rfl
  obtain ⟨fd_thing, F_thing⟩ := c.def_ 10 (d := d_thing) rfl
  obtain ⟨fd_law, F_law⟩ := c.def_ 11 (d := d_law) rfl
  have e := hfa.symm.trans (He.glo_ok X G (c.fact 42 (f := fGlo "law") rfl))
  cases e
  have T : Txt K mg := ⟨(He.free_ok X G (c.fact 0)), (He.free_ok X G (c.fact 1)), (He.free_ok X G (c.fact 2)), (He.free_ok X G (c.fact 3)), (He.free_ok X G (c.fact 4)), (He.free_ok X G (c.fact 5)), (He.free_ok X G (c.fact 6)), (He.free_ok X G (c.fact 7)), (He.free_ok X G (c.fact 8)), (He.free_ok X G (c.fact 9)), (He.free_ok X G (c.fact 10)), (He.free_ok X G (c.fact 11)), (He.int_ok X G (c.fact 12)), (He.glo_ok X G (c.fact 13)), (exF_ok (c.fact 14)), (excC_ok (c.fact 15)), (He.glo_ok X G (c.fact 16)), (kit_ok' (c.fact 17)), (He.glo_ok X G (c.fact 18)), (kit_ok' (c.fact 19)), (He.glo_ok X G (c.fact 20)), (kit_ok' (c.fact 21)), (He.glo_ok X G (c.fact 22)), (kit_ok' (c.fact 23)), (He.glo_ok X G (c.fact 24)), (kit_ok' (c.fact 25)), (He.glo_ok X G (c.fact 26)), (kit_ok' (c.fact 27)), (He.glo_ok X G (c.fact 28)), (kit_ok' (c.fact 29)), (exm_ok' (c.fact 30))⟩
  have b := FunD.bindsA (ps := ["_law_script"]) F_law fun _ _ _ _ _ _ us hl => match us, hl with | [_], _ => rfl
  refine ⟨fd_law, fun s v => b s [v] rfl, fun base _ _ => ?_⟩
  have D_is_integer : Df P w K mg base 1 "is_integer" ["thing"] [] sp_is_integer := Df.of (st := s_is_integer) F_is_integer (He.glo_ok X G (c.fact 33 (f := fGlo "is_integer") rfl)) (ok_is_integer T  F_is_integer) fun _ _ _ _ _ _ us hl => match us, hl with | [_], _ => rfl
  have D_check_number_1 : Df P w K mg base 2 "check_number" ["thing", "least"] [.int 0] (sp_check_number K) := Df.ofD (st := s_check_number) F_check_number (He.glo_ok X G (c.fact 34 (f := fGlo "check_number") rfl)) (ok_check_number T D_is_integer F_check_number) 1 0 (fun z => nomatch z) rfl fun _ _ _ _ _ _ _ us its hl hi => match us, hl, its, hi with | [_], _, [_], _ => ⟨_, rfl, rfl⟩
  have D_check_number : Df P w K mg base 2 "check_number" ["thing", "least"] [] (sp_check_number K) := Df.ofD (st := s_check_number) F_check_number (He.glo_ok X G (c.fact 34 (f := fGlo "check_number") rfl)) (ok_check_number T D_is_integer F_check_number) 2 1 (fun z => nomatch z) rfl fun _ _ _ _ _ _ _ us its hl hi => match us, hl, its, hi with | [_, _], _, [_], _ => ⟨_, rfl, rfl⟩
  have D_piece_at : Df P w K mg base 1 "piece_at" ["first", "end"] [] sp_piece_at := Df.of (st := s_piece_at) F_piece_at (He.glo_ok X G (c.fact 37 (f := fGlo "piece_at") rfl)) (ok_piece_at T  F_piece_at) fun _ _ _ _ _ _ us hl => match us, hl with | [_, _], _ => rfl
  have D_block_sizes : Df P w K mg base 3 "block_sizes" ["many"] [] (sp_block_sizes K) := Df.of (st := s_block_sizes) F_block_sizes (He.glo_ok X G (c.fact 35 (f := fGlo "block_sizes") rfl)) (ok_block_sizes T D_check_number_1 F_block_sizes) fun _ _ _ _ _ _ us hl => match us, hl with | [_], _ => rfl
  have D_pieces : Df P w K mg base 3 "pieces" ["begin", "end"] [] (sp_pieces K) := Df.of (st := s_pieces) F_pieces (He.glo_ok X G (c.fact 38 (f := fGlo "pieces") rfl)) (ok_pieces T D_check_number D_check_number_1 D_piece_at F_pieces) fun _ _ _ _ _ _ us hl => match us, hl with | [_, _], _ => rfl
  have D_total_built : Df P w K mg base 3 "total_built" ["many"] [] (sp_total_built K) := Df.of (st := s_total_built) F_total_built (He.glo_ok X G (c.fact 36 (f := fGlo "total_built") rfl)) (ok_total_built T D_check_number_1 F_total_built) fun _ _ _ _ _ _ us hl => match us, hl with | [_], _ => rfl
  have D_take : Df P w K mg base 1 "_law_take" ["_law_bag_here", "_law_many"] [] sp_take := Df.of (st := s_take) F_take (He.glo_ok X G (c.fact 32 (f := fGlo "_law_take") rfl)) (ok_take T  F_take) fun _ _ _ _ _ _ us hl => match us, hl with | [_, _], _ => rfl
  have D_bag : Df P w K mg base 1 "_law_bag" ["_law_script", "_law_at"] [] (sp_bag K) := Df.of (st := s_bag) F_bag (He.glo_ok X G (c.fact 31 (f := fGlo "_law_bag") rfl)) (ok_bag T  F_bag) fun _ _ _ _ _ _ us hl => match us, hl with | [_, _], _ => rfl
  have D_is_number : Df P w K mg base 1 "_law_is_number" ["_law_thing_here"] [] sp_is_number := Df.of (st := s_is_number) F_is_number (He.glo_ok X G (c.fact 39 (f := fGlo "_law_is_number") rfl)) (ok_is_number T  F_is_number) fun _ _ _ _ _ _ us hl => match us, hl with | [_], _ => rfl
  have D_raises : Df P w K mg base 4 "_law_raises" ["_law_kind", "_law_one", "_law_other"] [] sp_raises := Df.of (st := s_raises) F_raises (He.glo_ok X G (c.fact 40 (f := fGlo "_law_raises") rfl)) (ok_raises T D_block_sizes D_pieces D_total_built F_raises) fun _ _ _ _ _ _ us hl => match us, hl with | [_, _, _], _ => rfl
  have D_thing : Df P w K mg base 2 "_law_thing" ["_law_bag_here"] [] sp_thing := Df.of (st := s_thing) F_thing (He.glo_ok X G (c.fact 41 (f := fGlo "_law_thing") rfl)) (ok_thing T D_take F_thing) fun _ _ _ _ _ _ us hl => match us, hl with | [_], _ => rfl
  exact ok_law T D_bag D_is_number D_raises D_thing F_law
end K04
open PySem PySem.W PySem.Calls PyProof.Rows
theorem PySem.Challenge.cw_oncebuilt_k04_bad_numbers_holds : PySem.Challenge.rw_oncebuilt_k04_bad_numbers.Holds := by
  w_on; o_law
  refine HandSHeadRun.head_any (r := OpenLaw.row PySem.Challenge.rw_oncebuilt_k04_bad_numbers) (q := view (OpenLaw.row PySem.Challenge.rw_oncebuilt_k04_bad_numbers).prog [23]) (H := K04.hk) (ob := K04.ob) (M := 20000) (loose := K04.loose) (d := HandSHeadRun.topDef (OpenLaw.row PySem.Challenge.rw_oncebuilt_k04_bad_numbers).prog 23) (kwd := []) K04.ob_eq
    (by kernel_rfl) (fun s => by kernel_rfl) K04.run (by kernel_rfl) (by kernel_rfl) (by kernel_rfl) (by rfl) (by first | assumption | decide +kernel) (by decide +kernel) ⟨rfl, rfl, rfl, rfl, rfl, by decide +kernel⟩ ?hw ?hc
  case hw => w_witness2
  case hc =>
    refine G.walk_ofG (l := PySem.Challenge.rw_oncebuilt_k04_bad_numbers) (n := 63) (k := 5) (x := "_law_script") rfl (by decide) (by kernel_rfl) ⟨rfl, by decide, by decide⟩ ?F
    intro w mg fa h Y G hmg0
    obtain ⟨K, KX, c⟩ := Y
    have hmg : mg ("law" : PySem.Str) = some (.ref fa) := by
      have e : (HandSHeadRun.topDef (OpenLaw.row PySem.Challenge.rw_oncebuilt_k04_bad_numbers).prog 23).name = ("law" : PySem.Str) := by kernel_rfl
      rw [← e]
      exact hmg0
    obtain ⟨fd, hb, hF⟩ := K04.facts (P := (PySem.Challenge.rw_oncebuilt_k04_bad_numbers).prog) (w := w) KX G hmg c
    exact ⟨K, fd, (K04.sp_law K), KX, hb, fun H a ns hl hbits _ hS => ⟨a, ns, rfl, hS, hl, hbits, fun _ => rfl⟩, hF⟩
