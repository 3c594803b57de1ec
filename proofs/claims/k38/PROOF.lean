import PyProof.Rows.All
import Wide.All
import OpenK.AllK
import Wide.FinOn
import HandS.ForMost
import HandS.Wide
import HandS.Conv
import HandS.TupAny
import HandS.Deep
import HandS.DictTup
import HandS.ListEq
import HandS.SetKeys
import HandS.TupLen
import HandS.MakeKw
import HandS.Defaults
import HandS.Head0
import HandS.Head1
import HandS.Head2
import HandS.HeadEnd
import HandS.HeadHook1
import HandS.HeadHook2
import KE.KDictDisplayH
import PyProof.DictMoreH
import PyProof.DictTable
import PyProof.P3In
import KE.DataMinMax
import PySem.Challenge.RW_mingleway_k38_whole_reach_grows_and_fall
set_option Elab.async false
set_option linter.all false
set_option maxRecDepth 100000
set_option maxHeartbeats 4000000
namespace L2.Ng
open PySem PySem.Spec PyProof.Rows
/-! ### calls by positional arguments and keywords, one structure for all shapes -/
/-- places: 0 a positional value, 1 a default, 2 a keyword's value -/
def pick {α : Type} (ix : List (Nat × Nat)) (us ds ws : List α) : List α := ix.filterMap fun p => match p.1 with
  | 0 => us[p.2]?
  | 1 => ds[p.2]?
  | _ => ws[p.2]?
theorem vals_pick {vs ds zs : List V} {us es ws : List Value} (r1 : Vals vs us) (r2 : Vals ds es) (r3 : Vals zs ws) : ∀ ix : List (Nat × Nat), Vals (pick ix vs ds zs) (pick ix us es ws)
  | [] => .nil
  | (a, b) :: ix => by
    have ih := vals_pick r1 r2 r3 ix
    have one : ∀ {xs : List V} {ys : List Value}, Vals xs ys → (∃ x y, xs[b]? = some x ∧ ys[b]? = some y ∧ RelV x y) ∨ (xs[b]? = none ∧ ys[b]? = none) := fun {xs ys} r => by
      cases e : xs[b]? with
      | none => exact .inr ⟨rfl, r.none_of e⟩
      | some x =>
        obtain ⟨u, h1, h2⟩ := r.get e
        exact .inl ⟨x, u, rfl, h1, h2⟩
    unfold pick at ih ⊢
    match a with
    | 0 =>
      rcases one r1 with ⟨x, y, e1, e2, r⟩ | ⟨e1, e2⟩
      · simp only [List.filterMap_cons, e1, e2]
        exact .cons r ih
      · simp only [List.filterMap_cons, e1, e2]
        exact ih
    | 1 =>
      rcases one r2 with ⟨x, y, e1, e2, r⟩ | ⟨e1, e2⟩
      · simp only [List.filterMap_cons, e1, e2]
        exact .cons r ih
      · simp only [List.filterMap_cons, e1, e2]
        exact ih
    | n + 2 =>
      rcases one r3 with ⟨x, y, e1, e2, r⟩ | ⟨e1, e2⟩
      · simp only [List.filterMap_cons, e1, e2]
        exact .cons r ih
      · simp only [List.filterMap_cons, e1, e2]
        exact ih
structure FnA (P : Program) (w : World) (K : PySem.W.Frag) (mg : Str → Option Value) (base : Heap) (CX : CXT) (k : Nat) (f : Addr) (n : Nat) (ks : List Str) (gV : List V → List V → List V) (sp : Sp) : Prop where
  ex : ∃ (fd : FuncData) (ps : List Str) (g : List Value → List Value → List Value), KBn K fd ps n ks g gV ∧ FnOk P w K mg base CX k f fd ps sp
  kp : PySem.W.keepIn K (.ref f) = true
abbrev gPos : List V → List V → List V := fun vs _ => vs
section
variable {P : Program} {w : World} {K : PySem.W.Frag} {mg : Str → Option Value} {base : Heap} {CX : CXT} {k : Nat} {f : Addr} {fd : FuncData} {ps : List Str} {sp : Sp} {x qual : Str} {params : Arguments} {body : List Stmt} {scope : Scope} {dvs : List V} {kws : List (Str × V)}
/-- every parameter given by place -/
theorem FnA.pos (F : FunD K x qual params body scope [] kws f fd) (G : FnOk P w K mg base CX k f fd ps sp) (n : Nat)
    (h : ∀ (kV doc pm : Value) (an : Option Addr) (cdv ct : Value) (us : List Value), us.length = n → bindArgs (PySem.W.fnOf x qual params body scope .none kV doc pm an cdv ct) ⟨us, []⟩ = pure (ps.zip us)) : FnA P w K mg base CX k f n [] gPos sp := by
  obtain ⟨oc, od, dV, kV, doc, pm, an, cdv, ct, osl, rfl, lk, hcd, hD, hK⟩ := F.ex
  rcases hD with ⟨_, rfl⟩ | ⟨e, _⟩
  · exact ⟨⟨_, ps, fun us _ => us, ⟨fun s us ws X l1 l2 => .of_eq (by
      have := h kV doc pm an cdv ct us l1
      simpa using this), fun r1 _ => r1⟩, G⟩, F.kp⟩
  · exact absurd rfl e
/-- some by keywords; all given, no positional default -/
theorem FnA.kw (F : FunD K x qual params body scope [] kws f fd) (G : FnOk P w K mg base CX k f fd ps sp) (n : Nat) (ks : List Str) (ix : List (Nat × Nat))
    (h : ∀ (kV doc pm : Value) (an : Option Addr) (cdv ct : Value) (us ws : List Value), us.length = n → ws.length = ks.length → bindArgs (PySem.W.fnOf x qual params body scope .none kV doc pm an cdv ct) ⟨us, ks.zip ws⟩ = pure (ps.zip (pick ix us [] ws))) :
    FnA P w K mg base CX k f n ks (fun vs zs => pick ix vs [] zs) sp := by
  obtain ⟨oc, od, dV, kV, doc, pm, an, cdv, ct, osl, rfl, lk, hcd, hD, hK⟩ := F.ex
  rcases hD with ⟨_, rfl⟩ | ⟨e, _⟩
  · exact ⟨⟨_, ps, fun us ws => pick ix us [] ws, ⟨fun s us ws X l1 l2 => .of_eq (h kV doc pm an cdv ct us ws l1 l2), fun r1 r2 => vals_pick r1 .nil r2 ix⟩, G⟩, F.kp⟩
  · exact absurd rfl e
/-- keyword-only ones lack (ms), no positional default -/
theorem FnA.kd (F : FunD K x qual params body scope [] kws f fd) (G : FnOk P w K mg base CX k f fd ps sp) (n : Nat) (ks : List Str) (ms : List (Str × V)) (ix : List (Nat × Nat)) (hk : kws ≠ []) (hms : ∀ q ∈ ms, q ∈ kws)
    (h : ∀ (D : Addr) (doc pm : Value) (an : Option Addr) (cdv ct : Value) (us mv ws : List Value), us.length = n → mv.length = ms.length → ws.length = ks.length →
      KwChain D ((ms.map (·.1)).zip mv) (bindArgs (PySem.W.fnOf x qual params body scope .none (.ref D) doc pm an cdv ct) ⟨us, ks.zip ws⟩) (ps.zip (pick ix us mv ws))) :
    FnA P w K mg base CX k f n ks (fun vs zs => pick ix vs (ms.map (·.2)) zs) sp := by
  obtain ⟨oc, od, dV, kV, doc, pm, an, cdv, ct, osl, rfl, lk, hcd, hD, hK⟩ := F.ex
  rcases hD with ⟨_, rfl⟩ | ⟨e, _⟩
  · rcases hK with e | ⟨D, rfl, hq⟩
    · exact absurd e hk
    · obtain ⟨mv, hl, rk, hks⟩ := kwd_vals (ms := ms) fun q hm => hq q (hms q hm)
      refine ⟨⟨_, ps, fun us ws => pick ix us mv ws, ⟨fun s us ws X l1 l2 => ?_, fun r1 r2 => vals_pick r1 rk r2 ix⟩, G⟩, F.kp⟩
      exact BindsTo.of_looks fun M => KwChain.looks X hks (h D doc pm an cdv ct us mv ws l1 hl l2)
  · exact absurd rfl e
/-- positional defaults, no keyword-only ones -/
theorem FnA.pd (F : FunD K x qual params body scope dvs kws f fd) (G : FnOk P w K mg base CX k f fd ps sp) (n : Nat) (ks : List Str) (ix : List (Nat × Nat)) (hd : dvs ≠ [])
    (h : ∀ (T : Addr) (kV doc pm : Value) (an : Option Addr) (cdv ct : Value) (us its ws : List Value), us.length = n → its.length = dvs.length → ws.length = ks.length →
      ∃ k, bindArgs (PySem.W.fnOf x qual params body scope (.ref T) kV doc pm an cdv ct) ⟨us, ks.zip ws⟩ = seqItems? (.ref T) >>= k ∧ k (some its.toArray) = pure (ps.zip (pick ix us its ws))) :
    FnA P w K mg base CX k f n ks (fun vs zs => pick ix vs dvs zs) sp := by
  obtain ⟨oc, od, dV, kV, doc, pm, an, cdv, ct, osl, rfl, lk, hcd, hD, hK⟩ := F.ex
  rcases hD with ⟨e, _⟩ | ⟨_, T, o, its, m, rfl, lT, oT, rT⟩
  · exact absurd e hd
  · refine ⟨⟨_, ps, fun us ws => pick ix us its ws, ⟨fun s us ws X l1 l2 => ?_, fun r1 r2 => vals_pick r1 rT r2 ix⟩, G⟩, F.kp⟩
    obtain ⟨k, e1, e2⟩ := h T kV doc pm an cdv ct us its ws l1 rT.length.symm l2
    refine BindsTo.of_looks fun M => ?_
    rw [e1]
    exact looks_items X lT oT (.of_pure e2)
end
def tFn (n m : Nat) (sp : Sp) (gV : List V → List V → List V) (E : XK) (t tk : TA) : TE := fun σ H Q => t σ H fun vs H1 => tk σ H1 fun zs H2 => vs.length = n ∧ zs.length = m ∧ sp (gV vs zs) H2 Q E
def tMt (C : Addr) (nm : Str) (n m : Nat) (sp : Sp) (gV : List V → List V → List V) (E : XK) (to : TE) (t tk : TA) : TE := fun σ H Q => to σ H fun x H1 => ∃ a dx fs, x = .ref a ∧ H1 a = some (.ins C dx fs) ∧ fs.lookup nm = none ∧
  t σ H1 fun vs H2 => tk σ H2 fun zs H3 => vs.length + 1 = n ∧ zs.length = m ∧ sp (gV (x :: vs) zs) H3 Q E
def tNw (C : Addr) (n m : Nat) (sp : Sp) (gV : List V → List V → List V) (E : XK) (t tk : TA) : TE := fun σ H Q => t σ H fun vs H1 => tk σ H1 fun zs H2 => vs.length + 1 = n ∧ zs.length = m ∧ ∀ x dx, H2 x = none → H2 dx = none → dx ≠ x →
  sp (gV (.ref x :: vs) zs) (upd (upd H2 dx (.own x)) x (.ins C dx [])) (fun v H3 => v = .non ∧ Q (.ref x) H3) E
section
variable {X : Cx} {CX : CXT} {k n : Nat} {f C : Addr} {ks : List Str} {sp : Sp} {E : XK} {x nm : Str} {p pos apos : Pos} {e o : Expr} {es : List Expr} {kws : List Keyword} {to : TE} {t tk : TA} {gV : List V → List V → List V}
theorem run_fnA {pins : List (Addr × Obj)} {σ : St} {H : Hp} {s : Shared} {Q : VK} {us ws : List Value} {vs zs : List V} (F : FnA X.prog X.w X.K X.mg X.base CX k f n ks gV sp) (hr : Room k X.A) (hx : Passes CX X E)
    (I : Inv X pins σ H s) (r : Vals vs us) (rz : Vals zs ws) (l1 : vs.length = n) (l2 : zs.length = ks.length) (h : sp (gV vs zs) H Q E) : wpAny (model X.prog X.w) X.A (call (.ref f) us (ks.zip ws)) (EP X pins σ Q) X.xe s := by
  obtain ⟨fd, ps, g, hb, G⟩ := F.ex
  exact run_fnN G hr hb hx I r rz l1 l2 h
/-- f(e, ..) -/
theorem pe_f (F : FnA X.prog X.w X.K X.mg X.base CX k f n [] gV sp) (hr : Room k X.A) (hg : Gl X x) (hm : X.mg x = some (.ref f)) (hx : Passes CX X E)
    (ha : PA X (e :: es) t) (hdb : (x == ("__debug__" : Str)) = false := by decide) (he : starEach (e :: es) X.env = (false, eval e X.env) :: starEach es X.env := by rfl) (hpl : (backTo pos (starEach es X.env)).any (·.1) = false := by rfl) :
    PE X (.Call (.Name x p) (e :: es) [] pos) (tFn n 0 sp gV E t tNil) := by
  refine ⟨fun pins s σ H Q I h => ?_⟩
  refine wpAny_Call_Name_kw (ld_glob I hg hm ?_ hdb)
  refine PySem.W.callWith_K (h₀ := X.base) I.ok.mod.kin F.kp (thn (ha.run pos pins s σ H _ I h) fun us s1 ⟨vs, H1, I1, r, l1, l2, q⟩ => ⟨I1.kIn, ?_⟩) he hpl
  exact run_fnA (ws := []) F hr hx I1 r .nil l1 l2 q
theorem pe_f0 (F : FnA X.prog X.w X.K X.mg X.base CX k f n [] gV sp) (hr : Room k X.A) (hg : Gl X x) (hm : X.mg x = some (.ref f)) (hx : Passes CX X E)
    (hdb : (x == ("__debug__" : Str)) = false := by decide) : PE X (.Call (.Name x p) [] [] pos) (tFn n 0 sp gV E tNil tNil) := by
  refine ⟨fun pins s σ H Q I h => ?_⟩
  obtain ⟨l1, l2, q⟩ := h
  refine wpAny_Call_Name_kw (ld_glob I hg hm ?_ hdb)
  exact PySem.W.callWith_K0 I.kIn F.kp (run_fnA (us := []) (ws := []) F hr hx I .nil .nil l1 l2 q)
/-- f(e, .., k = v, ..) -/
theorem pe_fk (F : FnA X.prog X.w X.K X.mg X.base CX k f n ks gV sp) (hr : Room k X.A) (hg : Gl X x) (hm : X.mg x = some (.ref f)) (hx : Passes CX X E)
    (ha : PA X (e :: es) t) (hkw : PK X kws tk) (hall : (backToKw pos (keywordEach kws X.env)).all (·.1.isSome) = true := by rfl) (hks : (backToKw pos (keywordEach kws X.env)).filterMap (·.1) = ks := by rfl)
    (hdb : (x == ("__debug__" : Str)) = false := by decide) (he : starEach (e :: es) X.env = (false, eval e X.env) :: starEach es X.env := by rfl)
    (hpl : ((backTo pos (starEach (e :: es) X.env)).any (·.1) || (backToKw pos (keywordEach kws X.env)).any (·.1.isNone)) = false := by rfl) :
    PE X (.Call (.Name x p) (e :: es) kws pos) (tFn n ks.length sp gV E t tk) := by
  refine ⟨fun pins s σ H Q I h => ?_⟩
  refine wpAny_Call_Name_kw (ld_glob I hg hm ?_ hdb)
  refine PySem.W.callWith_KW (h₀ := X.base) I.ok.mod.kin F.kp hall (thn (ha.run pos pins s σ H _ I h) fun us s1 ⟨vs, H1, I1, r, q⟩ => ?_) hpl he
  refine thn (hkw.run pos pins s1 σ H1 _ I1 q) fun ws s2 ⟨zs, H2, I2, rz, l1, l2, q2⟩ => ⟨I2.kIn, ?_⟩
  rw [hks]
  exact run_fnA F hr hx I2 r rz l1 l2 q2
/-- f(k = v, ..) -/
theorem pe_fk0 (F : FnA X.prog X.w X.K X.mg X.base CX k f n ks gV sp) (hr : Room k X.A) (hg : Gl X x) (hm : X.mg x = some (.ref f)) (hx : Passes CX X E)
    (hkw : PK X kws tk) (hall : (backToKw pos (keywordEach kws X.env)).all (·.1.isSome) = true := by rfl) (hks : (backToKw pos (keywordEach kws X.env)).filterMap (·.1) = ks := by rfl)
    (hdb : (x == ("__debug__" : Str)) = false := by decide)
    (hpl : ((backTo pos (starEach [] X.env)).any (·.1) || (backToKw pos (keywordEach kws X.env)).any (·.1.isNone)) = false := by rfl) :
    PE X (.Call (.Name x p) [] kws pos) (tFn n ks.length sp gV E tNil tk) := by
  refine ⟨fun pins s σ H Q I h => ?_⟩
  refine wpAny_Call_Name_kw (ld_glob I hg hm ?_ hdb)
  refine PySem.W.callWith_KW0 (h₀ := X.base) I.ok.mod.kin F.kp hall ?_ hpl
  refine thn (hkw.run pos pins s σ H _ I h) fun ws s2 ⟨zs, H2, I2, rz, l1, l2, q2⟩ => ⟨I2.kIn, ?_⟩
  rw [hks]
  exact run_fnA (us := []) F hr hx I2 .nil rz l1 l2 q2
/-- o.m(e, ..) -/
theorem pe_o {pl : Sem Bool} (he : PE X o to) (c : Cls X.K C) (hm : Meth X.K C nm f) (F : FnA X.prog X.w X.K X.mg X.base CX k f n [] gV sp) (hr : Room k X.A) (hx : Passes CX X E) (ha : PA X (e :: es) t)
    (hst : starEach (e :: es) X.env = (false, eval e X.env) :: starEach es X.env := by rfl) (hpl : (backTo pos (starEach es X.env)).any (·.1) = false := by rfl)
    (ht : eval (.Call (.Attribute o nm apos) (e :: es) [] pos) X.env = (do
      let ov ← eval o X.env
      standAt apos.atName
      let (f, first) ← holding [ov] (getMethod ov nm pl)
      callWith pos f first (backTo pos (starEach (e :: es) X.env)) (backToKw pos (keywordEach [] X.env))) := by rfl) :
    PE X (.Call (.Attribute o nm apos) (e :: es) [] pos) (tMt C nm n 0 sp gV E to t tNil) := by
  refine ⟨fun pins s σ H Q I h => ?_⟩
  refine PySem.W.methodCall_KW (pl := pl) (thn (he.run pins s σ H _ I h) fun u s1 ⟨x, H1, I1, rx, a, dx, fs, ex, ea, l, q⟩ => ?_) ht
  subst ex
  obtain rfl : u = Value.ref a := rx
  refine getmeth_ok I1 ea c hm l ?_
  refine PySem.W.callWith_K (first := [.ref a]) (h₀ := X.base) I.ok.mod.kin F.kp (thn (ha.run pos pins s1 σ H1 _ I1 q) fun us s2 ⟨vs, H2, I2, r, l1, l2, q2⟩ => ⟨I2.kIn, ?_⟩) hst hpl
  exact run_fnA (us := .ref a :: us) (ws := []) (vs := .ref a :: vs) F hr hx I2 (.cons rfl r) .nil l1 l2 q2
/-- o.m() -/
theorem pe_o0 {pl : Sem Bool} (he : PE X o to) (c : Cls X.K C) (hm : Meth X.K C nm f) (F : FnA X.prog X.w X.K X.mg X.base CX k f n [] gV sp) (hr : Room k X.A) (hx : Passes CX X E)
    (ht : eval (.Call (.Attribute o nm apos) [] [] pos) X.env = (do
      let ov ← eval o X.env
      standAt apos.atName
      let (f, first) ← holding [ov] (getMethod ov nm pl)
      callWith pos f first (backTo pos (starEach [] X.env)) (backToKw pos (keywordEach [] X.env))) := by rfl) :
    PE X (.Call (.Attribute o nm apos) [] [] pos) (tMt C nm n 0 sp gV E to tNil tNil) := by
  refine ⟨fun pins s σ H Q I h => ?_⟩
  refine PySem.W.methodCall_KW (pl := pl) (thn (he.run pins s σ H _ I h) fun u s1 ⟨x, H1, I1, rx, a, dx, fs, ex, ea, l, l1, l2, q⟩ => ?_) ht
  subst ex
  obtain rfl : u = Value.ref a := rx
  refine getmeth_ok I1 ea c hm l ?_
  exact PySem.W.callWith_K0 (first := [.ref a]) I1.kIn F.kp (run_fnA (us := [.ref a]) (ws := []) (vs := [.ref a]) F hr hx I1 (.cons rfl .nil) .nil l1 l2 q)
/-- o.m(e, .., k = v, ..) -/
theorem pe_ok {pl : Sem Bool} (he : PE X o to) (c : Cls X.K C) (hm : Meth X.K C nm f) (F : FnA X.prog X.w X.K X.mg X.base CX k f n ks gV sp) (hr : Room k X.A) (hx : Passes CX X E) (ha : PA X (e :: es) t) (hkw : PK X kws tk)
    (hall : (backToKw pos (keywordEach kws X.env)).all (·.1.isSome) = true := by rfl) (hks : (backToKw pos (keywordEach kws X.env)).filterMap (·.1) = ks := by rfl)
    (hst : starEach (e :: es) X.env = (false, eval e X.env) :: starEach es X.env := by rfl) (hpl : ((backTo pos (starEach (e :: es) X.env)).any (·.1) || (backToKw pos (keywordEach kws X.env)).any (·.1.isNone)) = false := by rfl)
    (ht : eval (.Call (.Attribute o nm apos) (e :: es) kws pos) X.env = (do
      let ov ← eval o X.env
      standAt apos.atName
      let (f, first) ← holding [ov] (getMethod ov nm pl)
      callWith pos f first (backTo pos (starEach (e :: es) X.env)) (backToKw pos (keywordEach kws X.env))) := by rfl) :
    PE X (.Call (.Attribute o nm apos) (e :: es) kws pos) (tMt C nm n ks.length sp gV E to t tk) := by
  refine ⟨fun pins s σ H Q I h => ?_⟩
  refine PySem.W.methodCall_KW (pl := pl) (thn (he.run pins s σ H _ I h) fun u s1 ⟨x, H1, I1, rx, a, dx, fs, ex, ea, l, q⟩ => ?_) ht
  subst ex
  obtain rfl : u = Value.ref a := rx
  refine getmeth_ok I1 ea c hm l ?_
  refine PySem.W.callWith_KW (first := [.ref a]) (h₀ := X.base) I.ok.mod.kin F.kp hall (thn (ha.run pos pins s1 σ H1 _ I1 q) fun us s2 ⟨vs, H2, I2, r, q2⟩ => ?_) hpl hst
  refine thn (hkw.run pos pins s2 σ H2 _ I2 q2) fun ws s3 ⟨zs, H3, I3, rz, l1, l2, q3⟩ => ⟨I3.kIn, ?_⟩
  rw [hks]
  exact run_fnA (us := .ref a :: us) (vs := .ref a :: vs) F hr hx I3 (.cons rfl r) rz l1 l2 q3
/-- o.m(k = v, ..) -/
theorem pe_ok0 {pl : Sem Bool} (he : PE X o to) (c : Cls X.K C) (hm : Meth X.K C nm f) (F : FnA X.prog X.w X.K X.mg X.base CX k f n ks gV sp) (hr : Room k X.A) (hx : Passes CX X E) (hkw : PK X kws tk)
    (hall : (backToKw pos (keywordEach kws X.env)).all (·.1.isSome) = true := by rfl) (hks : (backToKw pos (keywordEach kws X.env)).filterMap (·.1) = ks := by rfl)
    (hpl : ((backTo pos (starEach [] X.env)).any (·.1) || (backToKw pos (keywordEach kws X.env)).any (·.1.isNone)) = false := by rfl)
    (ht : eval (.Call (.Attribute o nm apos) [] kws pos) X.env = (do
      let ov ← eval o X.env
      standAt apos.atName
      let (f, first) ← holding [ov] (getMethod ov nm pl)
      callWith pos f first (backTo pos (starEach [] X.env)) (backToKw pos (keywordEach kws X.env))) := by rfl) :
    PE X (.Call (.Attribute o nm apos) [] kws pos) (tMt C nm n ks.length sp gV E to tNil tk) := by
  refine ⟨fun pins s σ H Q I h => ?_⟩
  refine PySem.W.methodCall_KW (pl := pl) (thn (he.run pins s σ H _ I h) fun u s1 ⟨x, H1, I1, rx, a, dx, fs, ex, ea, l, q⟩ => ?_) ht
  subst ex
  obtain rfl : u = Value.ref a := rx
  refine getmeth_ok I1 ea c hm l ?_
  refine PySem.W.callWith_KW0 (first := [.ref a]) (h₀ := X.base) I.ok.mod.kin F.kp hall ?_ hpl
  refine thn (hkw.run pos pins s1 σ H1 _ I1 q) fun ws s3 ⟨zs, H3, I3, rz, l1, l2, q3⟩ => ⟨I3.kIn, ?_⟩
  rw [hks]
  exact run_fnA (us := [.ref a]) (vs := [.ref a]) F hr hx I3 (.cons rfl .nil) rz l1 l2 q3
theorem run_makeA {pins : List (Addr × Obj)} {σ : St} {H : Hp} {s : Shared} {Q : VK} {us ws : List Value} {vs zs : List V} (M : Mk X.K C f) (F : FnA X.prog X.w X.K X.mg X.base CX k f n ks gV sp) (hr : Room (k + 1) X.A) (hx : Passes CX X E) (I : Inv X pins σ H s) (r : Vals vs us) (rz : Vals zs ws) (l1 : vs.length + 1 = n) (l2 : zs.length = ks.length)
    (h : ∀ x dx, H x = none → H dx = none → dx ≠ x → sp (gV (.ref x :: vs) zs) (upd (upd H dx (.own x)) x (.ins C dx [])) (fun v H2 => v = .non ∧ Q (.ref x) H2) E) :
    wpAny (model X.prog X.w) X.A (call (.ref C) us (ks.zip ws)) (EP X pins σ Q) X.xe s := by
  obtain ⟨fd, ps, g, hb, G⟩ := F.ex
  have hq := h (s.heap.objs.size + 1) s.heap.objs.size (I.hok.fresh (Nat.le_succ _)) (I.hok.fresh (Nat.le_refl _)) (Nat.ne_of_lt (Nat.lt_succ_self _))
  have I2 := Inv.made (C := C) I
  have r1 : Vals (V.ref (s.heap.objs.size + 1) :: vs) (Value.ref (s.heap.objs.size + 1) :: us) := .cons rfl r
  have r2 := hb.rel r1 rz
  have n1 : (Value.ref (s.heap.objs.size + 1) :: us).length = n := by
    rw [List.length_cons, ← r.length, l1]
  refine wpAny_call (make_map (f := f) I.kIn M.makes M.init (beq_iff_eq.mp M.fn) (codeAny_mono (G.run _ X.stack _ _ ⟨Value.ref (s.heap.objs.size + 1) :: us, ks.zip ws⟩ (g (Value.ref (s.heap.objs.size + 1) :: us) ws) _ _ E (hr.make C us (ks.zip ws))
    (I2.env0.make C us (ks.zip ws)) (hb.to _ (Value.ref (s.heap.objs.size + 1) :: us) ws I2.kIn n1 (rz.length.symm.trans l2)) r2 hq) fun r s' hq' => ?_))
  cases r with
  | error e => exact hx pins σ _ _ e s' I2 hq'
  | ok fl =>
    cases fl with
    | ret u =>
      obtain ⟨v, H', I3, rv, ev, q3⟩ := I2.after hq'
      subst ev
      exact ⟨rv, ⟨V.ref (s.heap.objs.size + 1), H', I3, rfl, q3⟩⟩
    | next => exact False.elim hq'
    | brk => exact False.elim hq'
    | cont => exact False.elim hq'
theorem pe_c (M : Mk X.K C f) (F : FnA X.prog X.w X.K X.mg X.base CX k f n [] gV sp) (hr : Room (k + 1) X.A) (hg : Gl X x) (hm : X.mg x = some (.ref C)) (hx : Passes CX X E)
    (ha : PA X (e :: es) t) (hdb : (x == ("__debug__" : Str)) = false := by decide) (he : starEach (e :: es) X.env = (false, eval e X.env) :: starEach es X.env := by rfl) (hpl : (backTo pos (starEach es X.env)).any (·.1) = false := by rfl) :
    PE X (.Call (.Name x p) (e :: es) [] pos) (tNw C n 0 sp gV E t tNil) := by
  refine ⟨fun pins s σ H Q I h => ?_⟩
  refine wpAny_Call_Name_kw (ld_glob I hg hm ?_ hdb)
  refine PySem.W.callWith_K (h₀ := X.base) I.ok.mod.kin M.kp (thn (ha.run pos pins s σ H _ I h) fun us s1 ⟨vs, H1, I1, r, l1, l2, q⟩ => ⟨I1.kIn, ?_⟩) he hpl
  exact run_makeA (ws := []) M F hr hx I1 r .nil l1 l2 q
theorem pe_c0 (M : Mk X.K C f) (F : FnA X.prog X.w X.K X.mg X.base CX k f n [] gV sp) (hr : Room (k + 1) X.A) (hg : Gl X x) (hm : X.mg x = some (.ref C)) (hx : Passes CX X E)
    (hdb : (x == ("__debug__" : Str)) = false := by decide) : PE X (.Call (.Name x p) [] [] pos) (tNw C n 0 sp gV E tNil tNil) := by
  refine ⟨fun pins s σ H Q I h => ?_⟩
  obtain ⟨l1, l2, q⟩ := h
  refine wpAny_Call_Name_kw (ld_glob I hg hm ?_ hdb)
  exact PySem.W.callWith_K0 I.kIn M.kp (run_makeA (us := []) (ws := []) M F hr hx I .nil .nil l1 l2 q)
theorem pe_ck (M : Mk X.K C f) (F : FnA X.prog X.w X.K X.mg X.base CX k f n ks gV sp) (hr : Room (k + 1) X.A) (hg : Gl X x) (hm : X.mg x = some (.ref C)) (hx : Passes CX X E)
    (ha : PA X (e :: es) t) (hkw : PK X kws tk) (hall : (backToKw pos (keywordEach kws X.env)).all (·.1.isSome) = true := by rfl) (hks : (backToKw pos (keywordEach kws X.env)).filterMap (·.1) = ks := by rfl)
    (hdb : (x == ("__debug__" : Str)) = false := by decide) (he : starEach (e :: es) X.env = (false, eval e X.env) :: starEach es X.env := by rfl)
    (hpl : ((backTo pos (starEach (e :: es) X.env)).any (·.1) || (backToKw pos (keywordEach kws X.env)).any (·.1.isNone)) = false := by rfl) :
    PE X (.Call (.Name x p) (e :: es) kws pos) (tNw C n ks.length sp gV E t tk) := by
  refine ⟨fun pins s σ H Q I h => ?_⟩
  refine wpAny_Call_Name_kw (ld_glob I hg hm ?_ hdb)
  refine PySem.W.callWith_KW (h₀ := X.base) I.ok.mod.kin M.kp hall (thn (ha.run pos pins s σ H _ I h) fun us s1 ⟨vs, H1, I1, r, q⟩ => ?_) hpl he
  refine thn (hkw.run pos pins s1 σ H1 _ I1 q) fun ws s2 ⟨zs, H2, I2, rz, l1, l2, q2⟩ => ⟨I2.kIn, ?_⟩
  rw [hks]
  exact run_makeA M F hr hx I2 r rz l1 l2 q2
theorem pe_ck0 (M : Mk X.K C f) (F : FnA X.prog X.w X.K X.mg X.base CX k f n ks gV sp) (hr : Room (k + 1) X.A) (hg : Gl X x) (hm : X.mg x = some (.ref C)) (hx : Passes CX X E)
    (hkw : PK X kws tk) (hall : (backToKw pos (keywordEach kws X.env)).all (·.1.isSome) = true := by rfl) (hks : (backToKw pos (keywordEach kws X.env)).filterMap (·.1) = ks := by rfl)
    (hdb : (x == ("__debug__" : Str)) = false := by decide)
    (hpl : ((backTo pos (starEach [] X.env)).any (·.1) || (backToKw pos (keywordEach kws X.env)).any (·.1.isNone)) = false := by rfl) :
    PE X (.Call (.Name x p) [] kws pos) (tNw C n ks.length sp gV E tNil tk) := by
  refine ⟨fun pins s σ H Q I h => ?_⟩
  refine wpAny_Call_Name_kw (ld_glob I hg hm ?_ hdb)
  refine PySem.W.callWith_KW0 (h₀ := X.base) I.ok.mod.kin M.kp hall ?_ hpl
  refine thn (hkw.run pos pins s σ H _ I h) fun ws s2 ⟨zs, H2, I2, rz, l1, l2, q2⟩ => ⟨I2.kIn, ?_⟩
  rw [hks]
  exact run_makeA (us := []) (vs := []) M F hr hx I2 .nil rz l1 l2 q2
end
/-! ### the head's facts as plain tests of the written part -/
def obsB (fa : List (PySem.W.Frag → Bool)) (fn : List He.DefD) (K : PySem.W.Frag) : He.AlD := ((fa.all fun f => f K) && fn.all fun d => d.ok K, fn.map fun d => He.fnW K d.at_)
def SaysB (fa : List (PySem.W.Frag → Bool)) (fn : List He.DefD) (K : PySem.W.Frag) : Prop := obsB fa fn K = He.valD fn
def obsBG (n : Nat) (fa : List (PySem.W.Frag → Bool)) (fn : List He.DefD) (g : Addr → Option Obj) : He.AlD := obsB fa fn (He.frG g (He.asD g n))
def hookB (n : Nat) (fa : List (PySem.W.Frag → Bool)) (fn : List He.DefD) : PySem.W.Hook where
  α := He.AlD
  obs := fun s => obsBG n fa fn s.heap.get?
  val := fun _ => He.valD fn
  says := fun _ h => ∃ K : PySem.W.Frag, K.In h ∧ SaysB fa fn K
  of := fun _ _ e => ⟨_, He.frG_in, e⟩
  keeps := fun _ _ _ ⟨K, hK, c⟩ k => ⟨K, PySem.W.Frag.In.keeps hK k, c⟩
theorem obsBG_eq {n : Nat} {fa : List (PySem.W.Frag → Bool)} {fn : List He.DefD} {g : Addr → Option Obj} {s : Shared} (h : ∀ a, g a = s.heap.get? a) : obsBG n fa fn g = (hookB n fa fn).obs s := by
  have e : g = s.heap.get? := funext h
  rw [e] <;> rfl
section
variable {fa : List (PySem.W.Frag → Bool)} {fn : List He.DefD} {K : PySem.W.Frag}
theorem SaysB.fact (c : SaysB fa fn K) (i : Nat) {f : PySem.W.Frag → Bool} (h : fa[i]? = some f := by rfl) : f K = true := by
  have c1 := (He.ba (show ((fa.all fun f => f K) && fn.all fun d => d.ok K) = true from congrArg (fun z : He.AlD => z.1) c)).1
  exact List.all_eq_true.mp c1 f (List.mem_of_getElem? h)
theorem SaysB.def_ (c : SaysB fa fn K) (i : Nat) {d : He.DefD} (h : fn[i]? = some d := by rfl) : ∃ fd, FunD K d.name d.qual d.params d.body d.scope (d.dvs K) (d.kws K) (He.fAd K d.at_) fd := by
  have c2 := (He.ba (show ((fa.all fun f => f K) && fn.all fun d => d.ok K) = true from congrArg (fun z : He.AlD => z.1) c)).2
  have e : fn.map (fun d => He.fnW K d.at_) = fn.map He.DefD.val := congrArg (fun z : He.AlD => z.2) c
  have e2 : (fn.map fun d => He.fnW K d.at_)[i]? = (fn.map He.DefD.val)[i]? := by rw [e]
  rw [List.getElem?_map, List.getElem?_map, h] at e2
  exact He.DefD.funD (Option.some.inj e2) (List.all_eq_true.mp c2 d (List.mem_of_getElem? h))
end
end L2.Ng

namespace L2.Ng
open PySem PySem.Spec PyProof.Rows
/-! ### readings, step by step -/
def FldQ (K : PySem.W.Frag) (f : Str) (x : V) (H : Hp) (Q : VK) : Prop := ∃ a C dx fs v, x = .ref a ∧ H a = some (.ins C dx fs) ∧ Cls K C ∧ NoAttr K C f ∧ fs.lookup f = some v ∧ Q v H
def SFldQ (K : PySem.W.Frag) (f : Str) (x y : V) (H : Hp) (R : Hp → Prop) : Prop := ∃ a C dx fs, x = .ref a ∧ H a = some (.ins C dx fs) ∧ Cls K C ∧ NoAttr K C f ∧ fs.length < 1000 ∧ R (upd H a (.ins C dx (putF f y fs)))
def DInQ (x y : V) (H : Hp) (Q : VK) : Prop := ∃ a o, x = .ref a ∧ DGet H a y o ∧ Q (.bl o.isSome) H
def DNinQ (x y : V) (H : Hp) (Q : VK) : Prop := ∃ a o, x = .ref a ∧ DGet H a y o ∧ Q (.bl (!o.isSome)) H
def DGetQ (x y : V) (H : Hp) (Q : VK) : Prop := ∃ a v, x = .ref a ∧ DGet H a y (some v) ∧ Q v H
def DPutQ (x y z : V) (H : Hp) (R : Hp → Prop) : Prop := ∃ a H4, x = .ref a ∧ DPut H a y z H4 ∧ R H4
def MtQ (C : Addr) (nm : Str) (x : V) (H : Hp) (R : Prop) : Prop := ∃ a dx fs, x = .ref a ∧ H a = some (.ins C dx fs) ∧ fs.lookup nm = none ∧ R
section
variable {σ σ' : L2.St} {H : Hp} {Q : VK} {v x y : V} {i : Nat} {ta ta' tb te : TE} {r : R2} {D : Ends} {K : PySem.W.Frag}
theorem z_var (h : σ[i]? = some (some v)) (q : Q v H) : tVar i σ H Q := ⟨v, h, q⟩
theorem z_c (q : Q v H) : tC v σ H Q := q
theorem z_op (h : ta σ H fun x H1 => tb σ H1 fun y H2 => r x y H2 Q) : tOp r ta tb σ H Q := h
theorem z_nil {Q : List V → Hp → Prop} (q : Q [] H) : tNil σ H Q := q
theorem z_cons {Q : List V → Hp → Prop} {tr : TA} (h : ta σ H fun x H1 => tr σ H1 fun xs H2 => Q (x :: xs) H2) : tCons ta tr σ H Q := h
theorem z_seq {t u : TS} (h : t { D with nx := u D } σ H) : tSeq t u D σ H := h
theorem z_next (h : D.nx σ H) : tNext D σ H := h
theorem z_asg {g : TG} (h : te σ H fun x H1 => g x σ H1 D.nx) : tAsg te g D σ H := h
theorem z_name {Q : L2.St → Hp → Prop} (e : σ.set i (some v) = σ') (h : Q σ' H) : gName i v σ H Q := by
  subst e
  exact h
theorem z_sub {to ti : TE} {t : TSet} {Q : L2.St → Hp → Prop} (h : to σ H fun o H1 => ti σ H1 fun i H2 => t o i v H2 fun H3 => Q σ H3) : gSub to ti t v σ H Q := h
theorem z_ifs {c : TT} {t u : TS} (h : c σ H fun b H1 => if b = true then t D σ H1 else u D σ H1) : tIfS c t u D σ H := h
theorem z_if {c : TT} (h : c σ H fun b H1 => if b = true then ta σ H1 Q else tb σ H1 Q) : tIf c ta tb σ H Q := h
theorem z_ret (h : te σ H D.rt) : tRet te D σ H := h
theorem z_retn (h : D.rt .non H) : tRetN D σ H := h
theorem z_drop (h : te σ H fun _ H1 => D.nx σ H1) : tDrop te D σ H := h
theorem z_un {r : V → Hp → VK → Prop} (h : ta σ H fun x H1 => r x H1 Q) : tUn r ta σ H Q := h
theorem z_test {Q : Bool → Hp → Prop} {t : TE} (h : t σ H fun x H' => ∃ k, x = .bl k ∧ Q k H') : tTest t σ H Q := h
theorem z_tB {Q : Bool → Hp → Prop} {t : TE} (h : t σ H fun x H' => ∃ k, x = .bl k ∧ Q k H') : tB t σ H Q := h
theorem z_bl {Q : Bool → Hp → Prop} {k : Bool} (h : Q k H) : ∃ k', V.bl k = V.bl k' ∧ Q k' H := ⟨k, rfl, h⟩
theorem z_not {Q : Bool → Hp → Prop} {t : TT} (h : t σ H fun c H1 => Q (!c) H1) : tNot t σ H Q := h
theorem z_and {Q : Bool → Hp → Prop} {t u : TT} (h : t σ H fun c H1 => if c = true then u σ H1 Q else Q false H1) : tAnd t u σ H Q := h
theorem z_or {Q : Bool → Hp → Prop} {t u : TT} (h : t σ H fun c H1 => if c = true then Q true H1 else u σ H1 Q) : tOr t u σ H Q := h
theorem z_chain {r' : R2} {tc : TE} (h : ta σ H fun x H1 => tb σ H1 fun y H2 => r x y H2 fun z H3 => ∃ k, z = .bl k ∧ (if k = true then tc σ H3 fun w' H4 => r' y w' H4 Q else Q (.bl false) H3)) : tChain r r' ta tb tc σ H Q := h
theorem z_cb {r : List V → Hp → VK → Prop} {t : TA} (h : t σ H fun vs H1 => r vs H1 Q) : tCB r t σ H Q := h
def NewT (xs : List V) (H : Hp) (Q : VK) : Prop := xs.length ≤ sizeLine ∧ ∀ p, H p = none → Q (.ref p) (upd H p (.tup xs))
def NewL (xs : List V) (H : Hp) (Q : VK) : Prop := xs.length ≤ sizeLine ∧ ∀ p, H p = none → Q (.ref p) (upd H p (.lst xs))
theorem ble_ok {n : Nat} (h : Nat.ble n 1000 = true) : n ≤ sizeLine := Nat.le_trans (Nat.le_of_ble_eq_true h) (by decide)
theorem z_newT {xs : List V} (hz : Nat.ble xs.length 1000 = true) (h : ∀ p, H p = none → Q (.ref p) (upd H p (.tup xs))) : NewT xs H Q := ⟨ble_ok hz, h⟩
theorem z_newL {xs : List V} (hz : Nat.ble xs.length 1000 = true) (h : ∀ p, H p = none → Q (.ref p) (upd H p (.lst xs))) : NewL xs H Q := ⟨ble_ok hz, h⟩
theorem z_tup {t : TA} (h : t σ H fun xs H1 => NewT xs H1 Q) : tTup t σ H Q := h
theorem z_lst {t : TA} (h : t σ H fun xs H1 => NewL xs H1 Q) : tLst t σ H Q := h
/-! loops -/
def LoopI (J : It) (g : TG) (tb : TS) (D : Ends) (σ : L2.St) (H : Hp) : Prop := ∃ W : Nat → Nat → L2.St → Hp → Prop, (∃ m, W 0 m σ H) ∧ ∀ i m σ H, W i m σ H →
  (J.stop i H ∧ D.nx σ H) ∨ (J.go i H ∧ ∃ N : L2.St → Hp → Prop, (∀ σ' H', N σ' H' → ∃ m', m' < m ∧ W (i + 1) m' σ' H') ∧ ∀ x H', J.yld i H x H' → g x σ H' fun σ2 H2 => tb { D with nx := N, ct := N, bk := D.nx } σ2 H2)
def LcI (J : It) (g : TG) (tt : TT) (te : TE) (vs : List Nat) (σ : L2.St) (H1 : Hp) (Q : VK) : Prop := ∀ D, H1 D = none → ∃ W : Nat → Nat → Hp → Prop, (∃ m, W 0 m (upd H1 D (.lst []))) ∧ ∀ i m H, W i m H →
  (J.stop i H ∧ Q (.ref D) H) ∨ (J.go i H ∧ ∃ Nx : Hp → Prop, (∀ H', Nx H' → ∃ m', m' < m ∧ W (i + 1) m' H') ∧ ∀ x H', J.yld i H x H' → g x (wipe σ vs) H' fun σ2 H2 => wipe σ2 vs = wipe σ vs ∧ tt σ2 H2 fun b H3 =>
    if b = true then te σ2 H3 fun y H4 => ∃ acc, H4 D = some (.lst acc) ∧ acc.length < sizeLine ∧ Nx (upd H4 D (.lst (acc ++ [y]))) else Nx H3)
section
variable {g : TG} {tb : TS} {tt : TT} {tl : TE} {vs : List Nat} {ta : TA}
theorem z_forL (h : tl σ H fun x H1 => ∃ a, x = .ref a ∧ (∃ xs, SqL K H1 a xs) ∧ LoopI (Itl K a) g tb D σ H1) : tFor (iList K tl) g tb D σ H := h
theorem z_forT (h : tl σ H fun x H1 => ∃ a, x = .ref a ∧ (∃ xs, SqT K H1 a xs) ∧ LoopI (Itt K a) g tb D σ H1) : tFor (iTup K tl) g tb D σ H := h
theorem z_forS (h : tl σ H fun x H1 => ∃ z, x = .str z ∧ LoopI (Its z) g tb D σ H1) : tFor (iStr tl) g tb D σ H := h
theorem z_for1 (h : ta σ H fun vs H1 => ∃ j : Int, vs = [.int j] ∧ -(2 ^ 62) ≤ j ∧ j < 2 ^ 62 ∧ LoopI (Itr 0 j.toNat) g tb D σ H1) : tFor (iRng1 ta) g tb D σ H := h
theorem z_for2 (h : ta σ H fun vs H1 => ∃ i j : Int, vs = [.int i, .int j] ∧ (-(2 ^ 62) ≤ i ∧ i < 2 ^ 62 ∧ -(2 ^ 62) ≤ j ∧ j < 2 ^ 62) ∧ LoopI (Itr i (j - i).toNat) g tb D σ H1) : tFor (iRng2 ta) g tb D σ H := h
theorem z_lcL (h : tl σ H fun x H1 => ∃ a, x = .ref a ∧ (∃ xs, SqL K H1 a xs) ∧ LcI (Itl K a) g tt te vs σ H1 Q) : tLc (iList K tl) g tt te vs σ H Q := h
theorem z_lcT (h : tl σ H fun x H1 => ∃ a, x = .ref a ∧ (∃ xs, SqT K H1 a xs) ∧ LcI (Itt K a) g tt te vs σ H1 Q) : tLc (iTup K tl) g tt te vs σ H Q := h
theorem z_lcS (h : tl σ H fun x H1 => ∃ z, x = .str z ∧ LcI (Its z) g tt te vs σ H1 Q) : tLc (iStr tl) g tt te vs σ H Q := h
theorem z_lc1 (h : ta σ H fun us H1 => ∃ j : Int, us = [.int j] ∧ -(2 ^ 62) ≤ j ∧ j < 2 ^ 62 ∧ LcI (Itr 0 j.toNat) g tt te vs σ H1 Q) : tLc (iRng1 ta) g tt te vs σ H Q := h
theorem z_lc2 (h : ta σ H fun us H1 => ∃ i j : Int, us = [.int i, .int j] ∧ (-(2 ^ 62) ≤ i ∧ i < 2 ^ 62 ∧ -(2 ^ 62) ≤ j ∧ j < 2 ^ 62) ∧ LcI (Itr i (j - i).toNat) g tt te vs σ H1 Q) : tLc (iRng2 ta) g tt te vs σ H Q := h
theorem z_gtup {n : Nat} {t : TGs} {Q : L2.St → Hp → Prop} {a : Addr} {xs : List V} (hp : SqT K H a xs) (hn : xs.length = n) (h : t xs σ H Q) : gTup K n t (.ref a) σ H Q := ⟨a, xs, rfl, hp, hn, h⟩
theorem z_gcons {t : TG} {u : TGs} {Q : L2.St → Hp → Prop} {v : V} {r : List V} (h : t v σ H fun σ' H' => u r σ' H' Q) : gCons t u (v :: r) σ H Q := ⟨v, r, rfl, h⟩
theorem z_gnil {Q : L2.St → Hp → Prop} (h : Q σ H) : gNil [] σ H Q := ⟨rfl, h⟩
theorem z_par {i j : Nat} (h : ta σ H fun vs H1 => ∃ v w, vs = [v, w] ∧ D.nx ((σ.set i (some v)).set j (some w)) H1) : tPar i j ta D σ H := h
theorem z_fld {f : Str} (h : ta' σ H fun x H1 => FldQ K f x H1 Q) : tFld K ta' f σ H Q := h
theorem z_fldq {f : Str} {a C dx : Addr} {fs : List (Str × V)} (e : H a = some (.ins C dx fs)) (c : Cls K C) (n : NoAttr K C f) (l : fs.lookup f = some v) (q : Q v H) : FldQ K f (.ref a) H Q := ⟨a, C, dx, fs, v, rfl, e, c, n, l, q⟩
theorem z_mt {C : Addr} {nm : Str} {n m : Nat} {sp : Sp} {gV : List V → List V → List V} {E : XK} {to : TE} {t tk : TA} (h : to σ H fun x H1 => MtQ C nm x H1 (t σ H1 fun vs H2 => tk σ H2 fun zs H3 => vs.length + 1 = n ∧ zs.length = m ∧ sp (gV (x :: vs) zs) H3 Q E)) : tMt C nm n m sp gV E to t tk σ H Q := by
  refine (congrFun (congrFun (congrFun (show tMt C nm n m sp gV E to t tk = _ from rfl) σ) H) Q).mpr ?_
  have e : (fun x H1 => MtQ C nm x H1 (t σ H1 fun vs H2 => tk σ H2 fun zs H3 => vs.length + 1 = n ∧ zs.length = m ∧ sp (gV (x :: vs) zs) H3 Q E)) = fun x H1 => ∃ a dx fs, x = .ref a ∧ H1 a = some (.ins C dx fs) ∧ fs.lookup nm = none ∧ t σ H1 fun vs H2 => tk σ H2 fun zs H3 => vs.length + 1 = n ∧ zs.length = m ∧ sp (gV (x :: vs) zs) H3 Q E := rfl
  rw [e] at h
  exact h
theorem z_mtq {C a dx : Addr} {nm : Str} {fs : List (Str × V)} {R : Prop} (e : H a = some (.ins C dx fs)) (l : fs.lookup nm = none) (r : R) : MtQ C nm (.ref a) H R := ⟨a, dx, fs, rfl, e, l, r⟩
theorem z_nw {C : Addr} {n m : Nat} {sp : Sp} {gV : List V → List V → List V} {E : XK} {t tk : TA} (h : t σ H fun vs H1 => tk σ H1 fun zs H2 => vs.length + 1 = n ∧ zs.length = m ∧ ∀ x dx, H2 x = none → H2 dx = none → dx ≠ x →
  sp (gV (.ref x :: vs) zs) (upd (upd H2 dx (.own x)) x (.ins C dx [])) (fun v H3 => v = .non ∧ Q (.ref x) H3) E) : tNw C n m sp gV E t tk σ H Q := h
theorem z_sfld {f : Str} {tv : TE} (h : tv σ H fun y H1 => ta' σ H1 fun x H2 => SFldQ K f x y H2 fun H3 => D.nx σ H3) : sFld K ta' tv f D σ H := h
theorem z_sfldq {f : Str} {a C dx : Addr} {fs : List (Str × V)} {R : Hp → Prop} (e : H a = some (.ins C dx fs)) (c : Cls K C) (n : NoAttr K C f) (l : Nat.ble fs.length 998 = true) (r : R (upd H a (.ins C dx (putF f y fs)))) : SFldQ K f (.ref a) y H R := ⟨a, C, dx, fs, rfl, e, c, n, Nat.lt_of_le_of_lt (Nat.le_of_ble_eq_true l) (by decide), r⟩
theorem z_din {ty td : TE} (h : ty σ H fun y H1 => td σ H1 fun x H2 => DInQ x y H2 Q) : tDIn ty td σ H Q := h
theorem z_dinq {a : Addr} {o : Option V} (g : DGet H a y o) (q : Q (.bl o.isSome) H) : DInQ (.ref a) y H Q := ⟨a, o, rfl, g, q⟩
theorem z_dnin {ty td : TE} (h : ty σ H fun y H1 => td σ H1 fun x H2 => DNinQ x y H2 Q) : tDNotIn ty td σ H Q := h
theorem z_dninq {a : Addr} {o : Option V} (g : DGet H a y o) (q : Q (.bl (!o.isSome)) H) : DNinQ (.ref a) y H Q := ⟨a, o, rfl, g, q⟩
theorem z_dget {ty td : TE} (h : td σ H fun x H1 => ty σ H1 fun y H2 => DGetQ x y H2 Q) : tDGet td ty σ H Q := h
theorem z_dgetq {a : Addr} (g : DGet H a y (some v)) (q : Q v H) : DGetQ (.ref a) y H Q := ⟨a, v, rfl, g, q⟩
theorem z_dnewK (h : ∀ p, H p = none → Q (.ref p) (upd H p (.dK []))) : tDNewK σ H Q := h
theorem z_dnewT (h : ∀ p, H p = none → Q (.ref p) (upd H p (.dT []))) : tDNewT σ H Q := h
theorem z_dput {ty td tv : TE} (h : tv σ H fun z H1 => td σ H1 fun x H2 => ty σ H2 fun y H3 => DPutQ x y z H3 fun H4 => D.nx σ H4) : sDPut td ty tv D σ H := h
theorem z_dputq {a : Addr} {z : V} {H' : Hp} {R : Hp → Prop} (g : DPut H a y z H') (r : R H') : DPutQ (.ref a) y z H R := ⟨a, H', rfl, g, r⟩
end
theorem loopL {g : TG} {tb : TS} {a : Addr} {xs : List V} (Pv : Nat → L2.St → Hp → Prop) (h0 : Pv 0 σ H) (hl : ∀ i σ H, i ≤ xs.length → Pv i σ H → SqL K H a xs)
    (hs : ∀ i x σ H, xs[i]? = some x → Pv i σ H → g x σ H fun σ2 H2 => tb { D with nx := Pv (i + 1), ct := Pv (i + 1), bk := D.nx } σ2 H2) (hd : ∀ σ H, Pv xs.length σ H → D.nx σ H) : LoopI (Itl K a) g tb D σ H := for_list Pv h0 hl hs hd
theorem loopR {g : TG} {tb : TS} {lo : Int} {n : Nat} (Pv : Nat → L2.St → Hp → Prop) (h0 : Pv 0 σ H)
    (hs : ∀ i σ H, i < n → Pv i σ H → g (.int (lo + (i : Nat))) σ H fun σ2 H2 => tb { D with nx := Pv (i + 1), ct := Pv (i + 1), bk := D.nx } σ2 H2) (hd : ∀ σ H, Pv n σ H → D.nx σ H) : LoopI (Itr lo n) g tb D σ H := for_range Pv h0 hs hd
theorem lcL {g : TG} {tt : TT} {vs : List Nat} {a : Addr} {xs : List V} (h : ∀ Dx, H Dx = none → ∃ Pv : Nat → Hp → Prop, Pv 0 (upd H Dx (.lst [])) ∧ (∀ i H, i ≤ xs.length → Pv i H → SqL K H a xs) ∧
    (∀ i x H, xs[i]? = some x → Pv i H → g x (wipe σ vs) H fun σ2 H2 => wipe σ2 vs = wipe σ vs ∧ tt σ2 H2 fun b H3 =>
      if b = true then te σ2 H3 fun y H4 => ∃ acc, H4 Dx = some (.lst acc) ∧ acc.length < sizeLine ∧ Pv (i + 1) (upd H4 Dx (.lst (acc ++ [y]))) else Pv (i + 1) H3) ∧ ∀ H, Pv xs.length H → Q (.ref Dx) H) : LcI (Itl K a) g tt te vs σ H Q := fun Dx n => by
  obtain ⟨Pv, h0, hl, hs, hd⟩ := h Dx n
  exact lc_list Pv h0 hl hs hd
theorem lcR {g : TG} {tt : TT} {vs : List Nat} {lo : Int} {n : Nat} (h : ∀ Dx, H Dx = none → ∃ Pv : Nat → Hp → Prop, Pv 0 (upd H Dx (.lst [])) ∧
    (∀ i H, i < n → Pv i H → g (.int (lo + (i : Nat))) (wipe σ vs) H fun σ2 H2 => wipe σ2 vs = wipe σ vs ∧ tt σ2 H2 fun b H3 =>
      if b = true then te σ2 H3 fun y H4 => ∃ acc, H4 Dx = some (.lst acc) ∧ acc.length < sizeLine ∧ Pv (i + 1) (upd H4 Dx (.lst (acc ++ [y]))) else Pv (i + 1) H3) ∧ ∀ H, Pv n H → Q (.ref Dx) H) : LcI (Itr lo n) g tt te vs σ H Q := fun Dx nn => by
  obtain ⟨Pv, h0, hs, hd⟩ := h Dx nn
  exact lc_range Pv h0 hs hd
theorem loopT {g : TG} {tb : TS} {a : Addr} {xs : List V} (Pv : Nat → L2.St → Hp → Prop) (h0 : Pv 0 σ H) (hl : ∀ i σ H, i ≤ xs.length → Pv i σ H → SqT K H a xs)
    (hs : ∀ i x σ H, xs[i]? = some x → Pv i σ H → g x σ H fun σ2 H2 => tb { D with nx := Pv (i + 1), ct := Pv (i + 1), bk := D.nx } σ2 H2) (hd : ∀ σ H, Pv xs.length σ H → D.nx σ H) : LoopI (Itt K a) g tb D σ H := for_tup Pv h0 hl hs hd
theorem lcT {g : TG} {tt : TT} {vs : List Nat} {a : Addr} {xs : List V} (h : ∀ Dx, H Dx = none → ∃ Pv : Nat → Hp → Prop, Pv 0 (upd H Dx (.lst [])) ∧ (∀ i H, i ≤ xs.length → Pv i H → SqT K H a xs) ∧
    (∀ i x H, xs[i]? = some x → Pv i H → g x (wipe σ vs) H fun σ2 H2 => wipe σ2 vs = wipe σ vs ∧ tt σ2 H2 fun b H3 =>
      if b = true then te σ2 H3 fun y H4 => ∃ acc, H4 Dx = some (.lst acc) ∧ acc.length < sizeLine ∧ Pv (i + 1) (upd H4 Dx (.lst (acc ++ [y]))) else Pv (i + 1) H3) ∧ ∀ H, Pv xs.length H → Q (.ref Dx) H) : LcI (Itt K a) g tt te vs σ H Q := fun Dx n => by
  obtain ⟨Pv, h0, hl, hs, hd⟩ := h Dx n
  exact lc_tup Pv h0 hl hs hd
theorem lcS {g : TG} {tt : TT} {vs : List Nat} {z : Str} (h : ∀ Dx, H Dx = none → ∃ Pv : Nat → Hp → Prop, Pv 0 (upd H Dx (.lst [])) ∧
    (∀ i c H, z.cps[i]? = some c → Pv i H → g (.str ⟨#[c]⟩) (wipe σ vs) H fun σ2 H2 => wipe σ2 vs = wipe σ vs ∧ tt σ2 H2 fun b H3 =>
      if b = true then te σ2 H3 fun y H4 => ∃ acc, H4 Dx = some (.lst acc) ∧ acc.length < sizeLine ∧ Pv (i + 1) (upd H4 Dx (.lst (acc ++ [y]))) else Pv (i + 1) H3) ∧ ∀ H, Pv z.cps.size H → Q (.ref Dx) H) : LcI (Its z) g tt te vs σ H Q := fun Dx n => by
  obtain ⟨Pv, h0, hs, hd⟩ := h Dx n
  refine ⟨fun i m H => m = z.cps.size - i ∧ i ≤ z.cps.size ∧ Pv i H, ⟨z.cps.size, by simp, Nat.zero_le _, h0⟩, ?_⟩
  rintro i m H ⟨rfl, hi, p⟩
  by_cases hlt : i < z.cps.size
  · refine .inr ⟨hlt, Pv (i + 1), fun H' p' => ⟨z.cps.size - (i + 1), by omega, rfl, hlt, p'⟩, fun x H' y => ?_⟩
    obtain ⟨e, c, hc, rfl⟩ := y
    subst e
    exact hs i c _ hc p
  · have e : i = z.cps.size := by omega
    subst e
    exact .inl ⟨Nat.le_refl _, hd H p⟩
theorem z_bm {T : String} {r : V → List V → Hp → VK → Prop} {to : TE} {t : TA} (h : to σ H fun x H1 => tyV K T x H1 ∧ t σ H1 fun xs H2 => r x xs H2 Q) : tBM K T r to t σ H Q := h
theorem z_bm0 {T : String} {r : V → List V → Hp → VK → Prop} {to : TE} (h : to σ H fun x H1 => tyV K T x H1 ∧ r x [] H1 Q) : tBM0 K T r to σ H Q := h
theorem z_tyL {a : Addr} {xs : List V} {B : Prop} (hp : H a = some (.lst xs)) (h : B) : tyV K "list" (.ref a) H ∧ B := ⟨.inl ⟨rfl, _, SqL.of hp⟩, h⟩
theorem z_append {a : Addr} {xs : List V} {y : V} (hp : H a = some (.lst xs)) (hz : xs.length < sizeLine) (q : Q .non (upd H a (.lst (xs ++ [y])))) : rAppend (.ref a) [y] H Q := ⟨a, xs, y, rfl, rfl, hp, hz, q⟩
theorem z_popAt {a : Addr} {xs : List V} {i : Int} {j : Nat} {y : V} (hp : H a = some (.lst xs)) (hi : i = (j : Int)) (hl : xs.length < 2 ^ 62) (hy : xs[j]? = some y) (q : Q y (upd H a (.lst (xs.eraseIdx j)))) : rPopAt (.ref a) [.int i] H Q := by
  subst hi
  have hj : j < xs.length := (List.getElem?_eq_some_iff.mp hy).1
  refine ⟨a, xs, _, j, y, rfl, rfl, hp, by omega, by omega, ?_, hy, q⟩
  have e : ixN xs.length (j : Int) = some j := by
    unfold ixN
    rw [if_pos (by omega), if_pos (by omega)]
    simp
  exact (ixN_seq e).1
theorem z_slL {a : Addr} {xs : List V} {lo hi : Option Int} (hp : SqL K H a xs) (h : ∀ p, H p = none → Q (.ref p) (upd H p (.lst (cutV xs lo hi)))) : rSlL K (.ref a) lo hi H Q := ⟨a, xs, rfl, hp, h⟩
theorem z_slS {z : Str} {lo hi : Option Int} (hz : z.length ≤ sizeLine) (q : Q (.str (cutS z lo hi)) H) : rSlS (.str z) lo hi H Q := ⟨z, rfl, hz, q⟩
theorem z_cat {l b : Addr} {xs zs : List V} (h1 : H l = some (.lst xs)) (h2 : H b = some (.lst zs)) (hz : xs.length + zs.length ≤ sizeLine) (h : ∀ p, H p = none → Q (.ref p) (upd H p (.lst (xs ++ zs)))) : rCat (.ref l) (.ref b) H Q := ⟨l, b, xs, zs, rfl, rfl, h1, h2, hz, h⟩
theorem z_rI0 {g : Int → Int → V} {a b : Int} (q : Q (g a b) H) : rI0 g (.int a) (.int b) H Q := ⟨a, b, rfl, rfl, q⟩
theorem z_rI {C : Int → Int → Prop} {g : Int → Int → V} {a b : Int} (c : C a b) (q : Q (g a b) H) : rI C g (.int a) (.int b) H Q := ⟨a, b, rfl, rfl, c, q⟩
theorem z_rU {g : Int → V} {a : Int} (q : Q (g a) H) : rU g (.int a) H Q := ⟨a, rfl, q⟩
theorem z_eq (hs : scal x y = true) (q : Q (.bl (decide (x = y))) H) : rEq x y H Q := ⟨hs, q⟩
theorem z_ne (hs : scal x y = true) (q : Q (.bl (!decide (x = y))) H) : rNe x y H Q := ⟨hs, q⟩
theorem z_slice {r : V → Option Int → Option Int → Hp → VK → Prop} {tl th : TO} (h : te σ H fun x H1 => tl σ H1 fun l H2 => th σ H2 fun u H3 => r x l u H3 Q) : tSl r te tl th σ H Q := h
theorem z_nopart {Q : Option Int → Hp → Prop} (h : Q none H) : tNoPart σ H Q := h
theorem z_part {Q : Option Int → Hp → Prop} (h : te σ H fun x H1 => ∃ i, x = .int i ∧ Q (some i) H1) : tPart te σ H Q := h
theorem z_int {Q : Int → Hp → Prop} {i : Int} (h : Q i H) : ∃ j, V.int i = V.int j ∧ Q j H := ⟨i, rfl, h⟩
theorem z_ixL {p : Addr} {xs : List V} {i : Int} (hp : SqL K H p xs) (hi : atI xs i = some v) (q : Q v H) : rIxL K (.ref p) (.int i) H Q := ⟨p, xs, i, v, rfl, rfl, hp, hi, q⟩
theorem z_ixT {p : Addr} {xs : List V} {i : Int} (hp : SqT K H p xs) (hi : atI xs i = some v) (q : Q v H) : rIxT K (.ref p) (.int i) H Q := ⟨p, xs, i, v, rfl, rfl, hp, hi, q⟩
theorem z_setL {p : Addr} {xs : List V} {k : Int} {j : Nat} {Q : Hp → Prop} (hp : H p = some (.lst xs)) (hj : ixN xs.length k = some j) (q : Q (upd H p (.lst (xs.set j v)))) : rSetL (.ref p) (.int k) v H Q := ⟨p, xs, k, j, rfl, rfl, hp, hj, q⟩
theorem z_fn {n m : Nat} {sp : Sp} {gV : List V → List V → List V} {E : XK} {t tk : TA} (h : t σ H fun vs H1 => tk σ H1 fun zs H2 => vs.length = n ∧ zs.length = m ∧ sp (gV vs zs) H2 Q E) : tFn n m sp gV E t tk σ H Q := h
theorem z_lenq {p : Addr} {xs : List V} (hp : SqL K H p xs ∨ SqT K H p xs) (q : Q (.int xs.length) H) : ∃ (p' : Addr) (ys : List V), ([V.ref p] : List V) = [.ref p'] ∧ (SqL K H p' ys ∨ SqT K H p' ys) ∧ Q (.int ys.length) H := ⟨p, xs, rfl, hp, q⟩
theorem z_abs {a : Int} (q : Q (.int (if a < 0 then -a else a)) H) : ∃ i, ([V.int a] : List V) = [.int i] ∧ Q (.int (if i < 0 then -i else i)) H := ⟨a, rfl, q⟩
theorem i_eqI {a b : Int} {A B : Prop} (h1 : a = b → A) (h2 : a ≠ b → B) : if decide (V.int a = V.int b) = true then A else B := by
  by_cases h : a = b
  · rw [if_pos (decide_eq_true (by rw [h]))]
    exact h1 h
  · rw [if_neg (by rw [decide_eq_false (fun z => h (V.int.inj z))]; decide)]
    exact h2 h
theorem i_neI {a b : Int} {A B : Prop} (h1 : a ≠ b → A) (h2 : a = b → B) : if (!decide (V.int a = V.int b)) = true then A else B := by
  by_cases h : a = b
  · rw [if_neg (by rw [decide_eq_true (show V.int a = V.int b by rw [h])]; decide)]
    exact h2 h
  · rw [if_pos (by rw [decide_eq_false (fun z => h (V.int.inj z))]; decide)]
    exact h1 h
theorem i_eqS {a b : Str} {A B : Prop} (h1 : a = b → A) (h2 : a ≠ b → B) : if decide (V.str a = V.str b) = true then A else B := by
  by_cases h : a = b
  · rw [if_pos (decide_eq_true (by rw [h]))]
    exact h1 h
  · rw [if_neg (by rw [decide_eq_false (fun z => h (V.str.inj z))]; decide)]
    exact h2 h
theorem i_neS {a b : Str} {A B : Prop} (h1 : a ≠ b → A) (h2 : a = b → B) : if (!decide (V.str a = V.str b)) = true then A else B := by
  by_cases h : a = b
  · rw [if_neg (by rw [decide_eq_true (show V.str a = V.str b by rw [h])]; decide)]
    exact h2 h
  · rw [if_pos (by rw [decide_eq_false (fun z => h (V.str.inj z))]; decide)]
    exact h1 h
theorem i_dec {p : Prop} [Decidable p] {A B : Prop} (h1 : p → A) (h2 : ¬ p → B) : if decide p = true then A else B := by
  by_cases h : p
  · rw [if_pos (decide_eq_true h)]
    exact h1 h
  · rw [if_neg (by rw [decide_eq_false h]; decide)]
    exact h2 h
theorem i_ndec {p : Prop} [Decidable p] {A B : Prop} (h1 : ¬ p → A) (h2 : p → B) : if (!decide p) = true then A else B := by
  by_cases h : p
  · rw [if_neg (by rw [decide_eq_true h]; decide)]
    exact h2 h
  · rw [if_pos (by rw [decide_eq_false h]; decide)]
    exact h1 h
theorem look_new {H : Hp} {c q : Addr} {z o : HO} (hc : H c = none) (f : H q = some o) : upd H c z q = some o := (upd_ne (ne_of_none f hc)).trans f
theorem look_mut {H : Hp} {c q : Addr} {z o u : HO} (hu : H c = some u) (f : H q = some o) (d : o ≠ u) : upd H c z q = some o := (upd_ne (ne_of f hu d)).trans f
end
theorem iteNT {A B : Prop} (h : A) : if (!false) = true then A else B := h
theorem iteNF {A B : Prop} (h : B) : if (!true) = true then A else B := h
theorem z_tyDT {K : PySem.W.Frag} {H : Hp} {a : Addr} {kvs : List (List Key × V)} {B : Prop} (hp : H a = some (.dT kvs)) (h : B) : tyV K "dict" (.ref a) H ∧ B := ⟨.inr (.inr (.inl ⟨rfl, .inr ⟨_, hp⟩⟩)), h⟩
theorem z_tyDK {K : PySem.W.Frag} {H : Hp} {a : Addr} {kvs : List (Key × V)} {B : Prop} (hp : H a = some (.dK kvs)) (h : B) : tyV K "dict" (.ref a) H ∧ B := ⟨.inr (.inr (.inl ⟨rfl, .inl ⟨_, hp⟩⟩)), h⟩
theorem cutI {c : Prop} [Decidable c] {t u : TS} {D : Ends} {σ : L2.St} {H : Hp} (P : L2.St → Hp → Prop) (h2 : ∀ σ H, P σ H → D.nx σ H) (h1 : (∀ σ H, P σ H → D.nx σ H) → if c then t D σ H else u D σ H) : if c then t D σ H else u D σ H := h1 h2
theorem cutIf {c : TT} {t u : TS} {D : Ends} {σ : L2.St} {H : Hp} (P : L2.St → Hp → Prop) (h2 : ∀ σ H, P σ H → D.nx σ H) (h1 : (∀ σ H, P σ H → D.nx σ H) → tIfS c t u D σ H) : tIfS c t u D σ H := h1 h2
theorem isD_k {H : Hp} {a : Addr} {kvs : List (Key × V)} (h : H a = some (.dK kvs)) : IsD H a := .inl ⟨_, .inl h⟩
theorem isD_t {H : Hp} {a : Addr} {kvs : List (List Key × V)} (h : H a = some (.dT kvs)) : IsD H a := .inr ⟨_, .inl h⟩
def IsDQ (x : V) (H : Hp) (R : Addr → Prop) : Prop := ∃ a, x = .ref a ∧ IsD H a ∧ R a
theorem z_isdq {H : Hp} {a : Addr} {R : Addr → Prop} (h : IsD H a) (r : R a) : IsDQ (.ref a) H R := ⟨a, rfl, h, r⟩
def GetDQ (a : Addr) (y z : V) (H : Hp) (Q : VK) : Prop := ∃ o, DGet H a y o ∧ Q (o.getD z) H
theorem z_getdq {H : Hp} {a : Addr} {y z : V} {o : Option V} {Q : VK} (g : DGet H a y o) (q : Q (o.getD z) H) : GetDQ a y z H Q := ⟨o, g, q⟩
theorem z_dget2 {σ : L2.St} {H : Hp} {Q : VK} {td ty tx : TE} (h : td σ H fun x H1 => IsDQ x H1 fun a => ty σ H1 fun y H2 => tx σ H2 fun z H3 => GetDQ a y z H3 Q) : tDGet2 td ty tx σ H Q := h
theorem z_aug {σ : L2.St} {H : Hp} {D : Ends} {i : Nat} {te : TE} {ti : TIp} {x : V} (h : σ[i]? = some (some x)) (q : te σ H fun y H1 => ti x y H1 fun z H2 => D.nx (σ.set i (some z)) H2) : tAug i te ti D σ H := ⟨x, h, q⟩
theorem loopW {c : TT} {tb : TS} {D : Ends} {σ : L2.St} {H : Hp} (W : Nat → L2.St → Hp → Prop) (m0 : Nat) (h0 : W m0 σ H) (h : ∀ m σ H, W m σ H → c σ H fun b H1 => if b = true then ∃ N : L2.St → Hp → Prop, (∀ σ' H', N σ' H' → ∃ m', m' < m ∧ W m' σ' H') ∧ tb { D with nx := N, ct := N, bk := D.nx } σ H1 else D.nx σ H1) : tWhile c tb D σ H := ⟨W, ⟨m0, h0⟩, h⟩
theorem z_ipI {H : Hp} {Q : VK} {f : Int → Int → Int} {i j : Int} (q : Q (.int (f i j)) H) : ipI f (.int i) (.int j) H Q := ⟨i, j, rfl, rfl, q⟩
theorem z_listD {H : Hp} {Q : VK} {p : Addr} {kvs : List (Key × V)} (e : H p = some (.dK kvs)) (q : ∀ q, H q = none → Q (.ref q) (upd H q (.lst (kvs.map fun kv => kV kv.1)))) : rListD [.ref p] H Q := ⟨p, kvs, rfl, e, q⟩
theorem z_yes {σ : L2.St} {H : Hp} {Q : Bool → Hp → Prop} (q : Q true H) : tYes σ H Q := q
theorem z_lcb {σ s0 : L2.St} {vs : List Nat} {H : Hp} {tt : TT} {F : Bool → Hp → Prop} (e : wipe σ vs = s0) (h : tt σ H F) : wipe σ vs = s0 ∧ tt σ H F := ⟨e, h⟩
/-! ### tables found by a path of one's own -/
def kwAdr (f : Str × Option Str) (x : Str) (K : PySem.W.Frag) : Addr := match K.lookup (He.fAd K f) with
  | some ⟨_, _, .func fd, _⟩ => (match fd.kwdefaults with
    | .ref D => (match PySem.W.nsIn K D x with
      | some (some (.ref a)) => a
      | _ => 0)
    | _ => 0)
  | _ => 0
def lstAtB (K : PySem.W.Frag) (a : Addr) (vs : List V) : Bool := match K.lookup a with
  | some ⟨.type c, none, .seq its _, _⟩ => decide (c = "list") && (decide (its.size ≤ sizeLine) && He.relAll vs its.toList)
  | _ => false
def tupAtB (K : PySem.W.Frag) (a : Addr) (vs : List V) : Bool := match K.lookup a with
  | some ⟨.type c, _, .seq its _, _⟩ => decide (c = "tuple") && (decide (its.size ≤ sizeLine) && He.relAll vs its.toList)
  | _ => false
theorem lstAtB_ok {K : PySem.W.Frag} {a : Addr} {vs : List V} (h : lstAtB K a vs = true) (H : Hp) : SqL K H a vs := by
  unfold lstAtB at h
  cases q : K.lookup a with
  | none =>
    rw [q] at h
    cases h
  | some o =>
    obtain ⟨oc, od, dt, osl⟩ := o
    rw [q] at h
    cases oc with
    | type c =>
      cases od with
      | none =>
        cases dt with
        | seq its n =>
          obtain ⟨h1, h2⟩ := He.ba (show (decide (c = "list") && (decide (its.size ≤ sizeLine) && He.relAll vs its.toList)) = true from h)
          obtain ⟨h3, h4⟩ := He.ba h2
          exact .inr ⟨_, its, n, q, congrArg Value.type (of_decide_eq_true h1), rfl, rfl, of_decide_eq_true h3, He.relAll_ok h4⟩
        | _ => cases h
      | some a => cases dt <;> cases h
    | _ => cases od <;> cases dt <;> cases h
theorem tupAtB_ok {K : PySem.W.Frag} {a : Addr} {vs : List V} (h : tupAtB K a vs = true) (H : Hp) : SqT K H a vs := by
  unfold tupAtB at h
  cases q : K.lookup a with
  | none =>
    rw [q] at h
    cases h
  | some o =>
    obtain ⟨oc, od, dt, osl⟩ := o
    rw [q] at h
    cases oc with
    | type c =>
      cases dt with
      | seq its n =>
        obtain ⟨h1, h2⟩ := He.ba (show (decide (c = "tuple") && (decide (its.size ≤ sizeLine) && He.relAll vs its.toList)) = true from h)
        obtain ⟨h3, h4⟩ := He.ba h2
        exact .inr ⟨_, its, n, q, congrArg Value.type (of_decide_eq_true h1), rfl, of_decide_eq_true h3, He.relAll_ok h4⟩
      | _ => cases h
    | _ => cases dt <;> cases h
end L2.Ng

namespace L2.Ng
open PySem PySem.Spec PyProof.Rows
section
variable {X : Cx}
/-- an expression that is never reached -/
theorem pe_never {e : Expr} : PE X e (fun _ _ _ => False) := ⟨fun _ _ _ _ _ _ h => h.elim⟩
/-! ### x in t, x not in t, t a tuple of data -/
def rInDT (K : PySem.W.Frag) : R2 := fun x y H Q => ∃ d ds, Dp K H x d ∧ Dp K H y (.tuple ds) ∧ SeqAt.shaped d = true ∧ SeqAt.shaped (.tuple ds) = true ∧ Q (.bl (ds.any fun z => PyData.eqv z d)) H
def rNotInDT (K : PySem.W.Frag) : R2 := fun x y H Q => ∃ d ds, Dp K H x d ∧ Dp K H y (.tuple ds) ∧ SeqAt.shaped d = true ∧ SeqAt.shaped (.tuple ds) = true ∧ Q (.bl (!ds.any fun z => PyData.eqv z d)) H
theorem op_inDT (hu : X.A.units + 65 < cLine) : OpR X (compareOp .In) (rInDT X.K) := by
  intro pins s σ H x y v u Q I rx ry h
  obtain ⟨d, ds, hd, he, sd, se, q⟩ := h
  obtain ⟨as, r1⟩ := Dp.reads I d x v hd rx
  obtain ⟨bs, r2⟩ := Dp.reads I (.tuple ds) y u he ry
  exact SeqAt.in_tuple_reads r2 r1 (SeqAt.canLay_of_shaped se) (SeqAt.canLay_of_shaped sd) (room_in_shaped sd hu) ⟨.bl _, H, I, rfl, q⟩
theorem op_notInDT (hu : X.A.units + 65 < cLine) : OpR X (compareOp .NotIn) (rNotInDT X.K) := by
  intro pins s σ H x y v u Q I rx ry h
  obtain ⟨d, ds, hd, he, sd, se, q⟩ := h
  obtain ⟨as, r1⟩ := Dp.reads I d x v hd rx
  obtain ⟨bs, r2⟩ := Dp.reads I (.tuple ds) y u he ry
  exact SeqAt.notIn_tuple_reads r2 r1 (SeqAt.canLay_of_shaped se) (SeqAt.canLay_of_shaped sd) (room_in_shaped sd hu) ⟨.bl _, H, I, rfl, q⟩
/-! ### dicts with tuple keys: d.setdefault(k, x), d.pop(k) of a key that is there, {k: v} -/
theorem d_setdT {pins : List (Addr × Obj)} {σ : L2.St} {H : Hp} {s : Shared} {a b : Addr} {kvs : List (List Key × V)} {k : List Key} {z : V} {zu : Value} {Q : Value → Shared → Prop} {A : Around} {E : Value → Shared → Prop} (hu : A.units + 1 < cLine) (I : Inv X pins σ H s)
    (e : H a = some (.dT kvs)) (eb : H b = some (.tup (k.map kV))) (rz : RelV z zu) (hl : kvs.length < sizeLine)
    (h1 : ∀ v, valV kvs k = some v → ∀ w' s', Inv X pins σ H s' → RelV v w' → Q w' s') (h2 : valV kvs k = none → ∀ s', Inv X pins σ (upd H a (.dT (putK kvs k z))) s' → Q zu s') :
    wpAny (model X.prog X.w) A (call (.builtin "dict.setdefault") [.ref a, .ref b, zu]) Q E s := by
  obtain ⟨zz, hd, xs, rel, dd⟩ := dt_of I.hok e
  have hz : xs.length ≤ sizeLine := by rw [← Paired.length rel]; exact zz
  refine call_setdefault_heap (hsz := hz) (tupleKind_room_in1 hu) (key_of I.hok eb) hd dd (fun p hp => ?_) fun hn h' dd' hs => ?_
  · have r := rel.val k
    rw [hp] at r
    cases ev : valV kvs k with
    | none =>
      rw [ev] at r
      exact (show False from r).elim
    | some v0 =>
      rw [ev] at r
      exact h1 v0 ev _ _ (I.tok _) r
  · have r := rel.val k
    rw [hn] at r
    cases ev : valV kvs k with
    | some v0 =>
      rw [ev] at r
      exact (show False from r).elim
    | none =>
      have hl2 : (putK kvs k z).length ≤ sizeLine := by have := length_putK kvs k z; omega
      obtain ⟨q, es, ep, hq, h3, h4, h5, _, h6⟩ := dd'
      refine h2 ev _ (d_write I (by rw [e]; exact True.intro) hs ⟨q, hq⟩ ⟨hl2, hd, _, (rel.put k eb rz).keeps fun c ys ec => ?_, q, es, ep, hq, h3, h4, h5, h6⟩)
      rw [upd_ne (ne_of ec e (fun z => nomatch z))]
      exact ec
def tDSetT (td ty tx : TE) : TE := fun σ H Q => td σ H fun x H1 => ∃ a, x = .ref a ∧ IsD H1 a ∧ ty σ H1 fun y H2 => tx σ H2 fun z H3 => ∃ (kvs : List (List Key × V)) (k : List Key) (b : Addr), H3 a = some (.dT kvs) ∧ y = .ref b ∧ H3 b = some (.tup (k.map kV)) ∧ kvs.length < sizeLine ∧
  (∀ v, valV kvs k = some v → Q v H3) ∧ (valV kvs k = none → Q z (upd H3 a (.dT (putK kvs k z))))
theorem pe_dsetT {o e f : Expr} {td ty tx : TE} {apos cpos : Pos} (hu : X.A.units + 1 < cLine) (ho : PE X o td) (he : PE X e ty) (hf : PE X f tx) (m : M2 X o "setdefault" apos e f cpos) : PE X (.Call (.Attribute o "setdefault" apos) [e, f] [] cpos) (tDSetT td ty tx) := by
  refine ⟨fun pins s σ H Q I h => ?_⟩
  refine wpAny_Call_method m.base m.few m.line PySem.F.plainAttrs_dict PySem.F.slot_dict_setdefault PySem.F.type_dict_setdefault (thn (ho.run pins s σ H _ I h) fun u s1 ⟨x, H1, I1, rx, a, ex, d, q1⟩ => ?_)
  subst ex
  obtain rfl : u = Value.ref a := rx
  obtain ⟨t1, t2, _⟩ := isD_at I1 d
  refine ⟨t1, t2, ?_⟩
  rw [m.trees]
  refine Calls.callWith_builtin rfl (Calls.evalArgs_plain (Calls.spliced_cons (thn (he.run pins s1 σ H1 _ I1 q1) fun iv s2 ⟨y, H2, I2, ry, q2⟩ =>
    Calls.spliced_cons (thn (hf.run pins s2 σ H2 _ I2 q2) fun fv s3 ⟨z, H3, I3, rz, kvs, k, b, ea, ey, eb, hl, q3, q4⟩ => Calls.spliced_nil ?_))))
  subst ey
  obtain rfl : iv = Value.ref b := ry
  exact d_setdT hu I3 ea eb rz hl (fun v hv w' s4 I4 rw' => ⟨v, _, I4, rw', q3 v hv⟩) fun hn s4 I4 => ⟨z, _, I4, rz, q4 hn⟩
def rPopT1 : V → List V → Hp → VK → Prop := fun x xs H Q => ∃ (a : Addr) (kvs : List (List Key × V)) (k : List Key) (b : Addr) (v : V), x = .ref a ∧ xs = [.ref b] ∧ H a = some (.dT kvs) ∧ H b = some (.tup (k.map kV)) ∧ valV kvs k = some v ∧ Q v (upd H a (.dT (dropK kvs k)))
theorem KT_without {H : Hp} (k : List Key) : ∀ {kvs : List (List Key × V)} {xs : List (List Key × Addr × Value)}, KT H kvs xs → KT H (dropK kvs k) (withoutH xs k)
  | _, _, Paired.nil => Paired.nil
  | _, _, Paired.cons (a := p) (b := q) (l₁ := kvs) (l₂ := xs) h t => by
    have ih := KT_without k t
    show KT H ((p :: kvs).filter fun kv => decide (kv.1 ≠ k)) ((q :: xs).filter fun x => decide (x.1 ≠ k))
    rw [List.filter_cons, List.filter_cons, ← h.1]
    by_cases e : p.1 = k
    · rw [if_neg (by simp [e]), if_neg (by simp [e])]
      exact ih
    · rw [if_pos (by simp [e]), if_pos (by simp [e])]
      exact Paired.cons h ih
theorem mt_popT1 (hu : X.A.units + 1 < cLine) : MtR X "dict.pop" rPopT1 := by
  intro pins s σ H x xs v us Q I rx rxs h
  obtain ⟨a, kvs, k, b, v1, rfl, rfl, ha, hb, hv, q⟩ := h
  cases rx
  obtain ⟨u1, rfl, r1⟩ := vals1 rxs
  cases r1
  obtain ⟨z, hd, xs', rel, dd⟩ := dt_of I.hok ha
  have hz : xs'.length ≤ sizeLine := by rw [← Paired.length rel]; exact z
  have r := rel.val k
  rw [hv] at r
  obtain ⟨p, hp, rp⟩ : ∃ p, atKey xs' k = some p ∧ RelV v1 p.2 := by
    cases ev : atKey xs' k with
    | none =>
      rw [ev] at r
      exact (show False from r).elim
    | some p =>
      rw [ev] at r
      exact ⟨p, rfl, r⟩
  refine call_pop_heap (more := []) (hsz := hz) (.inl rfl) (PySem.F.args_dict_pop_2 _ _) (tupleKind_room_in1 hu) (key_of I.hok hb) hd dd hp fun h' dd' hs => ?_
  obtain ⟨o, es, ep, hq, h2, h3, h4, _, h5⟩ := dd'
  have I2 : Inv X pins σ (upd H a (.dT (dropK kvs k))) { s with heap := h', toks := s.toks + (tupleKind (mixKind X.prog X.w)).draws k } := d_write I (by rw [ha]; exact True.intro) hs ⟨o, hq⟩ ⟨Nat.le_trans (dropK_le kvs k) z, hd, _, (KT_without k rel).keeps (fun c ys ec => (by rw [upd_ne (ne_of ec ha (fun z => nomatch z))]; exact ec)), o, es, ep, hq, h2, h3, h4, h5⟩
  exact ⟨v1, _, I2, rp, q⟩
/-- {k: v}, k a tuple -/
def tDispT (tk tv : TE) : TE := fun σ H Q => ∀ p, H p = none → tk σ (upd H p (.dT [])) fun x H1 => tv σ H1 fun y H2 => H2 p = some (.dT []) ∧ ∃ (k : List Key) (b : Addr), x = .ref b ∧ H2 b = some (.tup (k.map kV)) ∧ Q (.ref p) (upd H2 p (.dT [(k, y)]))
theorem pe_dispT {ke ve : Expr} {pos : Pos} {tk tv : TE} (hu : X.A.units + 1 < cLine) (hk : PE X ke tk) (hv : PE X ve tv) : PE X (.Dict [some ke] [ve] pos) (tDispT tk tv) := by
  refine ⟨fun pins s σ H Q I q => ?_⟩
  have hn := I.hok.fresh (Nat.le_refl s.heap.objs.size)
  have I1 := I.laid (a := s.heap.objs.size) (o := .dT []) (h' := s.heap.push { cls := .type "dict", data := .dict #[] }) (t' := s.toks) (fun _ _ q => Heap.get?_push_of_some _ q) (Nat.le_refl _) (dt_empty s.heap I.big)
  rw [arm_eval_Dict, zip_pairTrees [some ke] [ve] X.env pos rfl rfl, dictDisplay_pairs _ (by simp [pairTrees]) (by simp [pairTrees])]
  refine wpAny_bind (wpAny_standAt (wpAny_bind (wpAny_subDictH (knd := tupleKind (mixKind X.prog X.w)) (Q := fun d s' => wpAny (model X.prog X.w) X.A (pure (Value.ref d)) (EP X pins σ Q) X.xe s') (show (tupleKind (mixKind X.prog X.w)).room X.A from Nat.lt_of_succ_lt hu) (by simp [pairTrees]) ?_)))
  refine pairTrees_cons_walk (thn (hk.run pins _ σ _ _ I1 (q _ hn)) fun u s2 ⟨x, H1, I2, rx, q1⟩ => thn (hv.run pins s2 σ H1 _ I2 q1) fun w2 s3 ⟨y, H2, I3, ry, e, k, b, ex, eb, q2⟩ => pairTrees_nil_walk ?_)
  subst ex
  obtain rfl : u = Value.ref b := rx
  obtain ⟨zz, hd, xs, rel, dd⟩ := dt_of I3.hok e
  cases rel
  refine ⟨[(k, b, w2)], ⟨rfl, rfl, key_of I3.hok eb, trivial⟩, dd, fun h' tk dd' hs => wpAny_pure ?_⟩
  obtain ⟨q0, es, ep, hq, h3, h4, h5, _, h6⟩ := dd'
  have h5' : es.toList = [(k, b, w2)].map (entryOfKey (tupleKind (mixKind X.prog X.w))) := h5
  have h6' : ([(k, b, w2)].map (·.1)).Nodup := h6
  have I4 : Inv X pins σ (upd H2 s.heap.objs.size (.dT [(k, y)])) { s3 with heap := h', toks := tk } := d_write I3 (by rw [e]; exact True.intro) hs ⟨q0, hq⟩
    ⟨(by show 1 ≤ sizeLine; decide), hd, [(k, b, w2)], .cons ⟨rfl, (by rw [upd_ne (ne_of eb e (fun z => nomatch z))]; exact eb), ry⟩ .nil, q0, es, ep, hq, h3, h4, h5', h6'⟩
  exact ⟨.ref s.heap.objs.size, _, I4, rfl, q2⟩
end
/-! ### data compared: <, min(x, y) -/
section
open PySem.SeqAt PySem.W
variable {X : Cx}
def rLtD (K : PySem.W.Frag) : R2 := fun x y H Q => ∃ d e, Dp K H x d ∧ Dp K H y e ∧ alike d e = true ∧ d ≠ .none ∧ d.depth ≤ 60 ∧ Q (.bl (dataLt d e)) H
theorem op_ltD (hu : X.A.units + 64 < cLine) : OpR X (compareOp .Lt) (rLtD X.K) := by
  intro pins s σ H x y v u Q I rx ry h
  obtain ⟨d, e, hd, he, al, dn, dz, q⟩ := h
  obtain ⟨as, r1⟩ := Dp.reads I d x v hd rx
  obtain ⟨bs, r2⟩ := Dp.reads I e y u he ry
  exact lt_data r1 r2 al dn (by have : min d.depth e.depth ≤ d.depth := Nat.min_le_left _ _; omega) ⟨.bl _, H, I, rfl, q⟩
theorem min_two_data {prog : Program} {w : World} {A : Around} {E : Value → Shared → Prop} {s : Shared} {a b : Value} {x y : PyData} {as bs : List Addr} {Q : Value → Shared → Prop} (hh : A.handled = none) (hra : Reads s.heap a x as) (hrb : Reads s.heap b y bs) (ha : AlikeAll [x, y]) (hu : A.units + 1 + PyData.depthAll [x, y] < cLine)
    (hQ : ∀ h' tk, (∀ b o, s.heap.get? b = some o → h'.get? b = some o) → Q (if dataLt y x then b else a) { s with heap := h', toks := tk }) : wpAny (model prog w) A (call (.builtin "min") [a, b]) Q E s := by
  have hname : (toString "min" ++ toString ".loop" : String) = "min.loop" := by decide
  refine call_function_tree F.kind_min F.plain_min F.entry_min (F.args_min2 _ _) ?_
  show wpAny _ A.in1 (Builtin.Builtins.bindParams "min" ["key", "default"] 0 ⟨[], []⟩ >>= _) _ _ s
  refine wpAny_bind (wpAny_of_eq (show Builtin.Builtins.bindParams "min" ["key", "default"] 0 ⟨[], []⟩ = pure [none, none] from rfl) ?_)
  show wpAny _ A.in1 (newTuple [a, b] >>= _) _ _ s
  refine wpAny_bind (wpAny_newObj_type ?_)
  have kT : ∀ c o, s.heap.get? c = some o → (s.heap.push { cls := .type "tuple", data := .seq #[a, b] }).get? c = some o := fun c o e => Heap.get?_push_of_some _ e
  have hT : ({ s with heap := s.heap.push { cls := .type "tuple", data := .seq #[a, b] } } : Shared).heap.IsTuple s.heap.objs.size #[a, b] := ⟨_, Heap.get?_push_size _ rfl, rfl, 0, rfl⟩
  have hr : ReadsAll ({ s with heap := s.heap.push { cls := .type "tuple", data := .seq #[a, b] } } : Shared).heap [a, b] [x, y] (as ++ (bs ++ [])) := .cons (reads_keeps kT hra) (.cons (reads_keeps kT hrb) .nil)
  refine wpAny_bind (iter_tupleW (A := A.in1) hh hT fun s₂ e W st hfp hw hk => ?_)
  refine wpAny_bind (wpAny_newObj_type ?_)
  have hSf : s₂.heap.objs.size ∉ [(s.heap.push { cls := .type "tuple", data := .seq #[a, b] }).objs.size, s.heap.objs.size] := fun hm => Nat.lt_irrefl _ (hfp _ hm)
  have hsz : (s.heap.push { cls := .type "tuple", data := .seq #[a, b] }).objs.size = s.heap.objs.size + 1 := Heap.size_push ..
  rw [hname]
  refine wpAny_pure ⟨plainId_quiet F.plain_min_loop _, codeAny_min_loop_firstH W (s.heap.push { cls := .type "tuple", data := .seq #[a, b] }) hw _ (cmpIn_lt (s := ({ s with heap := s.heap.push { cls := .type "tuple", data := .seq #[a, b] } } : Shared)) (A := A.in1) hr ha (by show A.units + 1 + _ < _; exact hu)) s₂.heap.objs.size hSf (fresh_in hk) _ (by show 0 < 2; decide) (fun b o e => Heap.get?_push_of_some _ (hk b o e)) (W.frame 0 s₂ _ s₂.toks st (Nat.le_refl _) fun b _ o e => Heap.get?_push_of_some _ e) (Heap.get?_push_size _ rfl) fun v s' hP hm => ?_⟩
  have m := Moved.drop_new (tk := s₂.toks) hm (Nat.le_refl _)
  obtain ⟨h', tk, rfl, hk'⟩ := moved_old e rfl m
  have e2 := (argBest_fold dataLt PyData.none x [y] 1 (Nat.le_refl _)).2
  have hv : v = if dataLt y x then b else a := by
    have hP' : #[a, b][argBest (fun i j => dataLt (([x, y] : List PyData).getD i PyData.none) (([x, y] : List PyData).getD j PyData.none)) 1]? = some v := hP
    by_cases c : dataLt y x = true
    · have e3 : argBest (fun i j => dataLt (([x, y] : List PyData).getD i PyData.none) (([x, y] : List PyData).getD j PyData.none)) 1 = 1 := by simp [argBest, c]
      rw [e3] at hP'
      rw [if_pos c]
      simpa using hP'.symm
    · have e3 : argBest (fun i j => dataLt (([x, y] : List PyData).getD i PyData.none) (([x, y] : List PyData).getD j PyData.none)) 1 = 0 := by simp [argBest, c]
      rw [e3] at hP'
      rw [if_neg c]
      simpa using hP'.symm
  rw [hv]
  exact hQ h' tk fun c o ec => hk' c o (kT c o ec)
def rMin2D (K : PySem.W.Frag) : List V → Hp → VK → Prop := fun xs H Q => ∃ u v d e, xs = [u, v] ∧ Dp K H u d ∧ Dp K H v e ∧ AlikeAll [d, e] ∧ PyData.depthAll [d, e] ≤ 60 ∧ Q (if dataLt e d = true then v else u) H
theorem call_min2D (hc : X.calm = true) (hu : X.A.units + 64 < cLine) : CallR X (.builtin "min") (rMin2D X.K) := by
  intro pins s σ H xs us Q I r h
  obtain ⟨x, y, d, e, rfl, hd, he, al, dz, q⟩ := h
  obtain ⟨u, v, rfl, ru, rv⟩ := vals2 r
  obtain ⟨as, r1⟩ := Dp.reads I d x u hd ru
  obtain ⟨bs, r2⟩ := Dp.reads I e y v he rv
  refine min_two_data (I.ok.hd hc) r1 r2 al (by omega) fun h' tk k => ⟨_, H, I.kept k, ?_, q⟩
  by_cases c : dataLt e d = true
  · rw [if_pos c, if_pos c]
    exact rv
  · rw [if_neg c, if_neg c]
    exact ru
end
end L2.Ng
namespace L2.Ng
open PySem PySem.Spec PyProof.Rows
theorem hu64 {A : Around} {k : Nat} (hr : Room k A) : A.units + 64 < cLine := by
  have := hr.un
  omega
theorem hu65 {A : Around} {k : Nat} (hr : Room k A) : A.units + 65 < cLine := by
  have := hr.un
  omega
section
variable {X : Cx} {a b : Expr} {pos : Pos} {ta tb : TE}
def rIxC : R2 := fun x y H Q => ∃ z i c, x = .str z ∧ y = .int i ∧ 0 ≤ i ∧ i < 2 ^ 63 ∧ i < z.length ∧ z.cps[i.toNat]? = some c ∧ Q (.str ⟨#[c]⟩) H
def rAddC : R2 := fun x y H Q => ∃ i j, x = .str i ∧ y = .str j ∧ i.length + j.length ≤ sizeLine ∧ Q (.str (i ++ j)) H
def rInC (neg : Bool) : R2 := fun x y H Q => ∃ i j, x = .str i ∧ y = .str j ∧ Q (.bl (if neg then (Builtin.Str.occurrences j i 0 j.length 1).isEmpty else !(Builtin.Str.occurrences j i 0 j.length 1).isEmpty)) H
theorem pe_item_strC (ha : PE X a ta) (hb : PE X b tb) (hs : PlainIxT b) : PE X (.Subscript a b pos) (tOp rIxC ta tb) := pe_item_str ha hb hs
theorem op_addC : OpR X (binaryOp .Add) rAddC := op_add_str
theorem op_inC : OpR X (compareOp .In) (rInC false) := op_in_str
theorem op_notInC : OpR X (compareOp .NotIn) (rInC true) := by
  intro pins s σ H x y v u Q I rx ry h
  obtain ⟨i, j, e1, e2, q⟩ := h
  refine op_notin_str _ _ _ _ _ _ _ _ _ I rx ry ⟨i, j, e1, e2, ?_⟩
  rw [Bool.not_not]
  exact q
end
theorem z_ixC {H : Hp} {Q : VK} {z : Str} {i : Int} {j c : Nat} (hi : i = (j : Int)) (hz : z.length < 2 ^ 62) (hc : z.cps[j]? = some c) (q : Q (.str ⟨#[c]⟩) H) : rIxC (.str z) (.int i) H Q := by
  subst hi
  have hl : j < z.length := by
    have := (Array.getElem?_eq_some_iff.mp hc).1
    exact this
  exact ⟨z, _, c, rfl, rfl, by omega, by omega, by omega, by simpa using hc, q⟩
theorem z_addC {H : Hp} {Q : VK} {a b : Str} (h : a.length + b.length ≤ sizeLine) (q : Q (.str (a ++ b)) H) : rAddC (.str a) (.str b) H Q := ⟨a, b, rfl, rfl, h, q⟩
theorem z_inC {H : Hp} {Q : VK} {a b : Str} {neg : Bool} (q : Q (.bl (if neg then (Builtin.Str.occurrences b a 0 b.length 1).isEmpty else !(Builtin.Str.occurrences b a 0 b.length 1).isEmpty)) H) : rInC neg (.str a) (.str b) H Q := ⟨a, b, rfl, rfl, q⟩
theorem z_catA {K : PySem.W.Frag} {H : Hp} {Q : VK} {a b : Addr} {xs ys : List V} (h1 : SqT K H a xs) (h2 : SqT K H b ys) (n1 : xs ≠ []) (n2 : ys ≠ []) (l : xs.length + ys.length ≤ sizeLine) (k : ∀ p, H p = none → Q (.ref p) (upd H p (.tup (xs ++ ys)))) : rCatA K (.ref a) (.ref b) H Q :=
  ⟨a, b, xs, ys, rfl, rfl, h1, h2, l, fun z => absurd z n1, fun _ z => absurd z n2, fun _ _ => k⟩
def SetDQ (a : Addr) (y z : V) (H : Hp) (Q : VK) : Prop := ∃ (kvs : List (List Key × V)) (k : List Key) (b : Addr), H a = some (.dT kvs) ∧ y = .ref b ∧ H b = some (.tup (k.map kV)) ∧ kvs.length < sizeLine ∧
  (∀ v, valV kvs k = some v → Q v H) ∧ (valV kvs k = none → Q z (upd H a (.dT (putK kvs k z))))
theorem z_dsetT {σ : L2.St} {H : Hp} {Q : VK} {td ty tx : TE} (h : td σ H fun x H1 => IsDQ x H1 fun a => ty σ H1 fun y H2 => tx σ H2 fun z H3 => SetDQ a y z H3 Q) : tDSetT td ty tx σ H Q := h
theorem z_setdq {H : Hp} {Q : VK} {a b : Addr} {z : V} {kvs : List (List Key × V)} {k : List Key} (e : H a = some (.dT kvs)) (eb : H b = some (.tup (k.map kV))) (hl : kvs.length < sizeLine) (h1 : ∀ v, valV kvs k = some v → Q v H) (h2 : valV kvs k = none → Q z (upd H a (.dT (putK kvs k z)))) : SetDQ a (.ref b) z H Q := ⟨kvs, k, b, e, rfl, eb, hl, h1, h2⟩
def DispQ (p : Addr) (x y : V) (H : Hp) (Q : VK) : Prop := H p = some (.dT []) ∧ ∃ (k : List Key) (b : Addr), x = .ref b ∧ H b = some (.tup (k.map kV)) ∧ Q (.ref p) (upd H p (.dT [(k, y)]))
theorem z_dispT {σ : L2.St} {H : Hp} {Q : VK} {tk tv : TE} (h : ∀ p, H p = none → tk σ (upd H p (.dT [])) fun x H1 => tv σ H1 fun y H2 => DispQ p x y H2 Q) : tDispT tk tv σ H Q := h
theorem z_dispq {H : Hp} {Q : VK} {p b : Addr} {y : V} {k : List Key} (e : H p = some (.dT [])) (eb : H b = some (.tup (k.map kV))) (q : Q (.ref p) (upd H p (.dT [(k, y)]))) : DispQ p (.ref b) y H Q := ⟨e, k, b, rfl, eb, q⟩
theorem z_popT {H : Hp} {Q : VK} {a b : Addr} {kvs : List (List Key × V)} {k : List Key} {v : V} (e : H a = some (.dT kvs)) (eb : H b = some (.tup (k.map kV))) (hv : valV kvs k = some v) (q : Q v (upd H a (.dT (dropK kvs k)))) : rPopT1 (.ref a) [.ref b] H Q := ⟨a, kvs, k, b, v, rfl, rfl, e, eb, hv, q⟩
theorem z_notInDT {K : PySem.W.Frag} {H : Hp} {Q : VK} {x y : V} {d : PyData} {ds : List PyData} (h1 : Dp K H x d) (h2 : Dp K H y (.tuple ds)) (s1 : SeqAt.shaped d = true) (s2 : SeqAt.shaped (.tuple ds) = true) (q : Q (.bl (!ds.any fun z => PyData.eqv z d)) H) : rNotInDT K x y H Q := ⟨d, ds, h1, h2, s1, s2, q⟩
theorem z_min2D {K : PySem.W.Frag} {H : Hp} {Q : VK} {u v : V} {d e : PyData} (h1 : Dp K H u d) (h2 : Dp K H v e) (al : PySem.W.AlikeAll [d, e]) (dz : PyData.depthAll [d, e] ≤ 60) (q : Q (if PySem.W.dataLt e d = true then v else u) H) : rMin2D K [u, v] H Q := ⟨u, v, d, e, rfl, h1, h2, al, dz, q⟩
theorem z_ltD {K : PySem.W.Frag} {H : Hp} {Q : VK} {x y : V} {d e : PyData} (h1 : Dp K H x d) (h2 : Dp K H y e) (al : PySem.W.alike d e = true) (dn : d ≠ .none) (dz : d.depth ≤ 60) (q : Q (.bl (PySem.W.dataLt d e)) H) : rLtD K x y H Q := ⟨d, e, h1, h2, al, dn, dz, q⟩
theorem lt_spot {x : Str} {m n : Int} : PySem.W.dataLt (.tuple [.str x, .int m]) (.tuple [.str x, .int n]) = decide (m < n) := by
  simp only [PySem.W.dataLt, PySem.W.keyToks, PySem.W.keyToksAll, List.cons_append, List.nil_append]
  rw [lex_self, lex_self, lex_self]
  by_cases e : m = n
  · subst e
    rw [lex_self, lex_self, decide_eq_false (Int.lt_irrefl m)]
    rfl
  · rw [lex_diff (fun z => e (Sum.inl.inj z))]
    rfl
theorem z_setq {a : Addr} {y z : V} {H : Hp} {Q : VK} (P : Addr → Hp → Prop) (s : SetDQ a y z H fun v H' => ∃ b, v = .ref b ∧ P b H') (q : ∀ b H', P b H' → Q (.ref b) H') : SetDQ a y z H Q := by
  obtain ⟨kvs, k, b, h1, h2, h3, h4, h5, h6⟩ := s
  refine ⟨kvs, k, b, h1, h2, h3, h4, fun v hv => ?_, fun hn => ?_⟩
  · obtain ⟨c, rfl, hp⟩ := h5 v hv
    exact q c _ hp
  · obtain ⟨c, rfl, hp⟩ := h6 hn
    exact q c _ hp
def Disp1Q (p : Addr) (x y : V) (H : Hp) (Q : VK) : Prop := H p = some (.dK []) ∧ ∃ kvs : List (Key × V), [(x, y)] = kvs.map (fun kv => (kV kv.1, kv.2)) ∧ kvs.length ≤ 15 ∧ Q (.ref p) (upd H p (.dK (mergeK [] kvs)))
theorem z_disp1 {σ : L2.St} {H : Hp} {Q : VK} {tk tv : TE} (h : ∀ p, H p = none → tk σ (upd H p (.dK [])) fun x H1 => tv σ H1 fun y H2 => Disp1Q p x y H2 Q) : tDisp [(tk, tv)] σ H Q := h
theorem z_disp1q {p : Addr} {x y : V} {k : Key} {H : Hp} {Q : VK} (e : H p = some (.dK [])) (hx : x = kV k) (q : Q (.ref p) (upd H p (.dK [(k, y)]))) : Disp1Q p x y H Q := ⟨e, [(k, y)], by rw [hx]; rfl, by simp, q⟩
end L2.Ng

namespace L2.Ng
open PySem PySem.Spec PyProof.Rows
/-! ### sendings, bars, letters spread: plain -/
structure Road where
  mark : Nat
  one : Str
  other : Str
  lag : Nat
structure Snd where
  mark : Nat
  mom : Nat
  one : Str
  other : Str
  late : Nat
abbrev Spot := Str × Nat
def Snd.early (s : Snd) : Spot := (s.one, s.mom)
def Snd.end_ (s : Snd) : Spot := (s.other, s.late)
def Snd.key (s : Snd) : List Key := [.inl (s.mark : Int), .inl (s.mom : Int)]
def spotKey (p : Spot) : List Key := [.inr p.1, .inl (p.2 : Int)]
theorem spotKey_inj {p q : Spot} (h : spotKey p = spotKey q) : p = q := by
  unfold spotKey at h
  simp only [List.cons.injEq, Sum.inr.injEq, Sum.inl.injEq, and_true] at h
  exact Prod.ext h.1 (by omega)
theorem key_spot {s : Snd} {p : Spot} : s.key ≠ spotKey p := by
  intro h
  unfold Snd.key spotKey at h
  simp at h
def b01 (b : Bool) : Int := if b then 1 else 0
def cut (S : Spot → Bool) (s : Snd) : Bool := S s.early && !S s.end_
def breadth (L : List Snd) (S : Spot → Bool) : Nat := (L.filter (cut S)).length
structure Bar (t : Nat) (a b : Spot) (S : Spot → Bool) : Prop where
  src : S a = true
  dst : S b = false
  up : ∀ x m, m < t → S (x, m) = true → S (x, m + 1) = true
structure IsReach (L : List Snd) (t : Nat) (a b : Spot) (k r : Nat) : Prop where
  le : r ≤ k
  bar : ∀ S, Bar t a b S → r ≤ breadth L S
  hit : r = k ∨ ∃ S, Bar t a b S ∧ r = breadth L S
abbrev Kvs := List (List Key × V)
def amt : V → Int
  | .int i => i
  | _ => 0
def wt (L : List Snd) (S : Spot → Bool) (k : List Key) : Int := match L.find? fun s => decide (s.key = k) with
  | some s => b01 (S s.early) - b01 (S s.end_)
  | none => match k with
    | [.inr x, .inl m] => b01 (S (x, m.toNat)) - b01 (S (x, m.toNat + 1))
    | _ => 0
def netS (L : List Snd) (S : Spot → Bool) (kv : Kvs) : Int := (kv.map fun p => amt p.2 * wt L S p.1).sum
def KeysOk (L : List Snd) : Prop := (L.map Snd.key).Nodup
theorem find_key {L : List Snd} (hL : KeysOk L) {s : Snd} (h : s ∈ L) : L.find? (fun z => decide (z.key = s.key)) = some s := by
  induction L with
  | nil => cases h
  | cons a l ih =>
    have hn : (a.key :: l.map Snd.key).Nodup := hL
    rw [List.nodup_cons] at hn
    by_cases e : a.key = s.key
    · rw [List.find?_cons_of_pos (by simp [e])]
      rcases List.mem_cons.mp h with h | h
      · rw [h]
      · exact absurd (List.mem_map.mpr ⟨s, h, e.symm⟩) hn.1
    · rw [List.find?_cons_of_neg (by simp [e])]
      rcases List.mem_cons.mp h with h | h
      · exact absurd (by rw [h]) e
      · exact ih hn.2 h
theorem wt_send {L : List Snd} (hL : KeysOk L) {S : Spot → Bool} {s : Snd} (h : s ∈ L) : wt L S s.key = b01 (S s.early) - b01 (S s.end_) := by
  unfold wt
  rw [find_key hL h]
theorem wt_hold {L : List Snd} {S : Spot → Bool} {x : Str} {m : Nat} : wt L S (spotKey (x, m)) = b01 (S (x, m)) - b01 (S (x, m + 1)) := by
  unfold wt
  have e : L.find? (fun z => decide (z.key = spotKey (x, m))) = none := List.find?_eq_none.mpr fun s _ => by simp [key_spot]
  rw [e]
  rfl
/-- entries of the letters under way -/
structure UsedOk (L : List Snd) (t : Nat) (kv : Kvs) : Prop where
  nd : (kv.map (·.1)).Nodup
  ok : ∀ p ∈ kv, (∃ s ∈ L, p.1 = s.key ∧ p.2 = .int 1) ∨ ∃ (x : Str) (m c : Nat), m < t ∧ p.1 = spotKey (x, m) ∧ p.2 = .int c
theorem valV_mem {kv : Kvs} {k : List Key} {v : V} (h : valV kv k = some v) : (k, v) ∈ kv := by
  induction kv with
  | nil => cases h
  | cons p r ih =>
    by_cases e : p.1 = k
    · rw [valV_pos e] at h
      rw [← Option.some.inj h, ← e]
      exact List.mem_cons_self ..
    · rw [valV_neg e] at h
      exact List.mem_cons_of_mem _ (ih h)
theorem mem_valV {kv : Kvs} (n : (kv.map (·.1)).Nodup) {p : List Key × V} (h : p ∈ kv) : valV kv p.1 = some p.2 := by
  induction kv with
  | nil => cases h
  | cons q r ih =>
    rw [List.map_cons, List.nodup_cons] at n
    rcases List.mem_cons.mp h with h | h
    · rw [h, valV_pos rfl]
    · by_cases e : q.1 = p.1
      · exact absurd (List.mem_map.mpr ⟨p, h, e.symm⟩) n.1
      · rw [valV_neg e]
        exact ih n.2 h
theorem valV_none {kv : Kvs} {k : List Key} : valV kv k = none ↔ k ∉ kv.map (·.1) := by
  constructor
  · intro h m
    have := valV_any k kv
    rw [h, Option.isSome_none, List.any_eq_false] at this
    obtain ⟨p, hp, e⟩ := List.mem_map.mp m
    exact this p hp (by simp [e])
  · intro h
    cases e : valV kv k with
    | none => rfl
    | some v => exact absurd (List.mem_map.mpr ⟨(k, v), valV_mem e, rfl⟩) h
def valI (kv : Kvs) (k : List Key) : Int := match valV kv k with
  | some v => amt v
  | none => 0
theorem netS_cons {L : List Snd} {S : Spot → Bool} {p : List Key × V} {r : Kvs} : netS L S (p :: r) = amt p.2 * wt L S p.1 + netS L S r := by simp [netS]
theorem netS_app {L : List Snd} {S : Spot → Bool} {p r : Kvs} : netS L S (p ++ r) = netS L S p + netS L S r := by simp [netS, List.sum_append]
theorem netS_map {L : List Snd} {S : Spot → Bool} {k : List Key} {v v' : V} : ∀ {kv : Kvs}, (kv.map (·.1)).Nodup → valV kv k = some v → netS L S (kv.map fun p => if p.1 = k then (p.1, v') else p) = netS L S kv + (amt v' - amt v) * wt L S k
  | [], _, h => by cases h
  | p :: r, n, h => by
    rw [List.map_cons, List.nodup_cons] at n
    rw [List.map_cons, netS_cons, netS_cons]
    by_cases e : p.1 = k
    · rw [valV_pos e] at h
      have hr : r.map (fun p => if p.1 = k then (p.1, v') else p) = r := by
        conv => rhs; rw [← List.map_id r]
        refine List.map_congr_left fun q hq => ?_
        rw [if_neg fun z => n.1 (List.mem_map.mpr ⟨q, hq, z.trans e.symm⟩)]
        rfl
      rw [hr, if_pos e, ← Option.some.inj h, e, Int.sub_mul]
      show amt v' * wt L S k + netS L S r = amt p.2 * wt L S k + netS L S r + (amt v' * wt L S k - amt p.2 * wt L S k)
      omega
    · rw [valV_neg e] at h
      rw [if_neg e, netS_map n.2 h]
      omega
theorem keys_map {k : List Key} {v' : V} {kv : Kvs} : ((kv.map fun p => if p.1 = k then (p.1, v') else p).map (·.1)) = kv.map (·.1) := by
  rw [List.map_map]
  refine List.map_congr_left fun q _ => ?_
  simp only [Function.comp]
  by_cases e : q.1 = k
  · rw [if_pos e]
  · rw [if_neg e]
theorem putK_old {kv : Kvs} {k : List Key} {v v' : V} (h : valV kv k = some v) : putK kv k v' = kv.map fun p => if p.1 = k then (p.1, v') else p := by
  unfold putK
  rw [if_pos (by rw [valV_any, h]; rfl)]
theorem netS_put {L : List Snd} {S : Spot → Bool} {kv : Kvs} {k : List Key} {v' : V} (n : (kv.map (·.1)).Nodup) : netS L S (putK kv k v') = netS L S kv + (amt v' - valI kv k) * wt L S k := by
  unfold valI
  cases e : valV kv k with
  | none =>
    rw [putK_new _ e, netS_app, netS_cons]
    simp [netS]
  | some v => rw [putK_old e, netS_map n e]
theorem nodup_put {kv : Kvs} {k : List Key} {v' : V} (n : (kv.map (·.1)).Nodup) : ((putK kv k v').map (·.1)).Nodup := by
  cases e : valV kv k with
  | none => exact nd_putK v' n e
  | some v =>
    rw [putK_old e, keys_map]
    exact n
theorem mem_put {kv : Kvs} {k : List Key} {v' : V} {p : List Key × V} (h : p ∈ putK kv k v') : p ∈ kv ∨ p = (k, v') := by
  cases e : valV kv k with
  | none =>
    rw [putK_new _ e] at h
    rcases List.mem_append.mp h with h | h
    · exact .inl h
    · exact .inr (by simpa using h)
  | some v =>
    rw [putK_old e] at h
    obtain ⟨q, hq, rfl⟩ := List.mem_map.mp h
    by_cases c : q.1 = k
    · rw [if_pos c, c]
      exact .inr rfl
    · rw [if_neg c]
      exact .inl hq
theorem netS_drop {L : List Snd} {S : Spot → Bool} {k : List Key} : ∀ {kv : Kvs}, (kv.map (·.1)).Nodup → netS L S (dropK kv k) = netS L S kv - valI kv k * wt L S k
  | [], _ => by simp [dropK, netS, valI, valV]
  | p :: r, n => by
    rw [List.map_cons, List.nodup_cons] at n
    have ih := netS_drop (L := L) (S := S) (k := k) n.2
    unfold dropK at ih ⊢
    by_cases e : p.1 = k
    · have hr : r.filter (fun kv => decide (kv.1 ≠ k)) = r := List.filter_eq_self.mpr fun q hq => decide_eq_true fun z => n.1 (List.mem_map.mpr ⟨q, hq, z.trans e.symm⟩)
      rw [List.filter_cons_of_neg (by simp [e]), hr, netS_cons]
      unfold valI
      rw [valV_pos e, e]
      show netS L S r = amt p.2 * wt L S k + netS L S r - amt p.2 * wt L S k
      omega
    · rw [List.filter_cons_of_pos (by simp [e]), netS_cons, ih, netS_cons]
      have : valI (p :: r) k = valI r k := by
        unfold valI
        rw [valV_neg e]
      rw [this]
      omega
theorem valV_drop {kv : Kvs} {k j : List Key} : valV (dropK kv k) j = if j = k then none else valV kv j := by
  induction kv with
  | nil => simp [dropK, valV]
  | cons p r ih =>
    unfold dropK at ih ⊢
    by_cases e : p.1 = k
    · rw [List.filter_cons_of_neg (by simp [e]), ih]
      by_cases c : j = k
      · rw [if_pos c, if_pos c]
      · rw [if_neg c, if_neg c, valV_neg (by rw [e]; exact fun z => c z.symm)]
    · rw [List.filter_cons_of_pos (by simp [e])]
      by_cases c : p.1 = j
      · rw [valV_pos c, if_neg (by rw [← c]; exact e), valV_pos c]
      · rw [valV_neg c, ih, valV_neg c]
theorem add_sub_l (a b : Int) : a + b - a = b := by omega
/-! steps that may be gone -/
inductive Arc (L : List Snd) (t : Nat) (kv : Kvs) : Spot → Option (List Key) → Spot → Prop
  | wait {x : Str} {m : Nat} : m < t → Arc L t kv (x, m) none (x, m + 1)
  | go {s : Snd} : s ∈ L → valV kv s.key = none → Arc L t kv s.early (some s.key) s.end_
  | back {s : Snd} : s ∈ L → (valV kv s.key).isSome = true → Arc L t kv s.end_ (some s.key) s.early
  | undo {x : Str} {m c : Nat} : valV kv (spotKey (x, m)) = some (.int c) → 0 < c → Arc L t kv (x, m + 1) (some (spotKey (x, m))) (x, m)
/-- the entry a step changes -/
def akey (st : Option (List Key)) (a b : Spot) : List Key := if a.1 = b.1 then spotKey (if a.2 < b.2 then a else b) else st.getD []
def along (kv : Kvs) (st : Option (List Key)) (a b : Spot) : Kvs :=
  if a.1 = b.1 then putK kv (spotKey (if a.2 < b.2 then a else b)) (.int (valI kv (spotKey (if a.2 < b.2 then a else b)) + (if a.2 < b.2 then 1 else -1)))
  else if (valV kv (st.getD [])).isSome then dropK kv (st.getD []) else putK kv (st.getD []) (.int 1)
/-- a key's ends -/
inductive Touch (L : List Snd) : List Key → Spot → Prop
  | h0 {x : Str} {m : Nat} : Touch L (spotKey (x, m)) (x, m)
  | h1 {x : Str} {m : Nat} : Touch L (spotKey (x, m)) (x, m + 1)
  | s0 {s : Snd} : s ∈ L → Touch L s.key s.early
  | s1 {s : Snd} : s ∈ L → Touch L s.key s.end_
structure SndsOk (L : List Snd) (t : Nat) : Prop where
  keys : KeysOk L
  ne : ∀ s ∈ L, s.one ≠ s.other
  le : ∀ s ∈ L, s.late ≤ t
theorem snd_eq {L : List Snd} (hL : KeysOk L) {s z : Snd} (h : s ∈ L) (h2 : z ∈ L) (e : s.key = z.key) : s = z := by
  have a := find_key hL h
  have b := find_key hL h2
  rw [e] at a
  exact Option.some.inj (a.symm.trans b)
theorem touch_hold {L : List Snd} {x : Str} {m : Nat} {p : Spot} (h : Touch L (spotKey (x, m)) p) : p = (x, m) ∨ p = (x, m + 1) := by
  generalize e : spotKey (x, m) = k at h
  cases h with
  | h0 => exact .inl (spotKey_inj e).symm
  | h1 =>
    have := spotKey_inj e
    simp only [Prod.mk.injEq] at this
    exact .inr (by rw [this.1, this.2])
  | s0 h => exact absurd e.symm key_spot
  | s1 h => exact absurd e.symm key_spot
theorem touch_send {L : List Snd} (hL : KeysOk L) {s : Snd} (hs : s ∈ L) {p : Spot} (h : Touch L s.key p) : p = s.early ∨ p = s.end_ := by
  generalize e : s.key = k at h
  cases h with
  | h0 => exact absurd e key_spot
  | h1 => exact absurd e key_spot
  | s0 h => exact .inl (by rw [snd_eq hL hs h e])
  | s1 h => exact .inr (by rw [snd_eq hL hs h e])
/-- one step of the way back: what is kept, what it brings -/
theorem along_ok {L : List Snd} {t : Nat} {kv : Kvs} (hL : SndsOk L t) (U : UsedOk L t kv) {a b : Spot} {st : Option (List Key)} (A : Arc L t kv a st b) :
    UsedOk L t (along kv st a b) ∧ (∀ S, netS L S (along kv st a b) = netS L S kv + b01 (S a) - b01 (S b)) ∧ (∀ k, k ≠ akey st a b → valV (along kv st a b) k = valV kv k) ∧ Touch L (akey st a b) a ∧ ∀ p, Touch L (akey st a b) p → p = a ∨ p = b := by
  cases A with
  | @wait x m hm =>
    have e1 : along kv none (x, m) (x, m + 1) = putK kv (spotKey (x, m)) (.int (valI kv (spotKey (x, m)) + 1)) := by simp [along]
    have e2 : akey none (x, m) (x, m + 1) = spotKey (x, m) := by simp [akey]
    rw [e1, e2]
    refine ⟨⟨nodup_put U.nd, fun p hp => ?_⟩, fun S => ?_, fun k hk => ?_, .h0, fun p h => touch_hold h⟩
    · rcases mem_put hp with h | h
      · exact U.ok p h
      · refine .inr ⟨x, m, (valI kv (spotKey (x, m)) + 1).toNat, hm, by rw [h], ?_⟩
        rw [h]
        have : 0 ≤ valI kv (spotKey (x, m)) := by
          unfold valI
          cases e : valV kv (spotKey (x, m)) with
          | none => exact Int.le_refl _
          | some v =>
            rcases U.ok _ (valV_mem e) with ⟨s, hs, z, _⟩ | ⟨_, _, c, _, _, z⟩
            · exact absurd z.symm key_spot
            · have : v = .int c := z
              rw [this]
              show (0 : Int) ≤ c
              omega
        show V.int _ = V.int _
        rw [Int.toNat_of_nonneg (by omega)]
    · rw [netS_put U.nd, wt_hold]
      show netS L S kv + ((valI kv (spotKey (x, m)) + 1) - valI kv (spotKey (x, m))) * _ = _
      rw [add_sub_l, Int.one_mul]
      omega
    · rw [valV_put, if_neg hk]
  | @undo x m c hv hc =>
    have e1 : along kv (some (spotKey (x, m))) (x, m + 1) (x, m) = putK kv (spotKey (x, m)) (.int (valI kv (spotKey (x, m)) + -1)) := by
      unfold along
      rw [if_pos rfl, if_neg (by show ¬ m + 1 < m; omega), if_neg (by show ¬ m + 1 < m; omega)]
    have e2 : akey (some (spotKey (x, m))) (x, m + 1) (x, m) = spotKey (x, m) := by
      unfold akey
      rw [if_pos rfl, if_neg (by show ¬ m + 1 < m; omega)]
    have ev : valI kv (spotKey (x, m)) = c := by
      unfold valI
      rw [hv]
      rfl
    rw [e1, e2]
    have hm : m < t := by
      rcases U.ok _ (valV_mem hv) with ⟨s, hs, z, _⟩ | ⟨x', m', _, hm, z, _⟩
      · exact absurd z.symm key_spot
      · have := spotKey_inj z
        simp only [Prod.mk.injEq] at this
        omega
    refine ⟨⟨nodup_put U.nd, fun p hp => ?_⟩, fun S => ?_, fun k hk => ?_, .h1, fun p h => (touch_hold h).symm⟩
    · rcases mem_put hp with h | h
      · exact U.ok p h
      · refine .inr ⟨x, m, c - 1, hm, by rw [h], ?_⟩
        rw [h, ev]
        show V.int _ = V.int _
        congr 1
        omega
    · rw [netS_put U.nd, wt_hold]
      show netS L S kv + ((valI kv (spotKey (x, m)) + -1) - valI kv (spotKey (x, m))) * _ = _
      rw [add_sub_l, Int.neg_mul, Int.one_mul]
      omega
    · rw [valV_put, if_neg hk]
  | @go s hs hv =>
    have hne : s.early.1 ≠ s.end_.1 := hL.ne s hs
    have e1 : along kv (some s.key) s.early s.end_ = putK kv s.key (.int 1) := by
      unfold along
      rw [if_neg hne]
      show (if (valV kv s.key).isSome = true then _ else _) = _
      rw [hv]
      rfl
    have e2 : akey (some s.key) s.early s.end_ = s.key := by
      unfold akey
      rw [if_neg hne]
      rfl
    rw [e1, e2]
    refine ⟨⟨nodup_put U.nd, fun p hp => ?_⟩, fun S => ?_, fun k hk => ?_, .s0 hs, fun p h => touch_send hL.keys hs h⟩
    · rcases mem_put hp with h | h
      · exact U.ok p h
      · exact .inl ⟨s, hs, by rw [h], by rw [h]⟩
    · rw [netS_put U.nd, wt_send hL.keys hs]
      have : valI kv s.key = 0 := by
        unfold valI
        rw [hv]
      rw [this]
      show netS L S kv + (1 - 0) * _ = _
      rw [Int.sub_zero, Int.one_mul]
      omega
    · rw [valV_put, if_neg hk]
  | @back s hs hv =>
    have hne : s.end_.1 ≠ s.early.1 := fun z => hL.ne s hs z.symm
    have e1 : along kv (some s.key) s.end_ s.early = dropK kv s.key := by
      unfold along
      rw [if_neg hne]
      show (if (valV kv s.key).isSome = true then _ else _) = _
      rw [hv]
      rfl
    have e2 : akey (some s.key) s.end_ s.early = s.key := by
      unfold akey
      rw [if_neg hne]
      rfl
    rw [e1, e2]
    refine ⟨⟨?_, fun p hp => U.ok p (List.mem_filter.mp hp).1⟩, fun S => ?_, fun k hk => ?_, .s1 hs, fun p h => (touch_send hL.keys hs h).symm⟩
    · exact U.nd.sublist (List.filter_sublist.map _)
    · rw [netS_drop U.nd, wt_send hL.keys hs]
      have : valI kv s.key = 1 := by
        obtain ⟨v, e⟩ := Option.isSome_iff_exists.mp hv
        unfold valI
        rw [e]
        rcases U.ok _ (valV_mem e) with ⟨_, _, _, z⟩ | ⟨_, _, _, _, z, _⟩
        · have : v = .int 1 := z
          rw [this]
          rfl
        · exact absurd z key_spot
      rw [this, Int.one_mul]
      omega
    · rw [valV_drop, if_neg hk]
/-! weak duality and a bar that is met -/
theorem nodup_sub {α : Type} : ∀ {xs ys : List α}, xs.Nodup → (∀ x ∈ xs, x ∈ ys) → xs.length ≤ ys.length
  | [], _, _, _ => Nat.zero_le _
  | x :: xs, ys, n, h => by
    rw [List.nodup_cons] at n
    obtain ⟨as, bs, rfl⟩ := List.append_of_mem (h x (List.mem_cons_self ..))
    have := nodup_sub (xs := xs) (ys := as ++ bs) n.2 fun z hz => by
      have := h z (List.mem_cons_of_mem _ hz)
      rcases List.mem_append.mp this with h' | h'
      · exact List.mem_append.mpr (.inl h')
      · rcases List.mem_cons.mp h' with h' | h'
        · exact absurd (h' ▸ hz) n.1
        · exact List.mem_append.mpr (.inr h')
    simp only [List.length_append, List.length_cons] at this ⊢
    omega
/-- a key of a sending that crosses -/
def cutK (L : List Snd) (S : Spot → Bool) (k : List Key) : Bool := L.any fun s => decide (s.key = k) && cut S s
theorem cutK_send {L : List Snd} (hL : KeysOk L) {S : Spot → Bool} {s : Snd} (h : s ∈ L) : cutK L S s.key = cut S s := by
  unfold cutK
  cases e : cut S s with
  | true => exact List.any_eq_true.mpr ⟨s, h, by simp [e]⟩
  | false =>
    refine List.any_eq_false.mpr fun z hz => ?_
    by_cases c : z.key = s.key
    · rw [snd_eq hL hz h c, e]
      simp
    · simp [c]
theorem cutK_hold {L : List Snd} {S : Spot → Bool} {p : Spot} : cutK L S (spotKey p) = false := List.any_eq_false.mpr fun z _ => by simp [key_spot]
theorem sum_le (L : List Snd) (S : Spot → Bool) : ∀ kv : Kvs, (∀ p ∈ kv, amt p.2 * wt L S p.1 ≤ b01 (cutK L S p.1)) → netS L S kv ≤ ((kv.filter fun p => cutK L S p.1).length : Int)
  | [], _ => by simp [netS]
  | p :: r, h => by
    have ih := sum_le L S r fun q hq => h q (List.mem_cons_of_mem _ hq)
    have hp := h p (List.mem_cons_self ..)
    rw [netS_cons]
    cases e : cutK L S p.1 with
    | true =>
      rw [e] at hp
      rw [List.filter_cons_of_pos (by simpa using e), List.length_cons]
      have : b01 true = 1 := rfl
      push_cast
      omega
    | false =>
      rw [e] at hp
      rw [List.filter_cons_of_neg (by simp [e])]
      have : b01 false = 0 := rfl
      omega
theorem sum_eq (L : List Snd) (S : Spot → Bool) : ∀ kv : Kvs, (∀ p ∈ kv, amt p.2 * wt L S p.1 = b01 (cutK L S p.1)) → netS L S kv = ((kv.filter fun p => cutK L S p.1).length : Int)
  | [], _ => by simp [netS]
  | p :: r, h => by
    have ih := sum_eq L S r fun q hq => h q (List.mem_cons_of_mem _ hq)
    have hp := h p (List.mem_cons_self ..)
    rw [netS_cons]
    cases e : cutK L S p.1 with
    | true =>
      rw [e] at hp
      rw [List.filter_cons_of_pos (by simpa using e), List.length_cons]
      have : b01 true = 1 := rfl
      push_cast
      omega
    | false =>
      rw [e] at hp
      rw [List.filter_cons_of_neg (by simp [e])]
      have : b01 false = 0 := rfl
      omega
theorem cuts_le {L : List Snd} {t : Nat} {kv : Kvs} (hL : SndsOk L t) (U : UsedOk L t kv) (S : Spot → Bool) : (kv.filter fun p => cutK L S p.1).length ≤ breadth L S := by
  have n1 : ((kv.filter fun p => cutK L S p.1).map (·.1)).Nodup := U.nd.sublist (List.filter_sublist.map _)
  have := nodup_sub (ys := (L.filter (cut S)).map Snd.key) n1 fun k hk => by
    obtain ⟨p, hp, rfl⟩ := List.mem_map.mp hk
    obtain ⟨_, hc⟩ := List.mem_filter.mp hp
    obtain ⟨s, hs, e⟩ := List.any_eq_true.mp (show (L.any fun s => decide (s.key = p.1) && cut S s) = true from hc)
    simp only [Bool.and_eq_true, decide_eq_true_eq] at e
    exact List.mem_map.mpr ⟨s, List.mem_filter.mpr ⟨hs, e.2⟩, e.1⟩
  rw [List.length_map, List.length_map] at this
  exact this
theorem net_le {L : List Snd} {t : Nat} {kv : Kvs} (hL : SndsOk L t) (U : UsedOk L t kv) {S : Spot → Bool} (up : ∀ x m, m < t → S (x, m) = true → S (x, m + 1) = true) : netS L S kv ≤ breadth L S := by
  refine Int.le_trans (sum_le L S kv fun p hp => ?_) (by have := cuts_le hL U S; omega)
  rcases U.ok p hp with ⟨s, hs, e1, e2⟩ | ⟨x, m, c, hm, e1, e2⟩
  · rw [e1, e2, wt_send hL.keys hs, cutK_send hL.keys hs]
    show 1 * _ ≤ _
    rw [Int.one_mul]
    unfold cut
    cases S s.early <;> cases S s.end_ <;> decide
  · rw [e1, e2, wt_hold, cutK_hold]
    have h := up x m hm
    show (c : Int) * _ ≤ 0
    cases a : S (x, m) with
    | true =>
      rw [h a]
      simp [b01]
    | false =>
      cases S (x, m + 1)
      · simp [b01]
      · show (c : Int) * (0 - 1) ≤ 0
        omega
/-- what is found from a: closed -/
def Closed (L : List Snd) (t : Nat) (kv : Kvs) (S : Spot → Bool) : Prop := ∀ p st q, Arc L t kv p st q → S p = true → S q = true
theorem net_eq {L : List Snd} {t : Nat} {kv : Kvs} (hL : SndsOk L t) (U : UsedOk L t kv) {S : Spot → Bool} (C : Closed L t kv S) : netS L S kv = breadth L S := by
  have h1 : netS L S kv = ((kv.filter fun p => cutK L S p.1).length : Int) := sum_eq L S kv fun p hp => by
    have hv := mem_valV U.nd hp
    rcases U.ok p hp with ⟨s, hs, e1, e2⟩ | ⟨x, m, c, hm, e1, e2⟩
    · rw [e1] at hv
      have h := C _ _ _ (Arc.back hs (by rw [hv]; rfl))
      rw [e1, e2, wt_send hL.keys hs, cutK_send hL.keys hs]
      show 1 * _ = _
      rw [Int.one_mul]
      unfold cut
      cases a : S s.early <;> cases b : S s.end_
      · rfl
      · rw [h b] at a
        cases a
      · rfl
      · rfl
    · rw [e1, e2] at hv
      have hw := C _ _ _ (Arc.wait (L := L) (kv := kv) (x := x) hm)
      rw [e1, e2, wt_hold, cutK_hold]
      show (c : Int) * _ = 0
      rcases Nat.eq_zero_or_pos c with rfl | hc
      · simp
      · have hu := C _ _ _ (Arc.undo (L := L) (t := t) hv hc)
        cases a : S (x, m) with
        | true =>
          rw [hw a]
          simp [b01]
        | false =>
          cases b : S (x, m + 1) with
          | true =>
            rw [hu b] at a
            cases a
          | false => simp [b01]
  have h2 := cuts_le hL U S
  have n2 : ((L.filter (cut S)).map Snd.key).Nodup := hL.keys.sublist (List.filter_sublist.map _)
  have h3 := nodup_sub (ys := (kv.filter fun p => cutK L S p.1).map (·.1)) n2 fun k hk => by
    obtain ⟨s, hs, rfl⟩ := List.mem_map.mp hk
    obtain ⟨hs, hc⟩ := List.mem_filter.mp hs
    have hc' := hc
    unfold cut at hc'
    simp only [Bool.and_eq_true, Bool.not_eq_true'] at hc'
    cases e : valV kv s.key with
    | none =>
      rw [C _ _ _ (Arc.go hs e) hc'.1] at hc'
      cases hc'.2
    | some v => exact List.mem_map.mpr ⟨(s.key, v), List.mem_filter.mpr ⟨valV_mem e, by rw [cutK_send hL.keys hs]; exact hc⟩, rfl⟩
  rw [List.length_map, List.length_map] at h3
  have h4 : breadth L S = (L.filter (cut S)).length := rfl
  omega
/-! found spots in order -/
abbrev Fnd := List (Spot × Option (Option (List Key) × Spot))
structure FndOk (L : List Snd) (t : Nat) (kv : Kvs) (a : Spot) (fs : Fnd) : Prop where
  nd : (fs.map (·.1)).Nodup
  src : fs[0]? = some (a, none)
  way : ∀ i q z, fs[i]? = some (q, z) → 0 < i → ∃ st p j z', z = some (st, p) ∧ j < i ∧ fs[j]? = some (p, z') ∧ Arc L t kv p st q
/-- on the way back -/
structure Way (L : List Snd) (t : Nat) (kv0 : Kvs) (fs : Fnd) (q : Spot) (i : Nat) (kv : Kvs) : Prop where
  ok : UsedOk L t kv
  net : ∀ S, ∃ p z, fs[i]? = some (p, z) ∧ netS L S kv = netS L S kv0 + b01 (S p) - b01 (S q)
  same : ∀ j p z k, fs[j]? = some (p, z) → j < i → Touch L k p → valV kv k = valV kv0 k
theorem arc_same {L : List Snd} {t : Nat} {kv kv' : Kvs} {p q : Spot} {st : Option (List Key)} (A : Arc L t kv p st q) (h : ∀ k, Touch L k p → valV kv' k = valV kv k) : Arc L t kv' p st q := by
  cases A with
  | wait hm => exact .wait hm
  | go hs hv => exact .go hs (by rw [h _ (.s0 hs)]; exact hv)
  | back hs hv => exact .back hs (by rw [h _ (.s1 hs)]; exact hv)
  | undo hv hc => exact .undo (by rw [h _ .h1]; exact hv) hc
theorem fnd_inj {fs : Fnd} (n : (fs.map (·.1)).Nodup) {i j : Nat} {p : Spot} {z z' : Option (Option (List Key) × Spot)} (h1 : fs[i]? = some (p, z)) (h2 : fs[j]? = some (p, z')) : i = j := by
  obtain ⟨a1, b1⟩ := List.getElem?_eq_some_iff.mp h1
  obtain ⟨a2, b2⟩ := List.getElem?_eq_some_iff.mp h2
  refine (List.getElem_inj (h₀ := by simpa using a1) (h₁ := by simpa using a2) n).mp ?_
  rw [List.getElem_map, List.getElem_map, b1, b2]
theorem way_start {L : List Snd} {t : Nat} {kv : Kvs} {fs : Fnd} {q : Spot} {i : Nat} {z : Option (Option (List Key) × Spot)} (U : UsedOk L t kv) (h : fs[i]? = some (q, z)) : Way L t kv fs q i kv :=
  ⟨U, fun S => ⟨q, z, h, by omega⟩, fun _ _ _ _ _ _ _ => rfl⟩
theorem way_step {L : List Snd} {t : Nat} {kv0 kv : Kvs} {fs : Fnd} {a q p : Spot} {i : Nat} {z : Option (Option (List Key) × Spot)} (hL : SndsOk L t) (F : FndOk L t kv0 a fs) (W : Way L t kv0 fs q i kv) (h : fs[i]? = some (p, z)) (hi : 0 < i) :
    ∃ st p' j z', z = some (st, p') ∧ j < i ∧ fs[j]? = some (p', z') ∧ Arc L t kv p' st p ∧ Way L t kv0 fs q j (along kv st p' p) := by
  obtain ⟨st, p', j, z', e, hj, hp', A⟩ := F.way i p z h hi
  have A' := arc_same A fun k hk => W.same j p' z' k hp' hj hk
  obtain ⟨U, N, K, T1, T2⟩ := along_ok hL W.ok A'
  refine ⟨st, p', j, z', e, hj, hp', A', U, fun S => ⟨p', z', hp', ?_⟩, fun j2 p2 z2 k h2 hj2 hk => ?_⟩
  · obtain ⟨p3, z3, h3, n3⟩ := W.net S
    rw [h] at h3
    cases h3
    rw [N S, n3]
    omega
  · rw [K k fun z => ?_, W.same j2 p2 z2 k h2 (by omega) hk]
    rw [z] at hk
    rcases T2 _ hk with e | e
    · rw [e] at h2
      have := fnd_inj F.nd h2 hp'
      omega
    · rw [e] at h2
      have := fnd_inj F.nd h2 h
      omega
theorem way_end {L : List Snd} {t : Nat} {kv0 kv : Kvs} {fs : Fnd} {a q : Spot} (F : FndOk L t kv0 a fs) (W : Way L t kv0 fs q 0 kv) (S : Spot → Bool) : netS L S kv = netS L S kv0 + b01 (S a) - b01 (S q) := by
  obtain ⟨p, z, h, n⟩ := W.net S
  rw [F.src] at h
  cases h
  exact n
/-- letters under way: n of them from a to b -/
def Flow (L : List Snd) (t : Nat) (a b : Spot) (n : Nat) (kv : Kvs) : Prop := UsedOk L t kv ∧ ∀ S, netS L S kv = n * (b01 (S a) - b01 (S b))
theorem flow_nil {L : List Snd} {t : Nat} {a b : Spot} : Flow L t a b 0 [] := ⟨⟨.nil, fun _ h => by cases h⟩, fun S => by simp [netS]⟩
theorem flow_more {L : List Snd} {t n : Nat} {kv0 kv : Kvs} {fs : Fnd} {a b : Spot} (Fl : Flow L t a b n kv0) (F : FndOk L t kv0 a fs) (W : Way L t kv0 fs b 0 kv) : Flow L t a b (n + 1) kv := by
  refine ⟨W.ok, fun S => ?_⟩
  rw [way_end F W S, Fl.2 S]
  push_cast
  rw [Int.add_mul, Int.one_mul]
  omega
theorem flow_le {L : List Snd} {t n : Nat} {kv : Kvs} {a b : Spot} (hL : SndsOk L t) (Fl : Flow L t a b n kv) {S : Spot → Bool} (B : Bar t a b S) : n ≤ breadth L S := by
  have h1 := net_le hL Fl.1 B.up
  rw [Fl.2 S, B.src, B.dst] at h1
  have : b01 true - b01 false = 1 := rfl
  rw [this] at h1
  omega
theorem flow_hit {L : List Snd} {t n : Nat} {kv : Kvs} {a b : Spot} (hL : SndsOk L t) (Fl : Flow L t a b n kv) {S : Spot → Bool} (C : Closed L t kv S) (h1 : S a = true) (h2 : S b = false) : Bar t a b S ∧ n = breadth L S := by
  refine ⟨⟨h1, h2, fun x m hm => C _ _ _ (.wait hm)⟩, ?_⟩
  have e := net_eq hL Fl.1 C
  rw [Fl.2 S, h1, h2] at e
  have : b01 true - b01 false = 1 := rfl
  rw [this] at e
  omega
/-! the sendings of the roads -/
def snds1 (r : Road) (ls : List (Nat × Nat)) (n : Nat) : List Snd := ((List.range n).filter fun m => !ls.contains (r.mark, m)).map fun m => ⟨r.mark, m, r.one, r.other, m + r.lag⟩
def sndsOf (rs : List Road) (t : Nat) (ls : List (Nat × Nat)) : List Snd := rs.flatMap fun r => snds1 r ls (t + 1 - r.lag)
theorem snds1_succ {r : Road} {ls : List (Nat × Nat)} {n : Nat} : snds1 r ls (n + 1) = snds1 r ls n ++ if ls.contains (r.mark, n) = true then [] else [⟨r.mark, n, r.one, r.other, n + r.lag⟩] := by
  unfold snds1
  rw [List.range_succ, List.filter_append, List.map_append]
  congr 1
  cases e : ls.contains (r.mark, n) with
  | true =>
    rw [List.filter_cons_of_neg (by rw [e]; decide), if_pos rfl]
    rfl
  | false =>
    rw [List.filter_cons_of_pos (by rw [e]; rfl), if_neg (by decide)]
    rfl
theorem sndsOf_snoc {rs : List Road} {r : Road} {t : Nat} {ls : List (Nat × Nat)} : sndsOf (rs ++ [r]) t ls = sndsOf rs t ls ++ snds1 r ls (t + 1 - r.lag) := by
  unfold sndsOf
  rw [List.flatMap_append]
  simp
theorem mem_snds1 {r : Road} {ls : List (Nat × Nat)} {n : Nat} {s : Snd} : s ∈ snds1 r ls n ↔ ∃ m, m < n ∧ (r.mark, m) ∉ ls ∧ s = ⟨r.mark, m, r.one, r.other, m + r.lag⟩ := by
  unfold snds1
  simp only [List.mem_map, List.mem_filter, List.mem_range, Bool.not_eq_true', List.contains_eq_mem, decide_eq_false_iff_not]
  constructor
  · rintro ⟨m, ⟨h1, h2⟩, rfl⟩
    exact ⟨m, h1, h2, rfl⟩
  · rintro ⟨m, h1, h2, rfl⟩
    exact ⟨m, ⟨h1, h2⟩, rfl⟩
theorem mem_sndsOf {rs : List Road} {t : Nat} {ls : List (Nat × Nat)} {s : Snd} : s ∈ sndsOf rs t ls ↔ ∃ r ∈ rs, ∃ m, m + r.lag ≤ t ∧ (r.mark, m) ∉ ls ∧ s = ⟨r.mark, m, r.one, r.other, m + r.lag⟩ := by
  unfold sndsOf
  rw [List.mem_flatMap]
  constructor
  · rintro ⟨r, hr, h⟩
    obtain ⟨m, h1, h2, h3⟩ := mem_snds1.mp h
    exact ⟨r, hr, m, by omega, h2, h3⟩
  · rintro ⟨r, hr, m, h1, h2, h3⟩
    exact ⟨r, hr, mem_snds1.mpr ⟨m, by omega, h2, h3⟩⟩
theorem len_snds1 {r : Road} {ls : List (Nat × Nat)} {n : Nat} : (snds1 r ls n).length ≤ n := by
  unfold snds1
  rw [List.length_map]
  exact Nat.le_trans (List.length_filter_le ..) (by rw [List.length_range]; exact Nat.le_refl _)
theorem len_sndsOf {t : Nat} {ls : List (Nat × Nat)} : ∀ {rs : List Road}, (sndsOf rs t ls).length ≤ rs.length * (t + 1)
  | [] => by simp [sndsOf]
  | r :: rs => by
    have ih := len_sndsOf (t := t) (ls := ls) (rs := rs)
    have h1 := len_snds1 (r := r) (ls := ls) (n := t + 1 - r.lag)
    unfold sndsOf at ih ⊢
    rw [List.flatMap_cons, List.length_append, List.length_cons, Nat.add_mul, Nat.one_mul]
    omega
theorem keys1 {r : Road} {ls : List (Nat × Nat)} {n : Nat} : KeysOk (snds1 r ls n) := by
  unfold KeysOk snds1
  rw [List.map_map]
  have : List.Nodup ((List.range n).filter fun m => !ls.contains (r.mark, m)) := List.nodup_range.sublist List.filter_sublist
  refine List.pairwise_map.mpr (this.imp fun hne e => hne ?_)
  simp only [Function.comp, Snd.key, List.cons.injEq, Sum.inl.injEq, and_true, true_and] at e
  omega
theorem keysOf {t : Nat} {ls : List (Nat × Nat)} : ∀ {rs : List Road}, (rs.map Road.mark).Nodup → KeysOk (sndsOf rs t ls)
  | [], _ => .nil
  | r :: rs, h => by
    rw [List.map_cons, List.nodup_cons] at h
    have ih := keysOf (t := t) (ls := ls) h.2
    unfold KeysOk sndsOf at *
    rw [List.flatMap_cons, List.map_append, List.nodup_append]
    refine ⟨keys1, ih, fun a ha b hb e => ?_⟩
    obtain ⟨s, hs, rfl⟩ := List.mem_map.mp ha
    obtain ⟨z, hz, rfl⟩ := List.mem_map.mp hb
    obtain ⟨m, _, _, rfl⟩ := mem_snds1.mp hs
    obtain ⟨r', hr', m', _, _, rfl⟩ := mem_sndsOf.mp hz
    simp only [Snd.key, List.cons.injEq, Sum.inl.injEq, and_true] at e
    exact h.1 (List.mem_map.mpr ⟨r', hr', by omega⟩)
theorem sndsOk {rs : List Road} {t : Nat} {ls : List (Nat × Nat)} (h : (rs.map Road.mark).Nodup) (hne : ∀ r ∈ rs, r.one ≠ r.other) : SndsOk (sndsOf rs t ls) t where
  keys := keysOf h
  ne := fun s hs => by
    obtain ⟨r, hr, m, _, _, rfl⟩ := mem_sndsOf.mp hs
    exact hne r hr
  le := fun s hs => by
    obtain ⟨r, hr, m, h, _, rfl⟩ := mem_sndsOf.mp hs
    exact h
theorem valI_get {L : List Snd} {t : Nat} {kv : Kvs} (U : UsedOk L t kv) (k : List Key) : (valV kv k).getD (.int 0) = .int (valI kv k) := by
  unfold valI
  cases e : valV kv k with
  | none => rfl
  | some v =>
    rcases U.ok _ (valV_mem e) with ⟨_, _, _, z⟩ | ⟨_, _, _, _, _, z⟩
    · have : v = .int 1 := z
      rw [this]
      rfl
    · have : v = .int _ := z
      rw [this]
      rfl
theorem arc_lt {L : List Snd} {t : Nat} {kv : Kvs} (hL : SndsOk L t) {a b : Spot} {st : Option (List Key)} (A : Arc L t kv a st b) (e : a.1 = b.1) : a.2 < b.2 ∨ b.2 < a.2 := by
  cases A with
  | wait => exact .inl (Nat.lt_succ_self _)
  | go hs _ => exact absurd e (hL.ne _ hs)
  | back hs _ => exact absurd e.symm (hL.ne _ hs)
  | undo => exact .inr (Nat.lt_succ_self _)
theorem arc_step {L : List Snd} {t : Nat} {kv : Kvs} {a b : Spot} {st : Option (List Key)} (A : Arc L t kv a st b) (e : a.1 ≠ b.1) : ∃ k, st = some k := by
  cases A with
  | wait => exact absurd rfl e
  | go _ _ => exact ⟨_, rfl⟩
  | back _ _ => exact ⟨_, rfl⟩
  | undo => exact ⟨_, rfl⟩
theorem along_len {kv : Kvs} {st : Option (List Key)} {a b : Spot} : (along kv st a b).length ≤ kv.length + 1 := by
  unfold along
  split
  · exact length_putK ..
  · split
    · have : (dropK kv (st.getD [])).length ≤ kv.length := List.length_filter_le ..
      omega
    · exact length_putK ..
theorem spots_le {xs : List Str} {t : Nat} {ps : List Spot} (n : ps.Nodup) (h : ∀ p ∈ ps, p.1 ∈ xs ∧ p.2 ≤ t) : ps.length ≤ xs.length * (t + 1) := by
  have := nodup_sub (ys := xs.flatMap fun x => (List.range (t + 1)).map fun m => (x, m)) n fun p hp => by
    obtain ⟨h1, h2⟩ := h p hp
    exact List.mem_flatMap.mpr ⟨p.1, h1, List.mem_map.mpr ⟨p.2, List.mem_range.mpr (by omega), rfl⟩⟩
  refine Nat.le_trans this (Nat.le_of_eq ?_)
  clear this h n
  induction xs with
  | nil => simp
  | cons x xs ih => rw [List.flatMap_cons, List.length_append, ih, List.length_map, List.length_range, List.length_cons, Nat.add_mul, Nat.one_mul, Nat.add_comm]
theorem arc_spot {L : List Snd} {t : Nat} {kv : Kvs} {xs : List Str} (hL : SndsOk L t) (hx : ∀ s ∈ L, s.one ∈ xs ∧ s.other ∈ xs ∧ s.mom ≤ t) {a b : Spot} {st : Option (List Key)} (A : Arc L t kv a st b) (h : a.1 ∈ xs ∧ a.2 ≤ t) : b.1 ∈ xs ∧ b.2 ≤ t := by
  cases A with
  | wait hm => exact ⟨h.1, hm⟩
  | go hs _ => exact ⟨(hx _ hs).2.1, hL.le _ hs⟩
  | back hs _ => exact ⟨(hx _ hs).1, (hx _ hs).2.2⟩
  | undo _ _ => exact ⟨h.1, Nat.le_of_succ_le h.2⟩
theorem fnd_one {L : List Snd} {t : Nat} {kv : Kvs} {a : Spot} : FndOk L t kv a [(a, none)] where
  nd := by simp
  src := rfl
  way := fun i q z h hi => by
    have := (List.getElem?_eq_some_iff.mp h).1
    simp only [List.length_cons, List.length_nil] at this
    omega
theorem fnd_snoc {L : List Snd} {t : Nat} {kv : Kvs} {a p g : Spot} {fs : Fnd} {st : Option (List Key)} {j : Nat} {z' : Option (Option (List Key) × Spot)} (F : FndOk L t kv a fs) (h : g ∉ fs.map (·.1)) (hj : fs[j]? = some (p, z')) (A : Arc L t kv p st g) : FndOk L t kv a (fs ++ [(g, some (st, p))]) := by
  have hl := (List.getElem?_eq_some_iff.mp hj).1
  refine ⟨?_, ?_, fun i q z hi h0 => ?_⟩
  · rw [List.map_append, List.nodup_append]
    refine ⟨F.nd, by simp, fun b hb c hc e => ?_⟩
    simp only [List.map_cons, List.map_nil, List.mem_cons, List.not_mem_nil, or_false] at hc
    rw [hc] at e
    exact h (e ▸ hb)
  · rw [List.getElem?_append_left (by omega)]
    exact F.src
  · rcases Nat.lt_or_ge i fs.length with c | c
    · rw [List.getElem?_append_left c] at hi
      obtain ⟨st', p', j', z'', e, h1, h2, h3⟩ := F.way i q z hi h0
      exact ⟨st', p', j', z'', e, h1, by rw [List.getElem?_append_left (by omega)]; exact h2, h3⟩
    · rw [List.getElem?_append_right c] at hi
      have : i = fs.length := by
        have := (List.getElem?_eq_some_iff.mp hi).1
        simp only [List.length_cons, List.length_nil] at this
        omega
      subst this
      rw [Nat.sub_self] at hi
      cases hi
      exact ⟨st, p, j, z', rfl, hl, by rw [List.getElem?_append_left hl]; exact hj, A⟩
theorem reach_of {L : List Snd} {t n m : Nat} {kv : Kvs} {a b : Spot} {fs : Fnd} (hL : SndsOk L t) (Fl : Flow L t a b n kv) (F : FndOk L t kv a fs) (C : ∀ p z, (p, z) ∈ fs → ∀ st g, Arc L t kv p st g → g ∈ fs.map (·.1)) (h1 : n ≤ m) (h2 : b ∈ fs.map (·.1) → n = m) : IsReach L t a b m n where
  le := h1
  bar := fun S B => flow_le hL Fl B
  hit := by
    by_cases c : b ∈ fs.map (·.1)
    · exact .inl (h2 c)
    · refine .inr ⟨fun p => decide (p ∈ fs.map (·.1)), ?_⟩
      refine flow_hit hL Fl (S := fun p => decide (p ∈ fs.map (·.1))) (fun p st q A h => ?_) (decide_eq_true (List.mem_map.mpr ⟨_, List.mem_of_getElem? F.src, rfl⟩)) (decide_eq_false c)
      obtain ⟨⟨p', z⟩, hp, rfl⟩ := List.mem_map.mp (of_decide_eq_true h)
      exact decide_eq_true (C p' z hp st q A)
end L2.Ng

namespace L2.Ng
open PySem PySem.Spec PyProof.Rows
/-! ### reach: what more sendings, more letters, more turns bring -/
theorem breadth_sub {L L' : List Snd} (h : KeysOk L) (hs : ∀ s ∈ L, s ∈ L') (S : Spot → Bool) : breadth L S ≤ breadth L' S := by
  have n : ((L.filter (cut S)).map Snd.key).Nodup := h.sublist (List.filter_sublist.map _)
  have := nodup_sub (ys := (L'.filter (cut S)).map Snd.key) n fun k hk => by
    obtain ⟨s, h1, rfl⟩ := List.mem_map.mp hk
    obtain ⟨h1, h2⟩ := List.mem_filter.mp h1
    exact List.mem_map.mpr ⟨s, List.mem_filter.mpr ⟨hs s h1, h2⟩, rfl⟩
  rw [List.length_map, List.length_map] at this
  exact this
theorem breadth_one {L L' : List Snd} (h : KeysOk L) (k : List Key) (hs : ∀ s ∈ L, s.key = k ∨ s ∈ L') (S : Spot → Bool) : breadth L S ≤ breadth L' S + 1 := by
  have n : ((L.filter (cut S)).map Snd.key).Nodup := h.sublist (List.filter_sublist.map _)
  have := nodup_sub (ys := k :: (L'.filter (cut S)).map Snd.key) n fun k' hk => by
    obtain ⟨s, h1, rfl⟩ := List.mem_map.mp hk
    obtain ⟨h1, h2⟩ := List.mem_filter.mp h1
    rcases hs s h1 with e | h3
    · rw [e]
      exact List.mem_cons_self ..
    · exact List.mem_cons_of_mem _ (List.mem_map.mpr ⟨s, List.mem_filter.mpr ⟨h3, h2⟩, rfl⟩)
  rw [List.length_map, List.length_cons, List.length_map] at this
  exact this
theorem reach_sub {L L' : List Snd} {t k r r' : Nat} {a b : Spot} (h : KeysOk L) (hs : ∀ s ∈ L, s ∈ L') (R : IsReach L t a b k r) (R' : IsReach L' t a b k r') : r ≤ r' := by
  rcases R'.hit with e | ⟨S, B, e⟩
  · rw [e]
    exact R.le
  · rw [e]
    exact Nat.le_trans (R.bar S B) (breadth_sub h hs S)
theorem reach_one {L L' : List Snd} {t k r r' : Nat} {a b : Spot} (h : KeysOk L) (q : List Key) (hs : ∀ s ∈ L, s.key = q ∨ s ∈ L') (R : IsReach L t a b k r) (R' : IsReach L' t a b k r') : r ≤ r' + 1 := by
  rcases R'.hit with e | ⟨S, B, e⟩
  · have := R.le
    omega
  · have := Nat.le_trans (R.bar S B) (breadth_one h q hs S)
    omega
theorem reach_more {L : List Snd} {t k r r' : Nat} {a b : Spot} (R : IsReach L t a b k r) (R' : IsReach L t a b (k + 1) r') : r ≤ r' ∧ r' ≤ r + 1 ∧ (r < r' → r = k) := by
  have h1 : r ≤ r' := by
    rcases R'.hit with e | ⟨S, B, e⟩
    · have := R.le
      omega
    · have := R.bar S B
      omega
  have h2 : r < r' → r = k := fun h => by
    rcases R.hit with e | ⟨S, B, e⟩
    · exact e
    · have := R'.bar S B
      omega
  refine ⟨h1, ?_, h2⟩
  have := R'.le
  rcases Nat.lt_or_ge r r' with c | c
  · have := h2 c
    omega
  · omega
theorem reach_turn {L L' : List Snd} {t k r r' : Nat} {x y : Str} (h : KeysOk L) (hs : ∀ s ∈ L, s ∈ L') (R : IsReach L t (x, 0) (y, t) k r) (R' : IsReach L' (t + 1) (x, 0) (y, t + 1) k r') : r ≤ r' := by
  rcases R'.hit with e | ⟨S, B, e⟩
  · rw [e]
    exact R.le
  · rw [e]
    refine Nat.le_trans (R.bar S ⟨B.src, ?_, fun x m hm => B.up x m (by omega)⟩) (breadth_sub h hs S)
    cases e : S (y, t) with
    | false => rfl
    | true =>
      have h1 := B.up y t (Nat.lt_succ_self t) e
      rw [B.dst] at h1
      cases h1
theorem snds_turn {rs : List Road} {t : Nat} {ls : List (Nat × Nat)} : ∀ s ∈ sndsOf rs t ls, s ∈ sndsOf rs (t + 1) ls := fun s hs => by
  obtain ⟨r, hr, m, h1, h2, rfl⟩ := mem_sndsOf.mp hs
  exact mem_sndsOf.mpr ⟨r, hr, m, by omega, h2, rfl⟩
theorem snds_less {rs : List Road} {t : Nat} {ls ls' : List (Nat × Nat)} (h : ∀ z ∈ ls, z ∈ ls') : ∀ s ∈ sndsOf rs t ls', s ∈ sndsOf rs t ls := fun s hs => by
  obtain ⟨r, hr, m, h1, h2, rfl⟩ := mem_sndsOf.mp hs
  exact mem_sndsOf.mpr ⟨r, hr, m, h1, fun z => h2 (h _ z), rfl⟩
theorem snds_one {rs : List Road} {t : Nat} {ls : List (Nat × Nat)} {z : Nat × Nat} : ∀ s ∈ sndsOf rs t ls, s.key = [.inl (z.1 : Int), .inl (z.2 : Int)] ∨ s ∈ sndsOf rs t (ls ++ [z]) := fun s hs => by
  obtain ⟨r, hr, m, h1, h2, rfl⟩ := mem_sndsOf.mp hs
  by_cases c : (r.mark, m) = z
  · subst c
    exact .inl rfl
  · refine .inr (mem_sndsOf.mpr ⟨r, hr, m, h1, fun h => ?_, rfl⟩)
    rcases List.mem_append.mp h with h | h
    · exact h2 h
    · exact c (List.mem_singleton.mp h)
/-! ### the earliest moments -/
inductive Arr (rs : List Road) (x : Str) : Str → Nat → Prop
  | base : Arr rs x x 0
  | step {r : Road} {m : Nat} : r ∈ rs → Arr rs x r.one m → Arr rs x r.other (m + r.lag)
abbrev Ear := Str → Option Nat
def relax (f : Ear) (r : Road) : Ear := match f r.one with
  | none => f
  | some e => fun z => if z = r.other then some (min ((f r.other).getD 99) (e + r.lag)) else f z
def LeE (f g : Ear) : Prop := ∀ z e, g z = some e → ∃ e', f z = some e' ∧ e' ≤ e
theorem LeE.refl {f : Ear} : LeE f f := fun z e h => ⟨e, h, Nat.le_refl _⟩
theorem LeE.trans {f g h : Ear} (a : LeE f g) (b : LeE g h) : LeE f h := fun z e w => by
  obtain ⟨e1, h1, l1⟩ := b z e w
  obtain ⟨e2, h2, l2⟩ := a z e1 h1
  exact ⟨e2, h2, Nat.le_trans l2 l1⟩
theorem relax_le {f : Ear} {r : Road} : LeE (relax f r) f := fun z e h => by
  unfold relax
  cases c : f r.one with
  | none => exact ⟨e, h, Nat.le_refl _⟩
  | some e1 =>
    by_cases c2 : z = r.other
    · subst c2
      refine ⟨_, if_pos rfl, ?_⟩
      rw [h]
      exact Nat.min_le_left _ _
    · exact ⟨e, by simp only [if_neg c2]; exact h, Nat.le_refl _⟩
theorem relax_step {f : Ear} {r : Road} {e : Nat} (h : f r.one = some e) : ∃ e', relax f r r.other = some e' ∧ e' ≤ e + r.lag := by
  unfold relax
  rw [h]
  exact ⟨_, if_pos rfl, Nat.min_le_right _ _⟩
theorem round_le {rs : List Road} : ∀ {f : Ear}, LeE (rs.foldl relax f) f := by
  induction rs with
  | nil => exact fun {f} => .refl
  | cons r rs ih => exact fun {f} => (ih (f := relax f r)).trans relax_le
theorem round_step {rs : List Road} : ∀ {f : Ear} {r : Road} {e : Nat}, r ∈ rs → f r.one = some e → ∃ e', rs.foldl relax f r.other = some e' ∧ e' ≤ e + r.lag := by
  induction rs with
  | nil => exact fun h => by cases h
  | cons q rs ih =>
    intro f r e hr h
    rcases List.mem_cons.mp hr with c | c
    · subst c
      obtain ⟨e1, h1, l1⟩ := relax_step h
      obtain ⟨e2, h2, l2⟩ := round_le (rs := rs) _ _ h1
      exact ⟨e2, h2, Nat.le_trans l2 l1⟩
    · obtain ⟨e1, h1, l1⟩ := relax_le (f := f) (r := q) _ _ h
      obtain ⟨e2, h2, l2⟩ := ih c h1
      exact ⟨e2, h2, by omega⟩
def cntE (xs : List Str) (f : Ear) : Nat := (xs.filter fun z => (f z).isSome).length
structure EarOk (rs : List Road) (x : Str) (xs : List Str) (f : Ear) : Prop where
  snd : ∀ z e, f z = some e → Arr rs x z e
  low : ∀ z e, f z = some e → e + 4 ≤ 4 * cntE xs f
  src : ∃ e, f x = some e
theorem filter_le {α : Type} {p q : α → Bool} : ∀ {xs : List α}, (∀ z ∈ xs, p z = true → q z = true) → (xs.filter p).length ≤ (xs.filter q).length
  | [], _ => Nat.le_refl _
  | x :: xs, h => by
    have ih := filter_le (xs := xs) fun z hz => h z (List.mem_cons_of_mem _ hz)
    have hx := h x (List.mem_cons_self ..)
    cases a : p x <;> cases b : q x
    · rw [List.filter_cons_of_neg (by simp [a]), List.filter_cons_of_neg (by simp [b])]
      exact ih
    · rw [List.filter_cons_of_neg (by simp [a]), List.filter_cons_of_pos (by simp [b]), List.length_cons]
      omega
    · rw [hx a] at b
      cases b
    · rw [List.filter_cons_of_pos (by simp [a]), List.filter_cons_of_pos (by simp [b]), List.length_cons, List.length_cons]
      omega
theorem filter_lt {α : Type} {p q : α → Bool} : ∀ {xs : List α} {x0 : α}, (∀ z ∈ xs, p z = true → q z = true) → x0 ∈ xs → p x0 = false → q x0 = true → (xs.filter p).length < (xs.filter q).length
  | [], _, _, h, _, _ => by cases h
  | x :: xs, x0, h, hm, h1, h2 => by
    have hx := h x (List.mem_cons_self ..)
    rcases List.mem_cons.mp hm with c | c
    · subst c
      have ih := filter_le (xs := xs) fun z hz => h z (List.mem_cons_of_mem _ hz)
      rw [List.filter_cons_of_neg (by simp [h1]), List.filter_cons_of_pos (by simp [h2]), List.length_cons]
      omega
    · have ih := filter_lt (xs := xs) (fun z hz => h z (List.mem_cons_of_mem _ hz)) c h1 h2
      cases a : p x <;> cases b : q x
      · rw [List.filter_cons_of_neg (by simp [a]), List.filter_cons_of_neg (by simp [b])]
        exact ih
      · rw [List.filter_cons_of_neg (by simp [a]), List.filter_cons_of_pos (by simp [b]), List.length_cons]
        omega
      · rw [hx a] at b
        cases b
      · rw [List.filter_cons_of_pos (by simp [a]), List.filter_cons_of_pos (by simp [b]), List.length_cons, List.length_cons]
        omega
theorem relax_ok {rs : List Road} {x : Str} {xs : List Str} {f : Ear} {r : Road} (E : EarOk rs x xs f) (hr : r ∈ rs) (hx : r.other ∈ xs) (hl : r.lag ≤ 4) (h12 : xs.length ≤ 12) : EarOk rs x xs (relax f r) := by
  have hc : cntE xs f ≤ 12 := Nat.le_trans (List.length_filter_le ..) h12
  cases c : f r.one with
  | none =>
    have : relax f r = f := by
      unfold relax
      rw [c]
    rw [this]
    exact E
  | some e =>
    have hv : ∀ z, relax f r z = if z = r.other then some (min ((f r.other).getD 99) (e + r.lag)) else f z := fun z => by
      unfold relax
      rw [c]
    have he := E.low _ _ c
    have hle : cntE xs f ≤ cntE xs (relax f r) := filter_le fun z _ hz => by
      obtain ⟨e0, h0⟩ := Option.isSome_iff_exists.mp hz
      obtain ⟨e1, h1, _⟩ := relax_le (f := f) (r := r) _ _ h0
      rw [h1]
      rfl
    refine ⟨fun z e1 h => ?_, fun z e1 h => ?_, ?_⟩
    · rw [hv] at h
      by_cases cz : z = r.other
      · rw [if_pos cz] at h
        have h := Option.some.inj h
        subst cz
        cases co : f r.other with
        | none =>
          rw [co] at h
          have : e1 = e + r.lag := by
            rw [← h]
            show min 99 (e + r.lag) = _
            omega
          rw [this]
          exact .step hr (E.snd _ _ c)
        | some e2 =>
          rw [co] at h
          have h : min e2 (e + r.lag) = e1 := h
          rcases Nat.le_total e2 (e + r.lag) with l | l
          · rw [Nat.min_eq_left l] at h
            rw [← h]
            exact E.snd _ _ co
          · rw [Nat.min_eq_right l] at h
            rw [← h]
            exact .step hr (E.snd _ _ c)
      · rw [if_neg cz] at h
        exact E.snd _ _ h
    · rw [hv] at h
      by_cases cz : z = r.other
      · rw [if_pos cz] at h
        have h := Option.some.inj h
        subst cz
        cases co : f r.other with
        | none =>
          have hlt : cntE xs f < cntE xs (relax f r) := filter_lt (fun z _ hz => by
            obtain ⟨e0, h0⟩ := Option.isSome_iff_exists.mp hz
            obtain ⟨e1, h1, _⟩ := relax_le (f := f) (r := r) _ _ h0
            rw [h1]
            rfl) hx (by rw [co]; rfl) (by rw [hv, if_pos rfl]; rfl)
          have : e1 ≤ e + r.lag := by
            rw [← h]
            exact Nat.min_le_right _ _
          omega
        | some e2 =>
          rw [co] at h
          have : e1 ≤ e2 := by
            rw [← h]
            exact Nat.min_le_left _ _
          have := E.low _ _ co
          omega
      · rw [if_neg cz] at h
        have := E.low _ _ h
        omega
    · obtain ⟨e0, h0⟩ := E.src
      obtain ⟨e1, h1, _⟩ := relax_le (f := f) (r := r) _ _ h0
      exact ⟨e1, h1⟩
theorem round_ok {x : Str} {xs : List Str} {rs0 : List Road} (h12 : xs.length ≤ 12) : ∀ {rs : List Road} {f : Ear}, EarOk rs0 x xs f → (∀ r ∈ rs, r ∈ rs0 ∧ r.other ∈ xs ∧ r.lag ≤ 4) → EarOk rs0 x xs (rs.foldl relax f)
  | [], f, E, _ => E
  | r :: rs, f, E, h => round_ok (rs := rs) (f := relax f r) h12 (relax_ok E (h r (List.mem_cons_self ..)).1 (h r (List.mem_cons_self ..)).2.1 (h r (List.mem_cons_self ..)).2.2 h12) fun q hq => h q (List.mem_cons_of_mem _ hq)
def Setl (rs : List Road) (x : Str) (f : Ear) (z : Str) : Prop := ∀ e', Arr rs x z e' → ∃ e, f z = some e ∧ e ≤ e'
theorem Setl.le {rs : List Road} {x : Str} {f g : Ear} {z : Str} (h : Setl rs x f z) (l : LeE g f) : Setl rs x g z := fun e' a => by
  obtain ⟨e, h1, h2⟩ := h e' a
  obtain ⟨e1, h3, h4⟩ := l _ _ h1
  exact ⟨e1, h3, Nat.le_trans h4 h2⟩
theorem arr_in {rs : List Road} {x : Str} {xs : List Str} (hx : x ∈ xs) (h : ∀ r ∈ rs, r.other ∈ xs) {z : Str} {e : Nat} (a : Arr rs x z e) : z ∈ xs := by
  cases a with
  | base => exact hx
  | step hr _ => exact h _ hr
/-- one round settles one more -/
theorem settle {rs : List Road} {x : Str} {f : Ear} (hlag : ∀ r ∈ rs, 1 ≤ r.lag) (h0 : f x = some 0) : ∀ (n : Nat) {z : Str} {e : Nat}, e ≤ n → Arr rs x z e → ¬ (∃ e', f z = some e' ∧ e' ≤ e) → ∃ z0 e0, Arr rs x z0 e0 ∧ ¬ Setl rs x f z0 ∧ Setl rs x (rs.foldl relax f) z0
  | n, z, e, hn, a, hb => by
    by_cases c : ∃ z1 e1, e1 < e ∧ Arr rs x z1 e1 ∧ ¬ ∃ e', f z1 = some e' ∧ e' ≤ e1
    · obtain ⟨z1, e1, h1, h2, h3⟩ := c
      match n with
      | 0 => omega
      | n + 1 => exact settle hlag h0 n (by omega) h2 h3
    · refine ⟨z, e, a, fun s => hb (s e a), ?_⟩
      have low : ∀ e', Arr rs x z e' → e ≤ e' := fun e' a' => Nat.le_of_not_lt fun hlt => c ⟨z, e', hlt, a', fun ⟨e2, h2, l2⟩ => hb ⟨e2, h2, by omega⟩⟩
      cases a with
      | base => exact absurd ⟨0, h0, Nat.le_refl _⟩ hb
      | @step r m hr a1 =>
        have hl := hlag r hr
        have h1 : ∃ e', f r.one = some e' ∧ e' ≤ m := by
          by_cases c2 : ∃ e', f r.one = some e' ∧ e' ≤ m
          · exact c2
          · exact absurd ⟨r.one, m, by omega, a1, c2⟩ c
        obtain ⟨e1, h2, h3⟩ := h1
        obtain ⟨e2, h4, h5⟩ := round_step hr h2
        exact fun e' a' => ⟨e2, h4, by have := low e' a'; omega⟩
def rounds (rs : List Road) : Nat → Ear → Ear
  | 0, f => f
  | n + 1, f => rs.foldl relax (rounds rs n f)
open Classical in
theorem all_settled {rs : List Road} {x : Str} {xs : List Str} {f0 : Ear} (hlag : ∀ r ∈ rs, 1 ≤ r.lag) (hin : ∀ r ∈ rs, r.other ∈ xs) (hx : x ∈ xs) (h0 : f0 x = some 0) : ∀ z, Setl rs x (rounds rs xs.length f0) z := by
  have src : ∀ n, rounds rs n f0 x = some 0 := fun n => by
    induction n with
    | zero => exact h0
    | succ n ih =>
      obtain ⟨e, h1, h2⟩ := round_le (rs := rs) _ _ ih
      show rs.foldl relax (rounds rs n f0) x = some 0
      rw [h1]
      congr 1
      omega
  have key : ∀ n, (xs.filter fun z => decide (¬ Setl rs x (rounds rs n f0) z)).length ≤ xs.length - n := fun n => by
    induction n with
    | zero => exact List.length_filter_le ..
    | succ n ih =>
      by_cases c : ∃ z, ¬ Setl rs x (rounds rs n f0) z
      · obtain ⟨z, hz⟩ := c
        have : ∃ e, Arr rs x z e ∧ ¬ ∃ e', rounds rs n f0 z = some e' ∧ e' ≤ e := by
          apply Classical.byContradiction
          intro c2
          exact hz fun e a => Classical.byContradiction fun c3 => c2 ⟨e, a, c3⟩
        obtain ⟨e, a, hb⟩ := this
        obtain ⟨z0, e0, a0, s0, s1⟩ := settle hlag (src n) e (Nat.le_refl _) a hb
        have hlt := filter_lt (xs := xs) (p := fun z => decide (¬ Setl rs x (rounds rs (n + 1) f0) z)) (q := fun z => decide (¬ Setl rs x (rounds rs n f0) z)) (x0 := z0) (fun z _ hz => by
          have hz := of_decide_eq_true hz
          exact decide_eq_true fun s => hz (s.le round_le)) (arr_in hx hin a0) (decide_eq_false fun w => w s1) (decide_eq_true s0)
        omega
      · have all : ∀ z, Setl rs x (rounds rs n f0) z := fun z => Classical.byContradiction fun w => c ⟨z, w⟩
        have : (xs.filter fun z => decide (¬ Setl rs x (rounds rs (n + 1) f0) z)) = [] := List.filter_eq_nil_iff.mpr fun z _ w => (of_decide_eq_true w) ((all z).le round_le)
        rw [this]
        exact Nat.zero_le _
  intro z
  have hk := key xs.length
  rw [Nat.sub_self] at hk
  have hnil := List.length_eq_zero_iff.mp (Nat.le_zero.mp hk)
  apply Classical.byContradiction
  intro w
  have : ∃ e, Arr rs x z e := by
    apply Classical.byContradiction
    intro c2
    exact w fun e a => absurd ⟨e, a⟩ c2
  obtain ⟨e, a⟩ := this
  have hm : z ∈ xs.filter fun z => decide (¬ Setl rs x (rounds rs xs.length f0) z) := List.mem_filter.mpr ⟨arr_in hx hin a, decide_eq_true w⟩
  rw [hnil] at hm
  cases hm
/-- the earliest moments, found -/
structure EarIs (rs : List Road) (x : Str) (f : Ear) : Prop where
  snd : ∀ z e, f z = some e → Arr rs x z e
  all : ∀ z e', Arr rs x z e' → ∃ e, f z = some e ∧ e ≤ e'
theorem ear_late {rs : List Road} {x y : Str} {f : Ear} (E : EarIs rs x f) {t k r : Nat} (R : IsReach (sndsOf rs t []) t (x, 0) (y, t) k r) (h : ¬ ∃ e, f y = some e ∧ e ≤ t) : r = 0 := by
  have hb := R.bar (fun p => match f p.1 with | some e => decide (e ≤ p.2) | none => false) ?_
  · have h0 : breadth (sndsOf rs t []) (fun p => match f p.1 with | some e => decide (e ≤ p.2) | none => false) = 0 := by
      unfold breadth
      rw [List.length_eq_zero_iff]
      refine List.filter_eq_nil_iff.mpr fun s hs => ?_
      obtain ⟨q, hq, m, h1, h2, rfl⟩ := mem_sndsOf.mp hs
      unfold cut
      show ¬ ((match f q.one with | some e => decide (e ≤ m) | none => false) && !(match f q.other with | some e => decide (e ≤ m + q.lag) | none => false)) = true
      cases c : f q.one with
      | none => simp
      | some e =>
        by_cases c2 : e ≤ m
        · obtain ⟨e', h3, h4⟩ := E.all _ _ (Arr.step hq (E.snd _ _ c))
          rw [h3]
          have : e' ≤ m + q.lag := by omega
          simp [this]
        · simp [c2]
    omega
  · obtain ⟨e0, h0, l0⟩ := E.all x 0 .base
    refine ⟨?_, ?_, fun z m hm hz => ?_⟩
    · show (match f x with | some e => decide (e ≤ 0) | none => false) = true
      rw [h0]
      exact decide_eq_true l0
    · show (match f y with | some e => decide (e ≤ t) | none => false) = false
      cases c : f y with
      | none => rfl
      | some e => exact decide_eq_false fun l => h ⟨e, c, l⟩
    · have hz : (match f z with | some e => decide (e ≤ m) | none => false) = true := hz
      show (match f z with | some e => decide (e ≤ m + 1) | none => false) = true
      cases c : f z with
      | none =>
        rw [c] at hz
        cases hz
      | some e =>
        rw [c] at hz
        have := of_decide_eq_true hz
        exact decide_eq_true (by omega)
theorem bar_up {t : Nat} {a b : Spot} {S : Spot → Bool} (B : Bar t a b S) {x : Str} : ∀ {i m : Nat}, S (x, m) = true → m + i ≤ t → S (x, m + i) = true
  | 0, m, h, _ => h
  | i + 1, m, h, hl => by
    have := bar_up B (i := i) h (by omega)
    exact B.up x (m + i) (by omega) this
theorem cross {rs : List Road} {x : Str} {f : Ear} (E : EarIs rs x f) {t i : Nat} {b : Spot} {S : Spot → Bool} (B : Bar t (x, 0) b S) {z : Str} {m : Nat} (a : Arr rs x z m) : f z = some m → m + i ≤ t → S (z, m + i) = false → ∃ s ∈ sndsOf rs t [], cut S s = true ∧ ∃ e, f s.one = some e ∧ s.mom = e + i := by
  induction a with
  | base =>
    intro _ hl h
    have := bar_up B (i := i) B.src (by omega)
    rw [this] at h
    cases h
  | @step r m hr a1 ih =>
    intro hf hl h
    obtain ⟨e, h1, h2⟩ := E.all _ _ a1
    obtain ⟨e', h3, h4⟩ := E.all _ _ (Arr.step hr (E.snd _ _ h1))
    rw [hf] at h3
    have h3 := Option.some.inj h3
    have em : e = m := by omega
    subst em
    cases c : S (r.one, e + i) with
    | false => exact ih h1 (by omega) c
    | true =>
      refine ⟨⟨r.mark, e + i, r.one, r.other, e + i + r.lag⟩, mem_sndsOf.mpr ⟨r, hr, e + i, by omega, by simp, rfl⟩, ?_, e, h1, rfl⟩
      unfold cut
      show (S (r.one, e + i) && !S (r.other, e + i + r.lag)) = true
      rw [c, show e + i + r.lag = e + r.lag + i by omega, h]
      rfl
theorem ear_soon {rs : List Road} {x y : Str} {f : Ear} (E : EarIs rs x f) {t k r e : Nat} (hk : 1 ≤ k) (R : IsReach (sndsOf rs t []) t (x, 0) (y, t) k r) (h : f y = some e) (hl : e ≤ t) : 1 ≤ r := by
  rcases R.hit with c | ⟨S, B, c⟩
  · omega
  · have hd : S (y, e + 0) = false := by
      cases c2 : S (y, e) with
      | false => rfl
      | true =>
        have := bar_up B (i := t - e) c2 (by omega)
        rw [show e + (t - e) = t by omega, B.dst] at this
        cases this
    obtain ⟨s, hs, hc, _⟩ := cross E (i := 0) B (E.snd _ _ h) h (by omega) hd
    have : 0 < breadth (sndsOf rs t []) S := List.length_pos_of_mem (List.mem_filter.mpr ⟨hs, hc⟩)
    omega
theorem ear_four {rs : List Road} {x y : Str} {f : Ear} (hm : (rs.map Road.mark).Nodup) (E : EarIs rs x f) {r e : Nat} (R : IsReach (sndsOf rs (e + 3) []) (e + 3) (x, 0) (y, e + 3) 4 r) (h : f y = some e) : r = 4 := by
  rcases R.hit with c | ⟨S, B, c⟩
  · exact c
  · have hd : ∀ i, i ≤ 3 → S (y, e + i) = false := fun i hi => by
      cases c2 : S (y, e + i) with
      | false => rfl
      | true =>
        have := bar_up B (i := 3 - i) c2 (by omega)
        rw [show e + i + (3 - i) = e + 3 by omega, B.dst] at this
        cases this
    have hx : ∀ i, i ≤ 3 → ∃ s ∈ sndsOf rs (e + 3) [], cut S s = true ∧ ∃ e, f s.one = some e ∧ s.mom = e + i := fun i hi => cross E (i := i) B (E.snd _ _ h) h (by omega) (hd i hi)
    have ne : ∀ {i j : Nat} {s z : Snd}, i ≠ j → (∃ e, f s.one = some e ∧ s.mom = e + i) → (∃ e, f z.one = some e ∧ z.mom = e + j) → s ≠ z := fun hij h1 h2 e => by
      subst e
      obtain ⟨e1, a1, b1⟩ := h1
      obtain ⟨e2, a2, b2⟩ := h2
      rw [a1] at a2
      have := Option.some.inj a2
      omega
    obtain ⟨s0, m0, c0, p0⟩ := hx 0 (by omega)
    obtain ⟨s1, m1, c1, p1⟩ := hx 1 (by omega)
    obtain ⟨s2, m2, c2, p2⟩ := hx 2 (by omega)
    obtain ⟨s3, m3, c3, p3⟩ := hx 3 (by omega)
    have nd : [s0, s1, s2, s3].Nodup := by
      simp only [List.nodup_cons, List.mem_cons, List.not_mem_nil, or_false, not_or, List.nodup_nil, and_true, not_false_eq_true]
      exact ⟨⟨ne (by decide) p0 p1, ne (by decide) p0 p2, ne (by decide) p0 p3⟩, ⟨ne (by decide) p1 p2, ne (by decide) p1 p3⟩, ne (by decide) p2 p3⟩
    have := nodup_sub (ys := (sndsOf rs (e + 3) []).filter (cut S)) nd fun s hs => by
      simp only [List.mem_cons, List.not_mem_nil, or_false] at hs
      rcases hs with rfl | rfl | rfl | rfl
      · exact List.mem_filter.mpr ⟨m0, c0⟩
      · exact List.mem_filter.mpr ⟨m1, c1⟩
      · exact List.mem_filter.mpr ⟨m2, c2⟩
      · exact List.mem_filter.mpr ⟨m3, c3⟩
    have hle := R.le
    have : 4 ≤ breadth (sndsOf rs (e + 3) []) S := this
    omega
end L2.Ng

namespace L2.Ng
open PySem PySem.Spec PyProof.Rows
/-! ### the text by places -/
def top (i : Nat) : Stmt := PySem.Challenge.pw_mingleway_k38_whole_reach_grows_and_fall.main.body.getD i (.Pass ⟨0, 0, 0, 0⟩)
abbrev s_l_bag : Stmt := top 35
abbrev N_l_bag : List Str := ["_law_script", "_law_cells", "_law_salt", "_law_one"]
theorem sc_l_bag : FnScope N_l_bag ["_law_script"] (defScope s_l_bag) := ⟨rfl, rfl, rfl, by decide +kernel, rfl, by decide +kernel, by decide +kernel⟩
abbrev s_l_pull : Stmt := top 41
abbrev N_l_pull : List Str := ["_law_bag_here", "_law_tally", "_law_cell", "_law_grain", "_law_drawn"]
theorem sc_l_pull : FnScope N_l_pull ["_law_bag_here", "_law_tally"] (defScope s_l_pull) := ⟨rfl, rfl, rfl, by decide +kernel, rfl, by decide +kernel, by decide +kernel⟩
abbrev s_l_names : Stmt := top 37
abbrev N_l_names : List Str := ["_law_bag_here", "_law_tally", "_law_tails", "_law_signs", "_law_begin", "_law_step", "_law_k"]
theorem sc_l_names : FnScope N_l_names ["_law_bag_here", "_law_tally"] (defScope s_l_names) := ⟨rfl, rfl, rfl, by decide +kernel, rfl, by decide +kernel, by decide +kernel⟩
abbrev s_l_order_drawn : Stmt := top 39
abbrev N_l_order_drawn : List Str := ["_law_bag_here", "_law_row", "_law_left", "_law_found", "_law_turn"]
theorem sc_l_order_drawn : FnScope N_l_order_drawn ["_law_bag_here", "_law_row"] (defScope s_l_order_drawn) := ⟨rfl, rfl, rfl, by decide +kernel, rfl, by decide +kernel, by decide +kernel⟩
abbrev s_l_pick : Stmt := top 40
abbrev N_l_pick : List Str := ["_law_bag_here", "_law_row"]
theorem sc_l_pick : FnScope N_l_pick ["_law_bag_here", "_law_row"] (defScope s_l_pick) := ⟨rfl, rfl, rfl, by decide +kernel, rfl, by decide +kernel, by decide +kernel⟩
abbrev s_l_two : Stmt := top 42
abbrev N_l_two : List Str := ["_law_bag_here", "_law_names_here", "_law_one"]
theorem sc_l_two : FnScope N_l_two ["_law_bag_here", "_law_names_here"] (defScope s_l_two) := ⟨rfl, rfl, rfl, by decide +kernel, rfl, by decide +kernel, by decide +kernel⟩
abbrev s_l_world : Stmt := top 43
abbrev N_l_world : List Str := ["_law_bag_here", "_law_upto", "_law_lines", "_law_ringless", "_law_names_here", "_law_mark", "_law_roads", "_law_turn", "_law_one", "_law_other"]
theorem sc_l_world : FnScope N_l_world ["_law_bag_here", "_law_upto", "_law_lines", "_law_ringless"] (defScope s_l_world) := ⟨rfl, rfl, rfl, by decide +kernel, rfl, by decide +kernel, by decide +kernel⟩
abbrev s_need_name : Stmt := top 32
abbrev N_need_name : List Str := ["name", "sign"]
theorem sc_need_name : FnScope N_need_name ["name"] (defScope s_need_name) := ⟨rfl, rfl, rfl, by decide +kernel, rfl, by decide +kernel, by decide +kernel⟩
abbrev s_Net_init : Stmt := inClass (top 33) 0
abbrev N_Net_init : List Str := ["self"]
theorem sc_Net_init : FnScope N_Net_init ["self"] (defScope s_Net_init) := ⟨rfl, rfl, rfl, by decide +kernel, rfl, by decide +kernel, by decide +kernel⟩
abbrev s_Net_need_house : Stmt := inClass (top 33) 3
abbrev N_Net_need_house : List Str := ["self", "name"]
theorem sc_Net_need_house : FnScope N_Net_need_house ["self", "name"] (defScope s_Net_need_house) := ⟨rfl, rfl, rfl, by decide +kernel, rfl, by decide +kernel, by decide +kernel⟩
abbrev s_Net_need_line : Stmt := inClass (top 33) 4
abbrev N_Net_need_line : List Str := ["self", "number"]
theorem sc_Net_need_line : FnScope N_Net_need_line ["self", "number"] (defScope s_Net_need_line) := ⟨rfl, rfl, rfl, by decide +kernel, rfl, by decide +kernel, by decide +kernel⟩
abbrev s_Net_house : Stmt := inClass (top 33) 5
abbrev N_Net_house : List Str := ["self", "name"]
theorem sc_Net_house : FnScope N_Net_house ["self", "name"] (defScope s_Net_house) := ⟨rfl, rfl, rfl, by decide +kernel, rfl, by decide +kernel, by decide +kernel⟩
abbrev s_Net_line : Stmt := inClass (top 33) 6
abbrev N_Net_line : List Str := ["self", "one", "other", "slow", "number", "own"]
theorem sc_Net_line : FnScope N_Net_line ["self", "one", "other", "slow", "number"] (defScope s_Net_line) := ⟨rfl, rfl, rfl, by decide +kernel, rfl, by decide +kernel, by decide +kernel⟩
abbrev s_l_net : Stmt := top 38
abbrev N_l_net : List Str := ["_law_bag_here", "_law_world_here", "_law_mesh", "_law_name", "_law_mark", "_law_one", "_law_other", "_law_lag"]
theorem sc_l_net : FnScope N_l_net ["_law_bag_here", "_law_world_here"] (defScope s_l_net) := ⟨rfl, rfl, rfl, by decide +kernel, rfl, by decide +kernel, by decide +kernel⟩
abbrev s_l_lost : Stmt := top 36
abbrev N_l_lost : List Str := ["_law_bag_here", "_law_roads", "_law_turn", "_law_upto", "_law_found", "_law_k"]
theorem sc_l_lost : FnScope N_l_lost ["_law_bag_here", "_law_roads", "_law_turn", "_law_upto"] (defScope s_l_lost) := ⟨rfl, rfl, rfl, by decide +kernel, rfl, by decide +kernel, by decide +kernel⟩
abbrev s_Net_numbers : Stmt := inClass (top 33) 10
abbrev N_Net_numbers : List Str := ["self"]
theorem sc_Net_numbers : FnScope N_Net_numbers ["self"] (defScope s_Net_numbers) := ⟨rfl, rfl, rfl, by decide +kernel, rfl, by decide +kernel, by decide +kernel⟩
abbrev s_Net_lines : Stmt := inClass (top 33) 11
abbrev N_Net_lines : List Str := ["self", "number"]
theorem sc_Net_lines : FnScope N_Net_lines ["self"] (defScope s_Net_lines) := ⟨rfl, rfl, rfl, by decide +kernel, rfl, by decide +kernel, by decide +kernel⟩
abbrev s_need_letters : Stmt := top 15
abbrev N_need_letters : List Str := ["letters"]
theorem sc_need_letters : FnScope N_need_letters ["letters"] (defScope s_need_letters) := ⟨rfl, rfl, rfl, by decide +kernel, rfl, by decide +kernel, by decide +kernel⟩
abbrev s_need_asked : Stmt := top 18
abbrev N_need_asked : List Str := ["net", "source", "house", "turn", "letters", "lost", "number", "moment"]
theorem sc_need_asked : FnScope N_need_asked ["net", "source", "house", "turn", "letters", "lost"] (defScope s_need_asked) := ⟨rfl, rfl, rfl, by decide +kernel, rfl, by decide +kernel, by decide +kernel⟩
abbrev s_sendings : Stmt := top 19
abbrev N_sendings : List Str := ["net", "turn", "lost", "found", "number", "one", "other", "slow", "moment"]
theorem sc_sendings : FnScope N_sendings ["net", "turn", "lost"] (defScope s_sendings) := ⟨rfl, rfl, rfl, by decide +kernel, rfl, by decide +kernel, by decide +kernel⟩
abbrev s_onward : Stmt := top 20
abbrev N_onward : List Str := ["spot", "turn", "leaving", "coming", "used", "name", "moment", "found", "sending", "goal", "early"]
theorem sc_onward : FnScope N_onward ["spot", "turn", "leaving", "coming", "used"] (defScope s_onward) := ⟨rfl, rfl, rfl, by decide +kernel, rfl, by decide +kernel, by decide +kernel⟩
abbrev s_lit : Stmt := top 21
abbrev N_lit : List Str := ["source", "turn", "leaving", "coming", "used", "found", "queue", "at", "here", "step", "goal"]
theorem sc_lit : FnScope N_lit ["source", "turn", "leaving", "coming", "used"] (defScope s_lit) := ⟨rfl, rfl, rfl, by decide +kernel, rfl, by decide +kernel, by decide +kernel⟩
abbrev s_taken_along : Stmt := top 22
abbrev N_taken_along : List Str := ["used", "step", "here", "goal", "spot"]
theorem sc_taken_along : FnScope N_taken_along ["used", "step", "here", "goal"] (defScope s_taken_along) := ⟨rfl, rfl, rfl, by decide +kernel, rfl, by decide +kernel, by decide +kernel⟩
abbrev s_spread_out : Stmt := top 23
abbrev N_spread_out : List Str := ["net", "source", "house", "turn", "letters", "lost", "leaving", "coming", "sending", "early", "late", "used", "count", "found", "here", "step", "back"]
theorem sc_spread_out : FnScope N_spread_out ["net", "source", "house", "turn", "letters", "lost"] (defScope s_spread_out) := ⟨rfl, rfl, rfl, by decide +kernel, rfl, by decide +kernel, by decide +kernel⟩
abbrev s_reach : Stmt := top 24
abbrev N_reach : List Str := ["net", "source", "house", "turn", "letters", "lost"]
theorem sc_reach : FnScope N_reach ["net", "source", "house", "turn", "letters", "lost"] (defScope s_reach) := ⟨rfl, rfl, rfl, by decide +kernel, rfl, by decide +kernel, by decide +kernel⟩
abbrev s_law : Stmt := top 44
abbrev N_law : List Str := ["_law_script", "_law_bag_here", "_law_world_here", "_law_mesh", "_law_root", "_law_house", "_law_astray", "_law_early", "_law_turn", "_law_mark", "_law_one", "_law_other", "_law_lag", "_law_last", "_law_moment", "_law_here", "_law_plain", "_law_more", "_law_some"]
theorem sc_law : FnScope N_law ["_law_script"] (defScope s_law) := ⟨rfl, rfl, rfl, by decide +kernel, rfl, by decide +kernel, by decide +kernel⟩
/-! ### what the top has written -/
def d_l_bag : He.DefD := ⟨("_law_bag", none), "_law_bag", "_law_bag", defArgs s_l_bag, defBody s_l_bag, defScope s_l_bag, [], []⟩
def d_l_pull : He.DefD := ⟨("_law_pull", none), "_law_pull", "_law_pull", defArgs s_l_pull, defBody s_l_pull, defScope s_l_pull, [], []⟩
def d_l_names : He.DefD := ⟨("_law_names", none), "_law_names", "_law_names", defArgs s_l_names, defBody s_l_names, defScope s_l_names, [], []⟩
def d_l_order_drawn : He.DefD := ⟨("_law_order_drawn", none), "_law_order_drawn", "_law_order_drawn", defArgs s_l_order_drawn, defBody s_l_order_drawn, defScope s_l_order_drawn, [], []⟩
def d_l_pick : He.DefD := ⟨("_law_pick", none), "_law_pick", "_law_pick", defArgs s_l_pick, defBody s_l_pick, defScope s_l_pick, [], []⟩
def d_l_two : He.DefD := ⟨("_law_two", none), "_law_two", "_law_two", defArgs s_l_two, defBody s_l_two, defScope s_l_two, [], []⟩
def d_l_world : He.DefD := ⟨("_law_world", none), "_law_world", "_law_world", defArgs s_l_world, defBody s_l_world, defScope s_l_world, [], []⟩
def d_need_name : He.DefD := ⟨("need_name", none), "need_name", "need_name", defArgs s_need_name, defBody s_need_name, defScope s_need_name, [], []⟩
def d_Net_init : He.DefD := ⟨("Net", some "__init__"), "__init__", "Net.__init__", defArgs s_Net_init, defBody s_Net_init, defScope s_Net_init, [], []⟩
def d_Net_need_house : He.DefD := ⟨("Net", some "need_house"), "need_house", "Net.need_house", defArgs s_Net_need_house, defBody s_Net_need_house, defScope s_Net_need_house, [], []⟩
def d_Net_need_line : He.DefD := ⟨("Net", some "need_line"), "need_line", "Net.need_line", defArgs s_Net_need_line, defBody s_Net_need_line, defScope s_Net_need_line, [], []⟩
def d_Net_house : He.DefD := ⟨("Net", some "house"), "house", "Net.house", defArgs s_Net_house, defBody s_Net_house, defScope s_Net_house, [], []⟩
def d_Net_line : He.DefD := ⟨("Net", some "line"), "line", "Net.line", defArgs s_Net_line, defBody s_Net_line, defScope s_Net_line, [], [("slow", .int 1), ("number", .non)]⟩
def d_l_net : He.DefD := ⟨("_law_net", none), "_law_net", "_law_net", defArgs s_l_net, defBody s_l_net, defScope s_l_net, [], []⟩
def d_l_lost : He.DefD := ⟨("_law_lost", none), "_law_lost", "_law_lost", defArgs s_l_lost, defBody s_l_lost, defScope s_l_lost, [], []⟩
def d_Net_numbers : He.DefD := ⟨("Net", some "numbers"), "numbers", "Net.numbers", defArgs s_Net_numbers, defBody s_Net_numbers, defScope s_Net_numbers, [], []⟩
def d_Net_lines : He.DefD := ⟨("Net", some "lines"), "lines", "Net.lines", defArgs s_Net_lines, defBody s_Net_lines, defScope s_Net_lines, [], []⟩
def d_need_letters : He.DefD := ⟨("need_letters", none), "need_letters", "need_letters", defArgs s_need_letters, defBody s_need_letters, defScope s_need_letters, [], []⟩
def d_need_asked : He.DefD := ⟨("need_asked", none), "need_asked", "need_asked", defArgs s_need_asked, defBody s_need_asked, defScope s_need_asked, [], []⟩
def d_sendings : He.DefD := ⟨("sendings", none), "sendings", "sendings", defArgs s_sendings, defBody s_sendings, defScope s_sendings, [], []⟩
def d_onward : He.DefD := ⟨("onward", none), "onward", "onward", defArgs s_onward, defBody s_onward, defScope s_onward, [], []⟩
def d_lit : He.DefD := ⟨("lit", none), "lit", "lit", defArgs s_lit, defBody s_lit, defScope s_lit, [], []⟩
def d_taken_along : He.DefD := ⟨("taken_along", none), "taken_along", "taken_along", defArgs s_taken_along, defBody s_taken_along, defScope s_taken_along, [], []⟩
def d_spread_out : He.DefD := ⟨("spread_out", none), "spread_out", "spread_out", defArgs s_spread_out, defBody s_spread_out, defScope s_spread_out, [], []⟩
def d_reach : He.DefD := ⟨("reach", none), "reach", "reach", defArgs s_reach, defBody s_reach, defScope s_reach, [], [("letters", .int 2), ("lost", .adr (kwAdr ("reach", none) "lost"))]⟩
def d_law : He.DefD := ⟨("law", none), "law", "law", defArgs s_law, defBody s_law, defScope s_law, [], []⟩
structure Tx (K : PySem.W.Frag) (mg : Str → Option Value) : Prop where
  g__law_bag : mg "_law_bag" = some (.ref (He.fAd K ("_law_bag", none)))
  g__law_lost : mg "_law_lost" = some (.ref (He.fAd K ("_law_lost", none)))
  g__law_names : mg "_law_names" = some (.ref (He.fAd K ("_law_names", none)))
  g__law_net : mg "_law_net" = some (.ref (He.fAd K ("_law_net", none)))
  g__law_order_drawn : mg "_law_order_drawn" = some (.ref (He.fAd K ("_law_order_drawn", none)))
  g__law_pick : mg "_law_pick" = some (.ref (He.fAd K ("_law_pick", none)))
  g__law_pull : mg "_law_pull" = some (.ref (He.fAd K ("_law_pull", none)))
  g__law_two : mg "_law_two" = some (.ref (He.fAd K ("_law_two", none)))
  g__law_world : mg "_law_world" = some (.ref (He.fAd K ("_law_world", none)))
  g_law : mg "law" = some (.ref (He.fAd K ("law", none)))
  g_lit : mg "lit" = some (.ref (He.fAd K ("lit", none)))
  g_need_asked : mg "need_asked" = some (.ref (He.fAd K ("need_asked", none)))
  g_need_letters : mg "need_letters" = some (.ref (He.fAd K ("need_letters", none)))
  g_need_name : mg "need_name" = some (.ref (He.fAd K ("need_name", none)))
  g_onward : mg "onward" = some (.ref (He.fAd K ("onward", none)))
  g_reach : mg "reach" = some (.ref (He.fAd K ("reach", none)))
  g_sendings : mg "sendings" = some (.ref (He.fAd K ("sendings", none)))
  g_spread_out : mg "spread_out" = some (.ref (He.fAd K ("spread_out", none)))
  g_taken_along : mg "taken_along" = some (.ref (He.fAd K ("taken_along", none)))
  g_Net : mg "Net" = some (.ref (He.ga K "Net"))
  cl_Net : Cls K (He.ga K "Net")
  n_Net_named : NoAttr K (He.ga K "Net") "named"
  n_Net_roads : NoAttr K (He.ga K "Net") "roads"
  m_Net : Mk K (He.ga K "Net") (He.fAd K ("Net", some "__init__"))
  m_Net_house : Meth K (He.ga K "Net") "house" (He.fAd K ("Net", some "house"))
  m_Net_line : Meth K (He.ga K "Net") "line" (He.fAd K ("Net", some "line"))
  m_Net_lines : Meth K (He.ga K "Net") "lines" (He.fAd K ("Net", some "lines"))
  m_Net_need_house : Meth K (He.ga K "Net") "need_house" (He.fAd K ("Net", some "need_house"))
  m_Net_need_line : Meth K (He.ga K "Net") "need_line" (He.fAd K ("Net", some "need_line"))
  m_Net_numbers : Meth K (He.ga K "Net") "numbers" (He.fAd K ("Net", some "numbers"))
  z_abs : mg "abs" = none
  z_all : mg "all" = none
  z_int : mg "int" = none
  z_len : mg "len" = none
  z_list : mg "list" = none
  z_max : mg "max" = none
  z_min : mg "min" = none
  z_range : mg "range" = none
  z_sorted : mg "sorted" = none
  z_tuple : mg "tuple" = none
  c_LETTERS : ∃ t, mg "LETTERS" = some (.str "abcdefghijklmnopqrstuvwxyz" t)
  c_LONGEST : ∃ t, mg "LONGEST" = some (.int 6 t)
  c_MOST_HOUSES : ∃ t, mg "MOST_HOUSES" = some (.int 12 t)
  c_MOST_LETTERS : ∃ t, mg "MOST_LETTERS" = some (.int 4 t)
  c_MOST_LINES : ∃ t, mg "MOST_LINES" = some (.int 30 t)
  c_MOST_NUMBER : ∃ t, mg "MOST_NUMBER" = some (.int 99 t)
  c_MOST_SLOW : ∃ t, mg "MOST_SLOW" = some (.int 4 t)
  c_MOST_TURN : ∃ t, mg "MOST_TURN" = some (.int 40 t)
  e_reach_lost : ∀ H, SqT K H (kwAdr ("reach", none) "lost" K) []
  D_l_bag : ∃ fd, FunD K "_law_bag" "_law_bag" (defArgs s_l_bag) (defBody s_l_bag) (defScope s_l_bag) [] [] (He.fAd K ("_law_bag", none)) fd
  D_l_pull : ∃ fd, FunD K "_law_pull" "_law_pull" (defArgs s_l_pull) (defBody s_l_pull) (defScope s_l_pull) [] [] (He.fAd K ("_law_pull", none)) fd
  D_l_names : ∃ fd, FunD K "_law_names" "_law_names" (defArgs s_l_names) (defBody s_l_names) (defScope s_l_names) [] [] (He.fAd K ("_law_names", none)) fd
  D_l_order_drawn : ∃ fd, FunD K "_law_order_drawn" "_law_order_drawn" (defArgs s_l_order_drawn) (defBody s_l_order_drawn) (defScope s_l_order_drawn) [] [] (He.fAd K ("_law_order_drawn", none)) fd
  D_l_pick : ∃ fd, FunD K "_law_pick" "_law_pick" (defArgs s_l_pick) (defBody s_l_pick) (defScope s_l_pick) [] [] (He.fAd K ("_law_pick", none)) fd
  D_l_two : ∃ fd, FunD K "_law_two" "_law_two" (defArgs s_l_two) (defBody s_l_two) (defScope s_l_two) [] [] (He.fAd K ("_law_two", none)) fd
  D_l_world : ∃ fd, FunD K "_law_world" "_law_world" (defArgs s_l_world) (defBody s_l_world) (defScope s_l_world) [] [] (He.fAd K ("_law_world", none)) fd
  D_need_name : ∃ fd, FunD K "need_name" "need_name" (defArgs s_need_name) (defBody s_need_name) (defScope s_need_name) [] [] (He.fAd K ("need_name", none)) fd
  D_Net_init : ∃ fd, FunD K "__init__" "Net.__init__" (defArgs s_Net_init) (defBody s_Net_init) (defScope s_Net_init) [] [] (He.fAd K ("Net", some "__init__")) fd
  D_Net_need_house : ∃ fd, FunD K "need_house" "Net.need_house" (defArgs s_Net_need_house) (defBody s_Net_need_house) (defScope s_Net_need_house) [] [] (He.fAd K ("Net", some "need_house")) fd
  D_Net_need_line : ∃ fd, FunD K "need_line" "Net.need_line" (defArgs s_Net_need_line) (defBody s_Net_need_line) (defScope s_Net_need_line) [] [] (He.fAd K ("Net", some "need_line")) fd
  D_Net_house : ∃ fd, FunD K "house" "Net.house" (defArgs s_Net_house) (defBody s_Net_house) (defScope s_Net_house) [] [] (He.fAd K ("Net", some "house")) fd
  D_Net_line : ∃ fd, FunD K "line" "Net.line" (defArgs s_Net_line) (defBody s_Net_line) (defScope s_Net_line) [] [("slow", .int 1), ("number", .non)] (He.fAd K ("Net", some "line")) fd
  D_l_net : ∃ fd, FunD K "_law_net" "_law_net" (defArgs s_l_net) (defBody s_l_net) (defScope s_l_net) [] [] (He.fAd K ("_law_net", none)) fd
  D_l_lost : ∃ fd, FunD K "_law_lost" "_law_lost" (defArgs s_l_lost) (defBody s_l_lost) (defScope s_l_lost) [] [] (He.fAd K ("_law_lost", none)) fd
  D_Net_numbers : ∃ fd, FunD K "numbers" "Net.numbers" (defArgs s_Net_numbers) (defBody s_Net_numbers) (defScope s_Net_numbers) [] [] (He.fAd K ("Net", some "numbers")) fd
  D_Net_lines : ∃ fd, FunD K "lines" "Net.lines" (defArgs s_Net_lines) (defBody s_Net_lines) (defScope s_Net_lines) [] [] (He.fAd K ("Net", some "lines")) fd
  D_need_letters : ∃ fd, FunD K "need_letters" "need_letters" (defArgs s_need_letters) (defBody s_need_letters) (defScope s_need_letters) [] [] (He.fAd K ("need_letters", none)) fd
  D_need_asked : ∃ fd, FunD K "need_asked" "need_asked" (defArgs s_need_asked) (defBody s_need_asked) (defScope s_need_asked) [] [] (He.fAd K ("need_asked", none)) fd
  D_sendings : ∃ fd, FunD K "sendings" "sendings" (defArgs s_sendings) (defBody s_sendings) (defScope s_sendings) [] [] (He.fAd K ("sendings", none)) fd
  D_onward : ∃ fd, FunD K "onward" "onward" (defArgs s_onward) (defBody s_onward) (defScope s_onward) [] [] (He.fAd K ("onward", none)) fd
  D_lit : ∃ fd, FunD K "lit" "lit" (defArgs s_lit) (defBody s_lit) (defScope s_lit) [] [] (He.fAd K ("lit", none)) fd
  D_taken_along : ∃ fd, FunD K "taken_along" "taken_along" (defArgs s_taken_along) (defBody s_taken_along) (defScope s_taken_along) [] [] (He.fAd K ("taken_along", none)) fd
  D_spread_out : ∃ fd, FunD K "spread_out" "spread_out" (defArgs s_spread_out) (defBody s_spread_out) (defScope s_spread_out) [] [] (He.fAd K ("spread_out", none)) fd
  D_reach : ∃ fd, FunD K "reach" "reach" (defArgs s_reach) (defBody s_reach) (defScope s_reach) [] [("letters", .int 2), ("lost", .ref (kwAdr ("reach", none) "lost" K))] (He.fAd K ("reach", none)) fd
  D_law : ∃ fd, FunD K "law" "law" (defArgs s_law) (defBody s_law) (defScope s_law) [] [] (He.fAd K ("law", none)) fd
local macro_rules | `(tactic| walk_at "ne") => `(tactic| first | assumption | (apply Ne.symm; assumption))
local macro_rules | `(tactic| walk_at "hp") => `(tactic| with_reducible first | assumption | exact upd_same | (refine look_new (by assumption) ?_; walk_at "hp") | (refine (upd_ne (by walk_at "ne")).trans ?_; walk_at "hp") | (refine look_mut (by assumption) ?_ (by intro z; cases z); walk_at "hp") | fail "no fact")
local macro_rules | `(tactic| walk_at "sq") => `(tactic| first | exact SqL.of (by walk_at "hp") | exact SqT.of (by walk_at "hp") | (with_unfolding_all assumption) | fail "no fact")
local macro_rules | `(tactic| walk_at "at") => `(tactic| with_unfolding_all rfl)
local macro_rules | `(tactic| walk_at "in") => `(tactic| with_unfolding_all first | omega | decide | exact ⟨by omega, by omega⟩ | exact .inl ⟨by omega, by omega⟩ | exact .inr ⟨by omega, by omega⟩ | exact ⟨by decide, by decide, by decide⟩)
local macro_rules | `(tactic| walk_at "st") => `(tactic| with_reducible first
  | (refine' z_var ?k1 ?_; (case k1 => with_unfolding_all rfl)) | refine z_op ?_ | refine z_c ?_ | refine z_cons ?_ | refine z_nil ?_ | refine z_rI0 ?_
  | refine z_cb ?_ | refine z_test ?_ | refine z_seq ?_ | refine z_asg ?_ | (refine' z_name ?k1 ?_; (case k1 => with_unfolding_all rfl)) | (refine' z_rI ?k1 ?_; (case k1 => walk_at "in")) | refine z_ret ?_ | refine z_ifs ?_
  | (refine' z_eq ?k1 ?_; (case k1 => with_unfolding_all rfl)) | refine z_tup ?_ | (refine' z_newT ?k1 ?_; (case k1 => with_unfolding_all rfl)) | refine z_fn ?_ | refine ⟨(by with_unfolding_all rfl), (by with_unfolding_all rfl), ?_⟩
  | refine z_next ?_ | refine z_bm ?_ | (refine' z_tyL ?k1 ?_; (case k1 => walk_at "hp")) | (refine' z_append ?k1 ?k2 ?_; (case k1 => walk_at "hp"); (case k2 => (with_unfolding_all (rw [sizeLine_eq]; omega)))) | refine z_sub ?_ | refine z_if ?_ | refine z_retn ?_ | refine z_drop ?_ | refine z_un ?_ | refine z_tB ?_
  | refine z_not ?_ | refine z_and ?_ | refine z_or ?_ | refine z_chain ?_ | refine z_lst ?_ | (refine' z_newL ?k1 ?_; (case k1 => with_unfolding_all rfl)) | refine z_rU ?_
  | (refine' z_ne ?k1 ?_; (case k1 => with_unfolding_all rfl)) | refine z_slice ?_ | refine z_nopart ?_ | refine z_part ?_ | refine z_mt ?_ | refine z_nw ?_
  | (refine' z_ixT ?k1 ?k2 ?_; (case k1 => walk_at "sq"); (case k2 => walk_at "at")) | (refine' z_setL ?k1 ?k2 ?_; (case k1 => walk_at "hp"); (case k2 => with_unfolding_all rfl))
  | refine z_forL ?_ | refine z_forT ?_ | refine z_for1 ?_ | refine z_for2 ?_ | refine z_forS ?_ | refine z_lcL ?_ | refine z_lc1 ?_ | refine z_lc2 ?_ | refine z_lcT ?_ | refine z_lcS ?_
  | (refine' z_gtup ?k1 ?k2 ?_; (case k1 => walk_at "sq"); (case k2 => with_unfolding_all rfl)) | refine z_gcons ?_ | refine z_gnil ?_ | refine z_par ?_
  | (refine' z_lcb ?k1 ?_; (case k1 => with_unfolding_all rfl)) | refine z_yes ?_ | refine z_fld ?_ | refine z_sfld ?_ | refine z_din ?_ | refine z_dnin ?_ | refine z_dget ?_ | refine z_dput ?_ | (refine' z_slL ?k1 ?_; (case k1 => walk_at "sq"))
  | (refine' z_ixL ?k1 ?k2 ?_; (case k1 => walk_at "sq"); (case k2 => walk_at "at")) | refine iteT ?_ | refine iteF ?_ | refine iteNT ?_ | refine iteNF ?_ | refine ⟨_, rfl, ?_⟩
  | refine ⟨_, _, rfl, .inl (by walk_at "sq"), ?_⟩ | refine ⟨_, _, rfl, .inr (by walk_at "sq"), ?_⟩ | refine ⟨_, _, rfl, (by walk_at "sq"), ?_⟩
  | refine ⟨_, _, rfl, (by walk_at "hp"), ?_⟩ | (refine' z_fldq ?k1 ?k2 ?k3 ?k4 ?_; (case k1 => walk_at "hp"); (case k2 => with_unfolding_all assumption); (case k3 => with_unfolding_all assumption); (case k4 => with_unfolding_all rfl))
  | (refine' z_mtq ?k1 ?k2 ?_; (case k1 => walk_at "hp"); (case k2 => with_unfolding_all rfl)) | (refine' z_sfldq ?k1 ?k2 ?k3 ?k4 ?_; (case k1 => walk_at "hp"); (case k2 => with_unfolding_all assumption); (case k3 => with_unfolding_all assumption); (case k4 => with_unfolding_all rfl)) | (refine' z_listD ?k1 ?_; (case k1 => walk_at "hp")) | (refine' z_tyDT ?k1 ?_; (case k1 => walk_at "hp")) | (refine' z_tyDK ?k1 ?_; (case k1 => walk_at "hp")) | refine z_dget2 ?_ | (refine' z_isdq ?k1 ?_; (case k1 => first | exact isD_k (by walk_at "hp") | exact isD_t (by walk_at "hp"))) | (refine' z_aug ?k1 ?_; (case k1 => with_unfolding_all rfl)) | refine z_ipI ?_
  | refine z_dsetT ?_ | refine z_dispT ?_ | refine z_disp1 ?_ | refine z_dnewK ?_ | refine z_dnewT ?_
  | refine ⟨⟨_, by walk_at "sq"⟩, ?_⟩ | refine ⟨_, _, rfl, ?_⟩ | fail "no step")
local macro_rules | `(tactic| walk_at "go") => `(tactic| (repeat' walk_at "st"))
section
variable {P : Program} {w : World} {K : PySem.W.Frag} {mg : Str → Option Value} {base : Heap}

/-! ### heaps: what is kept -/
/-- all that was tracked stands, but for what lies at S -/
def Kp (S : List Addr) (H H' : Hp) : Prop := ∀ a o, H a = some o → a ∉ S → H' a = some o
theorem Kp.refl {S : List Addr} {H : Hp} : Kp S H H := fun _ _ e _ => e
theorem Kp.trans {S : List Addr} {H H1 H2 : Hp} (a : Kp S H H1) (b : Kp S H1 H2) : Kp S H H2 := fun c o e n => b c o (a c o e n) n
theorem Kp.mono {S S' : List Addr} {H H' : Hp} (a : Kp S H H') (h : ∀ x ∈ S, x ∈ S') : Kp S' H H' := fun c o e n => a c o e fun z => n (h c z)
theorem Kp.look {S : List Addr} {H H' : Hp} (a : Kp S H H') {q : Addr} {o : HO} (e : H q = some o) (n : q ∉ S) : H' q = some o := a q o e n
theorem Kp.new {S : List Addr} {H : Hp} {p : Addr} {o : HO} (n : H p = none) : Kp S H (upd H p o) := fun c u e _ => look_new n e
theorem Kp.mut {S : List Addr} {H : Hp} {p : Addr} {o : HO} (n : p ∈ S) : Kp S H (upd H p o) := fun c u e m => by
  rw [upd_ne (fun z => m (by rw [z]; exact n))]
  exact e
theorem Kp.seqL {S : List Addr} {H H' : Hp} {K : PySem.W.Frag} {a : Addr} {xs : List V} (k : Kp S H H') (h : SqL K H a xs) (n : a ∉ S) : SqL K H' a xs := by
  rcases h with (h | ⟨o, h⟩) | h
  · exact .inl (.inl (k _ _ h n))
  · exact .inl (.inr ⟨o, k _ _ h n⟩)
  · exact .inr h
theorem Kp.seqT {S : List Addr} {H H' : Hp} {K : PySem.W.Frag} {a : Addr} {xs : List V} (k : Kp S H H') (h : SqT K H a xs) (n : a ∉ S) : SqT K H' a xs := by
  rcases h with (h | ⟨o, h⟩) | h
  · exact .inl (.inl (k _ _ h n))
  · exact .inl (.inr ⟨o, k _ _ h n⟩)
  · exact .inr h
theorem Kp.sameN {H H' : Hp} (k : Kp [] H H') : Same H H' := fun a o e => k a o e (by simp)
theorem ni1 {a b : Addr} (h : a ≠ b) : a ∉ [b] := by simpa using h
theorem ni2 {a b c : Addr} (h : a ≠ b) (h2 : a ≠ c) : a ∉ [b, c] := by
  simp only [List.mem_cons, List.not_mem_nil, or_false, not_or]
  exact ⟨h, h2⟩
/-- what was made since is changed -/
theorem Kp.own {S : List Addr} {H H1 : Hp} {p : Addr} {o : HO} (k : Kp S H H1) (n : H p = none) : Kp S H (upd H1 p o) := fun c u e m => by
  rw [upd_ne (ne_of_none e n)]
  exact k c u e m
theorem Kp.none {S : List Addr} {H H1 : Hp} {p : Addr} (k : Kp S H H1) (h : H1 p = none) (m : p ∉ S) : H p = none := by
  cases q : H p with
  | none => rfl
  | some o =>
    rw [k p o q m] at h
    cases h
theorem un_none {H : Hp} {a b : Addr} {o : HO} (h : upd H a o b = none) : H b = none := by
  by_cases e : b = a
  · rw [e, upd_same] at h
    cases h
  · rw [upd_ne e] at h
    exact h
/-! ### lists item by item -/
theorem paired_get {α β : Type} {F : α → β → Prop} : ∀ {xs : List α} {ys : List β} {i : Nat} {x : α}, Paired F xs ys → xs[i]? = some x → ∃ y, ys[i]? = some y ∧ F x y
  | _, _, _, _, .nil, e => by simp at e
  | _, _, 0, _, .cons r _, e => by
    simp at e
    subst e
    exact ⟨_, rfl, r⟩
  | _, _, i + 1, x, .cons _ t, e => by
    obtain ⟨y, h1, h2⟩ := paired_get (i := i) (x := x) t (by simpa using e)
    exact ⟨y, by simpa using h1, h2⟩
theorem paired_snoc {α β : Type} {F : α → β → Prop} {x : α} {y : β} (r : F x y) : ∀ {xs : List α} {ys : List β}, Paired F xs ys → Paired F (xs ++ [x]) (ys ++ [y])
  | _, _, .nil => .cons r .nil
  | _, _, .cons q t => .cons q (paired_snoc r t)
theorem paired_mem {α β : Type} {F : α → β → Prop} {xs : List α} {ys : List β} {x : α} (r : Paired F xs ys) (h : x ∈ xs) : ∃ y ∈ ys, F x y := by
  obtain ⟨i, hi⟩ := List.mem_iff_getElem?.mp h
  obtain ⟨y, h1, h2⟩ := paired_get r hi
  exact ⟨y, List.mem_of_getElem? h1, h2⟩
theorem paired_perm {α β : Type} {F : α → β → Prop} {xs xs' : List α} (p : xs'.Perm xs) : ∀ {ys : List β}, Paired F xs ys → ∃ ys', ys'.Perm ys ∧ Paired F xs' ys' := by
  induction p with
  | nil => intro ys r; exact ⟨ys, .refl _, r⟩
  | cons a _ ih =>
    intro ys r
    cases r with
    | cons q t =>
      obtain ⟨ys', p', r'⟩ := ih t
      exact ⟨_ :: ys', .cons _ p', .cons q r'⟩
  | swap a b l =>
    intro ys r
    cases r with
    | cons q t =>
      cases t with
      | cons q2 t2 => exact ⟨_ :: _ :: _, .swap _ _ _, .cons q2 (.cons q t2)⟩
  | trans _ _ ih1 ih2 =>
    intro ys r
    obtain ⟨y1, p1, r1⟩ := ih2 r
    obtain ⟨y2, p2, r2⟩ := ih1 r1
    exact ⟨y2, p2.trans p1, r2⟩
theorem atI_get {α : Type} {xs : List α} {i : Int} {j : Nat} {v : α} (e : i = (j : Int)) (h : xs[j]? = some v) : atI xs i = some v := by
  subst e
  exact atI_nat h
/-- the tuples stand -/
def KpT (H H' : Hp) : Prop := ∀ a xs, H a = some (.tup xs) → H' a = some (.tup xs)
theorem KpT.trans {H H1 H2 : Hp} (a : KpT H H1) (b : KpT H1 H2) : KpT H H2 := fun c xs e => b c xs (a c xs e)
theorem KpT.refl {H : Hp} : KpT H H := fun _ _ e => e
theorem KpT.new {H : Hp} {p : Addr} {o : HO} (n : H p = none) : KpT H (upd H p o) := fun c xs e => look_new n e
theorem KpT.lst {H : Hp} {p : Addr} {o : HO} {xs : List V} (n : H p = some (.lst xs)) : KpT H (upd H p o) := fun c ys e => look_mut n e (by intro z; cases z)
theorem KpT.of {S : List Addr} {H H' : Hp} (k : Kp S H H') (h : ∀ a ∈ S, ∀ xs, H a ≠ some (.tup xs)) : KpT H H' := fun a xs e => k a _ e fun m => h a m xs e
theorem KpT.of1 {b : Addr} {H H' : Hp} {o : HO} (k : Kp [b] H H') (h : H b = some o) (n : ∀ xs, o ≠ .tup xs) : KpT H H' := .of k fun a m xs e => by
  simp only [List.mem_cons, List.not_mem_nil, or_false] at m
  subst m
  rw [h] at e
  exact n xs (Option.some.inj e)
theorem other_ix {n i : Nat} {v : Int} (hi : i < n) (v0 : 0 ≤ v) (v1 : v < (n : Int) - 1) : ∃ j : Nat, ((i : Int) + 1 + v) % (n : Int) = (j : Int) ∧ j < n ∧ i ≠ j := by
  by_cases c : (i : Int) + 1 + v < (n : Int)
  · refine ⟨((i : Int) + 1 + v).toNat, ?_, by omega, by omega⟩
    rw [Int.emod_eq_of_lt (by omega) c]
    omega
  · refine ⟨((i : Int) + 1 + v - (n : Int)).toNat, ?_, by omega, by omega⟩
    rw [← Int.sub_emod_right, Int.emod_eq_of_lt (by omega) (by omega)]
    omega
/-- what is changed later was not there, or may change -/
theorem Kp.fresh {S S' : List Addr} {H H1 H2 : Hp} (k : Kp S H H1) (k2 : Kp S' H1 H2) (h : ∀ a ∈ S', H a = Option.none ∨ a ∈ S) : Kp S H H2 := fun a o e n => k2 a o (k a o e n) fun m => by
  rcases h a m with z | z
  · rw [z] at e
    cases e
  · exact n z
theorem paired_perm_r {α β : Type} {F : α → β → Prop} {ys ys' : List β} (p : ys'.Perm ys) : ∀ {xs : List α}, Paired F xs ys → ∃ xs', xs'.Perm xs ∧ Paired F xs' ys' := by
  induction p with
  | nil => intro xs r; exact ⟨xs, .refl _, r⟩
  | cons a _ ih =>
    intro xs r
    cases r with
    | cons q t =>
      obtain ⟨xs', p', r'⟩ := ih t
      exact ⟨_ :: xs', .cons _ p', .cons q r'⟩
  | swap a b l =>
    intro xs r
    cases r with
    | cons q t =>
      cases t with
      | cons q2 t2 => exact ⟨_ :: _ :: _, .swap _ _ _, .cons q2 (.cons q t2)⟩
  | trans _ _ ih1 ih2 =>
    intro xs r
    obtain ⟨y1, p1, r1⟩ := ih2 r
    obtain ⟨y2, p2, r2⟩ := ih1 r1
    exact ⟨y2, p2.trans p1, r2⟩
theorem paired_map {α : Type} (f : α → V) : ∀ xs : List α, Paired (fun x y => y = f x) xs (xs.map f)
  | [] => .nil
  | x :: xs => .cons rfl (paired_map f xs)
theorem paired_is {α : Type} {f : α → V} : ∀ {xs : List α} {ys : List V}, Paired (fun x y => y = f x) xs ys → ys = xs.map f
  | _, _, .nil => rfl
  | _, _, .cons e t => by rw [List.map_cons, e, ← paired_is t]
theorem perm_map {α : Type} {f : α → V} {xs : List α} {ys : List V} (p : ys.Perm (xs.map f)) : ∃ xs' : List α, xs'.Perm xs ∧ ys = xs'.map f := by
  obtain ⟨xs', p', r⟩ := paired_perm_r p (paired_map f xs)
  exact ⟨xs', p', paired_is r⟩
theorem take_succ_get {α : Type} {xs : List α} {i : Nat} {x : α} (h : xs[i]? = some x) : xs.take (i + 1) = xs.take i ++ [x] := by
  rw [List.take_add_one, h]
  rfl
theorem map_get {α : Type} {f : α → V} {xs : List α} {i : Nat} {v : V} (h : (xs.map f)[i]? = some v) : ∃ x, xs[i]? = some x ∧ v = f x := by
  rw [List.getElem?_map] at h
  cases e : xs[i]? with
  | none => rw [e] at h; cases h
  | some x => rw [e] at h; exact ⟨x, rfl, (Option.some.inj h).symm⟩
theorem nodup_get {α : Type} {xs : List α} {i : Nat} {x : α} (n : xs.Nodup) (h : xs[i]? = some x) : x ∉ xs.take i := fun m => by
  obtain ⟨j, hj⟩ := List.mem_iff_getElem?.mp m
  have hl := (List.getElem?_eq_some_iff.mp hj).1
  rw [List.length_take] at hl
  rw [List.getElem?_take_of_lt (by omega)] at hj
  obtain ⟨h1, h2⟩ := List.getElem?_eq_some_iff.mp h
  obtain ⟨h3, h4⟩ := List.getElem?_eq_some_iff.mp hj
  have := (List.getElem_inj (h₀ := h3) (h₁ := h1) n).mp (h4.trans h2.symm)
  omega
theorem paired_get_r {α β : Type} {F : α → β → Prop} : ∀ {xs : List α} {ys : List β} {i : Nat} {y : β}, Paired F xs ys → ys[i]? = some y → ∃ x, xs[i]? = some x ∧ F x y
  | _, _, _, _, .nil, e => by simp at e
  | _, _, 0, _, .cons r _, e => by
    simp at e
    subst e
    exact ⟨_, rfl, r⟩
  | _, _, i + 1, y, .cons _ t, e => by
    obtain ⟨x, h1, h2⟩ := paired_get_r (i := i) (y := y) t (by simpa using e)
    exact ⟨x, by simpa using h1, h2⟩

def BagAt (H : Hp) (b l : Addr) : Prop := ∃ (ns : List Int) (i r s : Int), H b = some (.lst [.ref l, .int i, .int r, .int s]) ∧ H l = some (.lst (ns.map .int)) ∧ l ≠ b ∧ 0 ≤ i
theorem BagAt.kp {S : List Addr} {H H' : Hp} {b l : Addr} (B : BagAt H b l) (k : Kp S H H') (nb : b ∉ S) (nl : l ∉ S) : BagAt H' b l := by
  obtain ⟨ns, i, r, s, h1, h2, h3, h4⟩ := B
  exact ⟨ns, i, r, s, k _ _ h1 nb, k _ _ h2 nl, h3, h4⟩
theorem BagAt.ne {H : Hp} {b l p : Addr} (B : BagAt H b l) (h : H p = none) : b ≠ p ∧ l ≠ p := by
  obtain ⟨ns, i, r, s, h1, h2, h3, h4⟩ := B
  exact ⟨ne_of_none h1 h, ne_of_none h2 h⟩
theorem BagAt.bl {H : Hp} {b l : Addr} (B : BagAt H b l) : l ≠ b := by
  obtain ⟨ns, i, r, s, h1, h2, h3, h4⟩ := B
  exact h3
def sp_l_pull : Sp := fun vs H Q _ => ∃ (b l : Addr) (n : Int), vs = [.ref b, .int n] ∧ BagAt H b l ∧ 0 < n ∧ n < 1073741824 ∧ ∀ v H', 0 ≤ v → v < n → Kp [b] H H' → BagAt H' b l → Q (.int v) H'
theorem fa_l_pull (T : Tx K mg) : FnA P w K mg base CX0 1 (He.fAd K ("_law_pull", none)) 2 [] gPos sp_l_pull := by
  obtain ⟨fd, F⟩ := T.D_l_pull
  refine FnA.pos F (F.ok (ps := ["_law_bag_here", "_law_tally"]) sc_l_pull (fun vs H Q E h => ?_) (fun cdv A outer s H vs Q E hr h => ?_)) 2 (fun _ _ _ _ _ _ us hl => match us, hl with | [_, _], _ => rfl)
  · obtain ⟨b, l, n, rfl, _⟩ := h
    rfl
  · obtain ⟨b, l, n, rfl, ⟨ns, i, r, s', hb, hl, hlb, hi⟩, h0, h1, k⟩ := h
    refine ⟨_, PSs.nox (pss_cons (ps_if (pt_cmpR op_eq (pe_ix ix_list (pv 0) pe_int (fun _ _ => rfl)) pe_int (nomark _)) (pss_cons (ps_asg (pe_op op_add (pe_ix ix_list (pv 0) pe_int (fun _ _ => rfl)) pe_int) (pg_sub (pv 0) pe_int set_list))
    (pss_cons (ps_set (i := 2) sc_l_pull.nd rfl (Or.inl rfl) (pe_ifExp (pt_cmpR op_le (pe_ix ix_list (pv 0) pe_int (fun _ _ => rfl)) (pe_callB call_len_seq (by rfl) T.z_len (by decide +kernel) (pa_cons (pe_ix ix_list (pv 0) pe_int (fun _ _ => rfl)) pa_nil)) (nomark _)) (pe_ix ix_list (pe_ix ix_list (pv 0) pe_int (fun _ _ => rfl)) (pe_op op_sub (pe_ix ix_list (pv 0) pe_int (fun _ _ => rfl)) pe_int) (fun _ _ => rfl)) pe_int))
    (pss_cons (ps_if (pt_cmpR op_lt (pe_callB call_abs (by rfl) T.z_abs (by decide +kernel) (pa_cons (pv 2) pa_nil)) (pe_op op_pow pe_int pe_int) (nomark _)) (pss_cons (ps_set (i := 3) sc_l_pull.nd rfl (Or.inl rfl) (pe_op op_add (pe_op op_mul (pe_ix ix_list (pv 0) pe_int (fun _ _ => rfl)) pe_int) (pe_op op_mul (pe_op op_mod (pv 2) pe_int) pe_int)))
    (pss_cons (ps_set (i := 3) sc_l_pull.nd rfl (Or.inl rfl) (pe_op op_mod (pe_op op_add (pv 3) (pe_op op_mul (pe_ix ix_list (pv 0) pe_int (fun _ _ => rfl)) pe_int)) pe_int))
    (pss_cons (ps_asg (pe_op op_mod (pe_op op_add (pe_op op_add (pe_op op_mul (pv 3) (pv 3)) (pe_ix ix_list (pv 0) pe_int (fun _ _ => rfl))) pe_int) pe_int) (pg_sub (pv 0) pe_int set_list))
    (pss_one (ps_ret (pe_op op_mod (pe_op op_add (pe_op op_fdiv (pe_ix ix_list (pv 0) pe_int (fun _ _ => rfl)) pe_int) (pe_op op_mul (pe_op op_mod (pe_ix ix_list (pv 0) pe_int (fun _ _ => rfl)) pe_int) pe_int)) (pv 1))))))) pss_nil)
    (pss_one (ps_asg (pe_callB call_abs (by rfl) T.z_abs (by decide +kernel) (pa_cons (pv 2) pa_nil)) (pg_sub (pv 0) pe_int set_list)))))) pss_nil)
    (pss_cons (ps_set (i := 4) sc_l_pull.nd rfl (Or.inl rfl) (pe_op op_mod (pe_ix ix_list (pv 0) pe_int (fun _ _ => rfl)) (pv 1)))
    (pss_cons (ps_asg (pe_op op_fdiv (pe_ix ix_list (pv 0) pe_int (fun _ _ => rfl)) (pv 1)) (pg_sub (pv 0) pe_int set_list))
    (pss_one (ps_ret (pv 4)))))), ?_⟩
    walk_at "go"
    refine i_eqI (fun c => ?_) (fun c => ?_)
    · walk_at "go"
      refine i_dec (fun c2 => ?_) (fun c2 => ?_)
      · rw [List.length_map] at c2
        obtain ⟨j, hj⟩ : ∃ j : Nat, i = (j : Int) := ⟨i.toNat, by omega⟩
        subst hj
        have hlt : j < ns.length := by omega
        have hat : atI (ns.map V.int) (((j : Int) + 1) - 1) = some (V.int ns[j]) := by
          rw [Int.add_sub_cancel]
          exact atI_nat (by rw [List.getElem?_map, List.getElem?_eq_getElem hlt]; rfl)
        walk_at "go"
        refine z_ixL (by walk_at "sq") hat ?_
        walk_at "go"
        refine i_dec (fun c3 => ?_) (fun c3 => ?_)
        · walk_at "go"
          refine k _ _ (Int.emod_nonneg _ (by omega)) (Int.emod_lt_of_pos _ h0) ((Kp.mut (by simp)).trans (.mut (by simp))) ⟨ns, (j : Int) + 1, r, _, upd_same, (by walk_at "hp"), hlb, by omega⟩
        · walk_at "go"
          refine k _ _ (Int.emod_nonneg _ (by omega)) (Int.emod_lt_of_pos _ h0) ((Kp.mut (by simp)).trans ((Kp.mut (by simp)).trans (.mut (by simp)))) ⟨ns, (j : Int) + 1, _, s', upd_same, (by walk_at "hp"), hlb, by omega⟩
      · walk_at "go"
        refine i_dec (fun c3 => ?_) (fun c3 => ?_)
        · walk_at "go"
          refine k _ _ (Int.emod_nonneg _ (by omega)) (Int.emod_lt_of_pos _ h0) ((Kp.mut (by simp)).trans (.mut (by simp))) ⟨ns, i + 1, r, _, upd_same, (by walk_at "hp"), hlb, by omega⟩
        · walk_at "go"
          refine k _ _ (Int.emod_nonneg _ (by omega)) (Int.emod_lt_of_pos _ h0) ((Kp.mut (by simp)).trans ((Kp.mut (by simp)).trans (.mut (by simp)))) ⟨ns, i + 1, _, s', upd_same, (by walk_at "hp"), hlb, by omega⟩
    · walk_at "go"
      refine k _ _ (Int.emod_nonneg _ (by omega)) (Int.emod_lt_of_pos _ h0) (.mut (by simp)) ⟨ns, i, _, s', upd_same, (by walk_at "hp"), hlb, hi⟩

theorem cutV_map {α : Type} (f : α → V) (ns : List α) (lo hi : Option Int) : ∃ ms : List α, cutV (ns.map f) lo hi = ms.map f ∧ ms.length ≤ ns.length ∧ ∀ m ∈ ms, m ∈ ns := by
  unfold cutV
  rw [← List.map_drop, ← List.map_take]
  exact ⟨_, rfl, by rw [List.length_take, List.length_drop]; omega, fun m h => List.mem_of_mem_drop (List.mem_of_mem_take h)⟩
def sp_l_bag (K : PySem.W.Frag) : Sp := fun vs H Q _ => ∃ (a : Addr) (ns : List Int), vs = [.ref a] ∧ SqL K H a (ns.map V.int) ∧ ns.length ≤ 63 ∧ ∀ b l H', Same H H' → H b = none → H l = none → BagAt H' b l → Q (.ref b) H'
theorem fa_l_bag (T : Tx K mg) : FnA P w K mg base CX0 1 (He.fAd K ("_law_bag", none)) 1 [] gPos (sp_l_bag K) := by
  obtain ⟨fd, F⟩ := T.D_l_bag
  refine FnA.pos F (F.ok (ps := ["_law_script"]) sc_l_bag (fun vs H Q E h => ?_) (fun cdv A outer s H vs Q E hr h => ?_)) 1 (fun _ _ _ _ _ _ us hl => match us, hl with | [_], _ => rfl)
  · obtain ⟨b, n, rfl, _⟩ := h
    rfl
  · obtain ⟨a, ns, rfl, hS, hl, k⟩ := h
    refine ⟨_, PSs.nox (pss_cons (ps_set (i := 1) sc_l_bag.nd rfl (Or.inl rfl) (pe_callTy call_list_of (by rfl) T.z_list (by decide +kernel) (pa_cons (pe_slice sl_list (pv 0) po_none (po_some pe_int)) pa_nil)))
    (pss_cons (ps_set (i := 2) sc_l_bag.nd rfl (Or.inl rfl) (pe_op op_add pe_int (pe_callB call_len_seq (by rfl) T.z_len (by decide +kernel) (pa_cons (pv 1) pa_nil))))
    (pss_cons (ps_for PassesOwn.never rfl (pi_list (pv 1)) (pg_name (i := 3) sc_l_bag.nd rfl (Or.inl rfl))
    (pss_one (ps_set (i := 2) sc_l_bag.nd rfl (Or.inl rfl) (pe_op op_mod (pe_op op_add (pe_op op_add (pe_op op_mul (pv 2) pe_int) (pe_op op_mod (pe_callB call_abs (by rfl) T.z_abs (by decide +kernel) (pa_cons (pv 3) pa_nil)) pe_int)) (pe_op op_mul pe_int (pe_callTy call_int1 (by rfl) T.z_int (by decide +kernel) (pa_cons (pe_cmpR op_lt (pv 3) pe_int (nomark _)) pa_nil)))) pe_int))))
    (pss_one (ps_ret (pe_lst (pa_cons (pv 1) (pa_cons pe_int (pa_cons pe_int (pa_cons (pv 2) pa_nil)))))))))), ?_⟩
    walk_at "go"
    intro p1 h1
    walk_at "go"
    intro p2 h2
    obtain ⟨ms, e, _, _⟩ := cutV_map V.int ns none (some 63)
    have hc : upd (upd H p1 (.lst (cutV (ns.map V.int) none (some 63)))) p2 (.lst (cutV (ns.map V.int) none (some 63))) p2 = some (.lst (ms.map V.int)) := by rw [upd_same, e]
    have s2 : Same H (upd (upd H p1 (.lst (cutV (ns.map V.int) none (some 63)))) p2 (.lst (cutV (ns.map V.int) none (some 63)))) := fun c o q => look_new h2 (look_new h1 q)
    generalize upd (upd H p1 (.lst (cutV (ns.map V.int) none (some 63)))) p2 (.lst (cutV (ns.map V.int) none (some 63))) = H2 at hc s2 ⊢
    walk_at "go"
    refine loopL (xs := ms.map V.int) (fun i σ H' => ∃ (s : Int) (o : Option V), H' = H2 ∧ σ = [some (.ref a), some (.ref p2), some (.int s), o]) ⟨_, _, rfl, rfl⟩ (fun i σ H' _ hv => ?_) (fun i x σ H' hx hv => ?_) (fun σ H' hv => ?_)
    · obtain ⟨_, _, rfl, _⟩ := hv
      exact .of hc
    · obtain ⟨s, o, rfl, rfl⟩ := hv
      obtain ⟨z, rfl⟩ : ∃ z, x = .int z := by
        rw [List.getElem?_map] at hx
        cases e : ms[i]? with
        | none => rw [e] at hx; cases hx
        | some z => rw [e] at hx; exact ⟨z, (Option.some.inj hx).symm⟩
      walk_at "go"
      refine .inr ⟨_, rfl, ?_⟩
      walk_at "go"
      exact ⟨_, _, rfl, rfl⟩
    · obtain ⟨s, o, rfl, rfl⟩ := hv
      walk_at "go"
      intro p3 h3
      have nn : ∀ q, H' q = none → H q = none := fun q hq => Kp.none (S := []) (fun a o e _ => s2 a o e) hq (by simp)
      refine k _ _ _ (fun c o q => look_new h3 (s2 c o q)) (nn _ h3) ?_ ⟨ms, 0, 0, s, upd_same, look_new h3 hc, ne_of_none hc h3, Int.le_refl _⟩
      exact un_none h2

def sp_l_pick (K : PySem.W.Frag) : Sp := fun vs H Q _ => ∃ (b l r : Addr) (xs : List V), vs = [.ref b, .ref r] ∧ BagAt H b l ∧ SqL K H r xs ∧ r ≠ b ∧ xs ≠ [] ∧ xs.length < 1073741824 ∧ ∀ (j : Nat) x H', xs[j]? = some x → Kp [b] H H' → BagAt H' b l → Q x H'
theorem fa_l_pick (T : Tx K mg) : FnA P w K mg base CX0 2 (He.fAd K ("_law_pick", none)) 2 [] gPos (sp_l_pick K) := by
  obtain ⟨fd, F⟩ := T.D_l_pick
  refine FnA.pos F (F.ok (ps := ["_law_bag_here", "_law_row"]) sc_l_pick (fun vs H Q E h => ?_) (fun cdv A outer s H vs Q E hr h => ?_)) 2 (fun _ _ _ _ _ _ us hl => match us, hl with | [_, _], _ => rfl)
  · obtain ⟨_, _, _, _, rfl, _⟩ := h
    rfl
  · obtain ⟨b, l, r, xs, rfl, hB, hS, hrb, hx, hl, k⟩ := h
    refine ⟨_, PSs.nox (pss_one (ps_ret (pe_ix ix_list (pv 1) (pe_f (fa_l_pull T) (hr.mono (by decide)) rfl T.g__law_pull pass0 (pa_cons (pv 0) (pa_cons (pe_callB call_len_seq (by rfl) T.z_len (by decide +kernel) (pa_cons (pv 1) pa_nil)) pa_nil))) (fun _ _ => rfl)))), ?_⟩
    have h0 : 0 < xs.length := by
      cases xs with
      | nil => exact absurd rfl hx
      | cons _ _ => simp
    walk_at "go"
    refine ⟨b, l, (xs.length : Int), rfl, hB, by omega, by omega, fun v H' v0 v1 k1 B1 => ?_⟩
    obtain ⟨j, rfl⟩ : ∃ j : Nat, v = (j : Int) := ⟨v.toNat, by omega⟩
    have hj : j < xs.length := by omega
    have hat : xs[j]? = some xs[j] := List.getElem?_eq_getElem hj
    refine z_ixL (k1.seqL hS (ni1 hrb)) (atI_nat hat) ?_
    exact k j _ _ hat k1 B1

theorem eraseIdx_perm {α : Type} : ∀ (xs : List α) (j : Nat) (x : α), xs[j]? = some x → (x :: xs.eraseIdx j).Perm xs
  | [], j, x, h => by simp at h
  | a :: l, 0, x, h => by
    simp at h
    subst h
    exact .refl _
  | a :: l, j + 1, x, h => by
    have ih := eraseIdx_perm l j x (by simpa using h)
    rw [List.eraseIdx_cons_succ]
    exact (List.Perm.swap _ _ _).trans (ih.cons _)
def sp_l_order (K : PySem.W.Frag) : Sp := fun vs H Q _ => ∃ (b l r : Addr) (xs : List V), vs = [.ref b, .ref r] ∧ BagAt H b l ∧ SqL K H r xs ∧ r ≠ b ∧ xs.length ≤ 1000 ∧ ∀ p (ys : List V) H', ys.Perm xs → Kp [b] H H' → BagAt H' b l → H p = none → H' p = some (.lst ys) → p ≠ b → Q (.ref p) H'
theorem fa_l_order_drawn (T : Tx K mg) : FnA P w K mg base CX0 2 (He.fAd K ("_law_order_drawn", none)) 2 [] gPos (sp_l_order K) := by
  obtain ⟨fd, F⟩ := T.D_l_order_drawn
  refine FnA.pos F (F.ok (ps := ["_law_bag_here", "_law_row"]) sc_l_order_drawn (fun vs H Q E h => ?_) (fun cdv A outer s H vs Q E hr h => ?_)) 2 (fun _ _ _ _ _ _ us hl => match us, hl with | [_, _], _ => rfl)
  · obtain ⟨_, _, _, _, rfl, _⟩ := h
    rfl
  · obtain ⟨b, l, r, xs, rfl, hB, hS, hrb, hl, k⟩ := h
    refine ⟨_, PSs.nox (pss_cons (ps_set (i := 2) sc_l_order_drawn.nd rfl (Or.inl rfl) (pe_callTy call_list_of (by rfl) T.z_list (by decide +kernel) (pa_cons (pv 1) pa_nil)))
    (pss_cons (ps_set (i := 3) sc_l_order_drawn.nd rfl (Or.inl rfl) (pe_lst pa_nil))
    (pss_cons (ps_for PassesOwn.never rfl (pi_range1 rfl T.z_range (pa_cons (pe_callB call_len_seq (by rfl) T.z_len (by decide +kernel) (pa_cons (pv 1) pa_nil)) pa_nil)) (pg_name (i := 4) sc_l_order_drawn.nd rfl (Or.inl rfl))
    (pss_one (ps_expr (pe_bm PySem.F.plainAttrs_list PySem.F.slot_list_append PySem.F.type_list_append mt_append (pv 3) (pa_cons (pe_bm PySem.F.plainAttrs_list PySem.F.slot_list_pop PySem.F.type_list_pop mt_popAt (pv 2) (pa_cons (pe_f (fa_l_pull T) (hr.mono (by decide)) rfl T.g__law_pull pass0 (pa_cons (pv 0) (pa_cons (pe_callB call_len_seq (by rfl) T.z_len (by decide +kernel) (pa_cons (pv 2) pa_nil)) pa_nil))) pa_nil)) pa_nil)))))
    (pss_one (ps_ret (pv 3)))))), ?_⟩
    walk_at "go"
    intro p1 h1
    walk_at "go"
    intro p2 h2
    have n12 : p1 ≠ p2 := ne_of_none upd_same h2
    obtain ⟨n1b, n1l⟩ := hB.ne h1
    obtain ⟨n2b, n2l⟩ := hB.ne (un_none h2)
    walk_at "go"
    have k0 : Kp [b] H (upd (upd H p1 (.lst xs)) p2 (.lst [])) := (Kp.new h1).trans (.new h2)
    have hS2 := k0.seqL hS (ni1 hrb)
    refine ⟨r, xs, rfl, .inl hS2, ?_⟩
    refine ⟨(xs.length : Int), rfl, by omega, by omega, ?_⟩
    refine loopR (fun i σ H' => ∃ (ys zs : List V) (o : Option V), σ = [some (.ref b), some (.ref r), some (.ref p1), some (.ref p2), o] ∧ H' p1 = some (.lst zs) ∧ H' p2 = some (.lst ys) ∧ (ys ++ zs).Perm xs ∧ ys.length = i ∧ Kp [b] H H' ∧ BagAt H' b l) ?_ (fun i σ H' hi hv => ?_) (fun σ H' hv => ?_)
    · exact ⟨[], xs, _, rfl, (upd_ne n12).trans upd_same, upd_same, .refl _, rfl, k0, hB.kp (S := []) ((Kp.new h1).trans (.new h2)) (by simp) (by simp)⟩
    · obtain ⟨ys, zs, o, rfl, e1, e2, pm, hy, k1, B1⟩ := hv
      have hz : zs.length = xs.length - i := by
        have := pm.length_eq
        rw [List.length_append] at this
        omega
      walk_at "go"
      refine ⟨b, l, (zs.length : Int), rfl, B1, by omega, by omega, fun v H2 v0 v1 k2 B2 => ?_⟩
      obtain ⟨j, rfl⟩ : ∃ j : Nat, v = (j : Int) := ⟨v.toNat, by omega⟩
      have hj : j < zs.length := by omega
      have hat : zs[j]? = some zs[j] := List.getElem?_eq_getElem hj
      have n1b' : p1 ∉ [b] := ni1 n1b.symm
      have n2b' : p2 ∉ [b] := ni1 n2b.symm
      walk_at "go"
      refine z_popAt (k2 _ _ e1 n1b') rfl (by omega) hat ?_
      have e2' := k2 _ _ e2 n2b'
      walk_at "go"
      refine ⟨ys ++ [zs[j]], zs.eraseIdx j, _, rfl, (upd_ne n12).trans upd_same, upd_same, ?_, by simp [hy], ?_, ?_⟩
      · rw [List.append_assoc]
        exact ((eraseIdx_perm zs j _ hat).append_left ys).trans pm
      · exact ((k1.trans k2).own h1).own (un_none h2)
      · exact B2.kp (S := [p1, p2]) ((Kp.mut (by simp)).trans (Kp.mut (by simp))) (ni2 n1b n2b) (ni2 n1l n2l)
    · obtain ⟨ys, zs, o, rfl, e1, e2, pm, hy, k1, B1⟩ := hv
      have hz : zs = [] := by
        have := pm.length_eq
        rw [List.length_append] at this
        have : zs.length = 0 := by omega
        exact List.length_eq_zero_iff.mp this
      subst hz
      rw [List.append_nil] at pm
      walk_at "go"
      exact k p2 ys _ pm k1 B1 (un_none h2) e2 n2b.symm

def sp_l_two (K : PySem.W.Frag) : Sp := fun vs H Q _ => ∃ (b l r : Addr) (xs : List Str), vs = [.ref b, .ref r] ∧ BagAt H b l ∧ SqL K H r (xs.map V.str) ∧ r ≠ b ∧ 2 ≤ xs.length ∧ xs.length < 1000 ∧ ∀ (i j : Nat) (x y : Str) p H', xs[i]? = some x → xs[j]? = some y → i ≠ j → Kp [b] H H' → BagAt H' b l → H p = none → H' p = some (.tup [.str x, .str y]) → Q (.ref p) H'
theorem fa_l_two (T : Tx K mg) : FnA P w K mg base CX0 2 (He.fAd K ("_law_two", none)) 2 [] gPos (sp_l_two K) := by
  obtain ⟨fd, F⟩ := T.D_l_two
  refine FnA.pos F (F.ok (ps := ["_law_bag_here", "_law_names_here"]) sc_l_two (fun vs H Q E h => ?_) (fun cdv A outer s H vs Q E hr h => ?_)) 2 (fun _ _ _ _ _ _ us hl => match us, hl with | [_, _], _ => rfl)
  · obtain ⟨_, _, _, _, rfl, _⟩ := h
    rfl
  · obtain ⟨b, l, r, xs, rfl, hB, hS, hrb, h2, hl, k⟩ := h
    have lm : (xs.map V.str).length = xs.length := List.length_map ..
    refine ⟨_, PSs.nox (pss_cons (ps_set (i := 2) sc_l_two.nd rfl (Or.inl rfl) (pe_f (fa_l_pull T) (hr.mono (by decide)) rfl T.g__law_pull pass0 (pa_cons (pv 0) (pa_cons (pe_callB call_len_seq (by rfl) T.z_len (by decide +kernel) (pa_cons (pv 1) pa_nil)) pa_nil))))
    (pss_one (ps_ret (pe_tup (pa_cons (pe_ix ix_list (pv 1) (pv 2) (fun _ _ => rfl)) (pa_cons (pe_ix ix_list (pv 1) (pe_op op_mod (pe_op op_add (pe_op op_add (pv 2) pe_int) (pe_f (fa_l_pull T) (hr.mono (by decide)) rfl T.g__law_pull pass0 (pa_cons (pv 0) (pa_cons (pe_op op_sub (pe_callB call_len_seq (by rfl) T.z_len (by decide +kernel) (pa_cons (pv 1) pa_nil)) pe_int) pa_nil)))) (pe_callB call_len_seq (by rfl) T.z_len (by decide +kernel) (pa_cons (pv 1) pa_nil))) (fun _ _ => rfl)) pa_nil)))))), ?_⟩
    walk_at "go"
    rw [List.length_map]
    refine ⟨b, l, (xs.length : Int), rfl, hB, by omega, by omega, fun v H' v0 v1 k1 B1 => ?_⟩
    obtain ⟨i, rfl⟩ : ∃ j : Nat, v = (j : Int) := ⟨v.toNat, by omega⟩
    have hi : i < xs.length := by omega
    have hat : (xs.map V.str)[i]? = some (.str xs[i]) := by rw [List.getElem?_map, List.getElem?_eq_getElem hi]; rfl
    have S1 := k1.seqL hS (ni1 hrb)
    walk_at "go"
    refine z_ixL S1 (atI_nat hat) ?_
    walk_at "go"
    rw [List.length_map]
    refine ⟨b, l, (xs.length : Int) - 1, rfl, B1, by omega, by omega, fun v H2 v0 v1 k2 B2 => ?_⟩
    have S2 := k2.seqL S1 (ni1 hrb)
    walk_at "go"
    obtain ⟨j, ej, hj, hij⟩ : ∃ j : Nat, ((i : Int) + 1 + v) % (xs.length : Int) = (j : Int) ∧ j < xs.length ∧ i ≠ j := by
      by_cases c : (i : Int) + 1 + v < (xs.length : Int)
      · refine ⟨((i : Int) + 1 + v).toNat, ?_, by omega, by omega⟩
        rw [Int.emod_eq_of_lt (by omega) c]
        omega
      · refine ⟨((i : Int) + 1 + v - (xs.length : Int)).toNat, ?_, by omega, by omega⟩
        rw [← Int.sub_emod_right, Int.emod_eq_of_lt (by omega) (by omega)]
        omega
    have hat2 : (xs.map V.str)[j]? = some (.str xs[j]) := by rw [List.getElem?_map, List.getElem?_eq_getElem hj]; rfl
    refine z_ixL S2 (atI_get (by rw [lm]; exact ej) hat2) ?_
    walk_at "go"
    intro p hp
    refine k i j _ _ p _ (List.getElem?_eq_getElem hi) (List.getElem?_eq_getElem hj) hij ((k1.trans k2).trans (.new hp)) (B2.kp (S := []) (.new hp) (by simp) (by simp)) ((k1.trans k2).none hp ?_) upd_same
    exact ni1 (B2.ne hp).1.symm

/-! ### names of houses -/
structure GoodName (x : Str) : Prop where
  lo : 1 ≤ x.length
  hi : x.length ≤ 6
  az : ∀ c ∈ x.cps.toList, 97 ≤ c ∧ c ≤ 122
def tailsN : List Str := ["", "", "x", "box", "zzzzz", "a"]
def nameN (m j : Nat) : Str := cutS (⟨#[97 + m]⟩ ++ tailsN.getD j "") none (some 6)
def goodB (x : Str) (m : Nat) : Bool := decide (1 ≤ x.length) && decide (x.length ≤ 6) && (x.cps.toList.all fun c => decide (97 ≤ c) && decide (c ≤ 122)) && decide (x.cps.toList.head? = some (97 + m))
theorem namesN : ((List.range 26).all fun m => (List.range 6).all fun j => goodB (nameN m j) m) = true := by decide +kernel
theorem nameN_ok {m j : Nat} (hm : m < 26) (hj : j < 6) : GoodName (nameN m j) ∧ (nameN m j).cps.toList.head? = some (97 + m) := by
  have h := List.all_eq_true.mp (List.all_eq_true.mp namesN m (List.mem_range.mpr hm)) j (List.mem_range.mpr hj)
  unfold goodB at h
  simp only [Bool.and_eq_true, decide_eq_true_eq, List.all_eq_true] at h
  exact ⟨⟨h.1.1.1, h.1.1.2, fun c hc => h.1.2 c hc⟩, h.2⟩
theorem signs_at : ∀ i, i < 26 → (Str.ofString "abcdefghijklmnopqrstuvwxyz").cps[i]? = some (97 + i) := by decide +kernel
theorem lens_ok : ∀ j, j < 6 → (tailsN.getD j "").length ≤ 5 := by decide +kernel
theorem head_len {x : Str} {m : Nat} (c : Str) (hc : c = ⟨#[m]⟩) : c.length = 1 := by
  subst hc
  rfl
def sp_l_names : Sp := fun vs H Q _ => ∃ (b l : Addr) (n : Nat), vs = [.ref b, .int n] ∧ BagAt H b l ∧ n ≤ 26 ∧ ∀ p (xs : List Str) H', xs.length = n → xs.Nodup → (∀ x ∈ xs, GoodName x) → Kp [b] H H' → BagAt H' b l → H p = none → H' p = some (.lst (xs.map .str)) → p ≠ b → Q (.ref p) H'
theorem fa_l_names (T : Tx K mg) : FnA P w K mg base CX0 2 (He.fAd K ("_law_names", none)) 2 [] gPos sp_l_names := by
  obtain ⟨fd, F⟩ := T.D_l_names
  refine FnA.pos F (F.ok (ps := ["_law_bag_here", "_law_tally"]) sc_l_names (fun vs H Q E h => ?_) (fun cdv A outer s H vs Q E hr h => ?_)) 2 (fun _ _ _ _ _ _ us hl => match us, hl with | [_, _], _ => rfl)
  · obtain ⟨_, _, _, rfl, _⟩ := h
    rfl
  · obtain ⟨b, l, n, rfl, hB, hn, k⟩ := h
    refine ⟨_, PSs.nox (pss_cons (ps_set (i := 2) sc_l_names.nd rfl (Or.inr rfl) (pe_lst (pa_cons pe_str (pa_cons pe_str (pa_cons pe_str (pa_cons pe_str (pa_cons pe_str (pa_cons pe_str pa_nil))))))))
    (pss_cons (ps_set (i := 3) sc_l_names.nd rfl (Or.inr rfl) pe_str)
    (pss_cons (ps_set (i := 4) sc_l_names.nd rfl (Or.inr rfl) (pe_f (fa_l_pull T) (hr.mono (by decide)) rfl T.g__law_pull pass0 (pa_cons (pv 0) (pa_cons pe_int pa_nil))))
    (pss_cons (ps_set (i := 5) sc_l_names.nd rfl (Or.inr rfl) (pe_ix ix_list (pe_lst (pa_cons pe_int (pa_cons pe_int (pa_cons pe_int (pa_cons pe_int (pa_cons pe_int (pa_cons pe_int pa_nil))))))) (pe_f (fa_l_pull T) (hr.mono (by decide)) rfl T.g__law_pull pass0 (pa_cons (pv 0) (pa_cons pe_int pa_nil))) (fun _ _ => rfl)))
    (pss_one (ps_ret (pe_lc (own := [("_law_k", 6)]) (tt := tYes) rfl sc_l_names.nd (pi_range1 rfl T.z_range (pa_cons (pv 1) pa_nil)) (blkOk_by (N := N_l_names) (sc := defScope s_l_names) (by decide +kernel)) (fun _ _ _ _ _ => (pg_name (i := 6) sc_l_names.nd rfl (Or.inl rfl))) (fun _ _ _ _ _ => pts_nil) (fun _ _ _ _ _ => (pe_slice sl_str (pe_op op_addC (pe_item_strC (pv 3) (pe_op op_mod (pe_op op_add (pv 4) (pe_op op_mul (pv 5) (pv 6))) pe_int) (fun _ _ => rfl)) (pe_ix (show IxR _ (rIxL K) from ix_list) (pv 2) (pe_f (fa_l_pull T) (hr.mono (by decide)) rfl T.g__law_pull pass0 (pa_cons (pv 0) (pa_cons pe_int pa_nil))) (fun _ _ => rfl))) po_none (po_some pe_int)))))))))), ?_⟩
    walk_at "go"
    intro p1 h1
    walk_at "go"
    have B0 := hB.kp (S := []) (Kp.new (o := .lst [.str "", .str "", .str "x", .str "box", .str "zzzzz", .str "a"]) h1) (by simp) (by simp)
    refine ⟨b, l, 26, rfl, B0, by omega, by omega, fun v1 H1 v0 v1' k1 B1 => ?_⟩
    have e1 : H1 p1 = _ := k1 _ _ upd_same (ni1 (hB.ne h1).1.symm)
    walk_at "go"
    intro p2 h2
    walk_at "go"
    have B1' := B1.kp (S := []) (Kp.new (o := .lst [.int 1, .int 3, .int 5, .int 7, .int 9, .int 11]) h2) (by simp) (by simp)
    refine ⟨b, l, 6, rfl, B1', by omega, by omega, fun v2 H2 v20 v2' k2 B2 => ?_⟩
    have e2 : H2 p2 = _ := k2 _ _ upd_same (ni1 (B1.ne h2).1.symm)
    have n12 : p1 ≠ p2 := ne_of_none e1 h2
    have e1' : H2 p1 = _ := k2 _ _ ((upd_ne n12).trans e1) (ni1 (hB.ne h1).1.symm)
    obtain ⟨i1, rfl⟩ : ∃ j : Nat, v1 = (j : Int) := ⟨v1.toNat, by omega⟩
    obtain ⟨st, hst, hq⟩ : ∃ st : Nat, atI ([.int 1, .int 3, .int 5, .int 7, .int 9, .int 11] : List V) v2 = some (.int st) ∧ st ∈ [1, 3, 5, 7, 9, 11] := by
      have : v2 = 0 ∨ v2 = 1 ∨ v2 = 2 ∨ v2 = 3 ∨ v2 = 4 ∨ v2 = 5 := by omega
      rcases this with rfl | rfl | rfl | rfl | rfl | rfl
      · exact ⟨1, rfl, by decide⟩
      · exact ⟨3, rfl, by decide⟩
      · exact ⟨5, rfl, by decide⟩
      · exact ⟨7, rfl, by decide⟩
      · exact ⟨9, rfl, by decide⟩
      · exact ⟨11, rfl, by decide⟩
    refine z_ixL (.of e2) hst ?_
    walk_at "go"
    refine ⟨by omega, by omega, ?_⟩
    have kk : Kp [b] H H2 := ((Kp.new h1).trans k1).trans ((Kp.new h2).trans k2)
    have nb2 : ∀ p, H2 p = none → H p = none := fun p hp => kk.none hp (ni1 (B2.ne hp).1.symm)
    refine lcR fun Dx hD => ⟨fun i H' => ∃ xs : List Str, H' Dx = some (.lst (xs.map V.str)) ∧ Kp [b] H2 H' ∧ BagAt H' b l ∧ xs.length = i ∧ ∀ j x, xs[j]? = some x → GoodName x ∧ x.cps.toList.head? = some (97 + (i1 + st * j) % 26), ?_, fun i H' hi hv => ?_, fun H' hv => ?_⟩
    · exact ⟨[], upd_same, .new hD, B2.kp (S := []) (.new hD) (by simp) (by simp), rfl, fun j x e => by simp at e⟩
    · obtain ⟨xs, h3, h4, h5, h6, h7⟩ := hv
      walk_at "go"
      have hst2 : st ≤ 11 := by
        simp only [List.mem_cons, List.not_mem_nil, or_false] at hq
        omega
      refine z_ixC (j := (i1 + st * i) % 26) ?_ (by decide) (signs_at _ (Nat.mod_lt _ (by decide))) ?_
      · rw [Int.zero_add]
        push_cast
        rfl
      walk_at "go"
      refine ⟨b, l, 6, rfl, h5, by omega, by omega, fun v3 H4 v30 v3' k3 B3 => ?_⟩
      obtain ⟨j3, rfl⟩ : ∃ j : Nat, v3 = (j : Int) := ⟨v3.toNat, by omega⟩
      have hj3 : j3 < 6 := by omega
      have e1'' := (k3 _ _ (h4 _ _ e1' (ni1 (hB.ne h1).1.symm)) (ni1 (hB.ne h1).1.symm))
      have e3 := k3 _ _ h3 (ni1 (B2.ne hD).1.symm)
      have hat : ([.str "", .str "", .str "x", .str "box", .str "zzzzz", .str "a"] : List V)[j3]? = some (.str (tailsN.getD j3 "")) := by
        have : j3 = 0 ∨ j3 = 1 ∨ j3 = 2 ∨ j3 = 3 ∨ j3 = 4 ∨ j3 = 5 := by omega
        rcases this with rfl | rfl | rfl | rfl | rfl | rfl <;> rfl
      refine z_ixL (.of e1'') (atI_nat hat) ?_
      have ln := lens_ok j3 hj3
      refine z_addC ?_ ?_
      · rw [sizeLine_eq]
        have : (⟨#[97 + (i1 + st * i) % 26]⟩ : Str).length = 1 := rfl
        omega
      walk_at "go"
      refine z_slS ?_ ?_
      · rw [Str.length_append, sizeLine_eq]
        have : (⟨#[97 + (i1 + st * i) % 26]⟩ : Str).length = 1 := rfl
        omega
      refine ⟨_, e3, ?_, ?_⟩
      · rw [List.length_map, sizeLine_eq]
        omega
      obtain ⟨g1, g2⟩ := nameN_ok (m := (i1 + st * i) % 26) (Nat.mod_lt _ (by decide)) hj3
      refine ⟨xs ++ [nameN ((i1 + st * i) % 26) j3], ?_, ?_, ?_, ?_, ?_⟩
      · rw [upd_same, List.map_append]
        rfl
      · exact ((h4.trans k3).own hD)
      · exact B3.kp (S := [Dx]) (.mut (by simp)) (ni1 (B2.ne hD).1) (ni1 (B2.ne hD).2)
      · rw [List.length_append, h6]
        rfl
      · intro j x hx
        rcases Nat.lt_or_ge j xs.length with c | c
        · rw [List.getElem?_append_left c] at hx
          exact h7 j x hx
        · rw [List.getElem?_append_right c] at hx
          have : j = i := by
            have := (List.getElem?_eq_some_iff.mp hx).1
            simp only [List.length_cons, List.length_nil] at this
            omega
          subst this
          rw [h6, Nat.sub_self] at hx
          rw [← Option.some.inj hx]
          exact ⟨g1, g2⟩
    · obtain ⟨xs, h3, h4, h5, h6, h7⟩ := hv
      walk_at "go"
      refine k Dx xs H' h6 ?_ ?_ (kk.trans h4) h5 (nb2 _ hD) h3 (B2.ne hD).1.symm
      · refine List.pairwise_iff_getElem.mpr fun i j hi hj hij e => ?_
        have a1 := (h7 i _ (List.getElem?_eq_getElem hi)).2
        have a2 := (h7 j _ (List.getElem?_eq_getElem hj)).2
        rw [e] at a1
        have a3 := Option.some.inj (a1.symm.trans a2)
        simp only [List.mem_cons, List.not_mem_nil, or_false] at hq
        have hj26 : j < 26 := by omega
        rcases hq with rfl | rfl | rfl | rfl | rfl | rfl <;> omega
      · intro x hx
        obtain ⟨j, hj⟩ := List.mem_iff_getElem?.mp hx
        exact (h7 j x hj).1

/-! ### the world: houses by name, roads with marks -/
structure GoodRoads (xs : List Str) (n m : Nat) (rs : List Road) : Prop where
  len : rs.length = n
  inc : (rs.map Road.mark).Pairwise (· < ·)
  top : ∀ r ∈ rs, r.mark ≤ m
  ok : ∀ r ∈ rs, 1 ≤ r.mark ∧ r.one ∈ xs ∧ r.other ∈ xs ∧ r.one ≠ r.other ∧ 1 ≤ r.lag ∧ r.lag ≤ 4
def RoadAt (H : Hp) (r : Road) (v : V) : Prop := ∃ a, v = .ref a ∧ H a = some (.tup [.int r.mark, .str r.one, .str r.other, .int r.lag])
theorem paired_imp {α β : Type} {F G : α → β → Prop} (h : ∀ a b, F a b → G a b) : ∀ {xs : List α} {ys : List β}, Paired F xs ys → Paired G xs ys
  | _, _, .nil => .nil
  | _, _, .cons r t => .cons (h _ _ r) (paired_imp h t)
theorem RoadAt.kp {H H' : Hp} (k : KpT H H') {r : Road} {v : V} (h : RoadAt H r v) : RoadAt H' r v := by
  obtain ⟨a, e, h⟩ := h
  exact ⟨a, e, k _ _ h⟩
theorem roads_kp {H H' : Hp} (k : KpT H H') {rs : List Road} {vs : List V} (h : Paired (RoadAt H) rs vs) : Paired (RoadAt H') rs vs := paired_imp (fun _ _ => RoadAt.kp k) h
theorem BagAt.kpt {H H' : Hp} {b l : Addr} (B : BagAt H b l) (k : Kp [b] H H') : KpT H H' := by
  obtain ⟨ns, i, r, s, h1, h2, h3, h4⟩ := B
  exact .of1 k h1 fun xs e => by cases e
/-- the world w0 (a pair): names list at p, roads list at q -/
def sp_l_world : Sp := fun vs H Q _ => ∃ (b l : Addr) (u m : Nat) (g : Bool), vs = [.ref b, .int u, .int m, .bl g] ∧ BagAt H b l ∧ 2 ≤ u ∧ u ≤ 12 ∧ m ≤ 30 ∧ g = false ∧
  ∀ p q c (xs : List Str) (rs : List Road) (vs : List V) H', 2 ≤ xs.length → xs.length ≤ u → xs.Nodup → (∀ x ∈ xs, GoodName x) → (∃ n, n ≤ m ∧ GoodRoads xs n (3 * n) rs) → Kp [b] H H' → BagAt H' b l →
    H' p = some (.lst (xs.map .str)) → H' q = some (.lst vs) → Paired (RoadAt H') rs vs → H' c = some (.tup [.ref p, .ref q]) → H p = none → H q = none → H c = none → Q (.ref c) H'
theorem fa_l_world (T : Tx K mg) : FnA P w K mg base CX0 3 (He.fAd K ("_law_world", none)) 4 [] gPos sp_l_world := by
  obtain ⟨fd, F⟩ := T.D_l_world
  refine FnA.pos F (F.ok (ps := ["_law_bag_here", "_law_upto", "_law_lines", "_law_ringless"]) sc_l_world (fun vs H Q E h => ?_) (fun cdv A outer s H vs Q E hr h => ?_)) 4 (fun _ _ _ _ _ _ us hl => match us, hl with | [_, _, _, _], _ => rfl)
  · obtain ⟨_, _, _, _, _, rfl, _⟩ := h
    rfl
  · obtain ⟨b, l, u, m, g, rfl, hB, hu, hu2, hm, hg, k⟩ := h
    subst hg
    refine ⟨_, PSs.nox (pss_cons (ps_set (i := 4) sc_l_world.nd rfl (Or.inl rfl) (pe_f (fa_l_names T) (hr.mono (by decide)) rfl T.g__law_names pass0 (pa_cons (pv 0) (pa_cons (pe_op op_add pe_int (pe_f (fa_l_pull T) (hr.mono (by decide)) rfl T.g__law_pull pass0 (pa_cons (pv 0) (pa_cons (pe_op op_sub (pv 1) pe_int) pa_nil)))) pa_nil))))
    (pss_cons (ps_set (i := 5) sc_l_world.nd rfl (Or.inl rfl) pe_int)
    (pss_cons (ps_set (i := 6) sc_l_world.nd rfl (Or.inl rfl) (pe_lst pa_nil))
    (pss_cons (ps_for PassesOwn.never rfl (pi_range1 rfl T.z_range (pa_cons (pe_f (fa_l_pull T) (hr.mono (by decide)) rfl T.g__law_pull pass0 (pa_cons (pv 0) (pa_cons (pe_op op_add (pv 2) pe_int) pa_nil))) pa_nil)) (pg_name (i := 7) sc_l_world.nd rfl (Or.inl rfl))
    (pss_cons (ps_set (i := 8) sc_l_world.nd rfl (Or.inl rfl) (pe_f (fa_l_pull T) (hr.mono (by decide)) rfl T.g__law_pull pass0 (pa_cons (pv 0) (pa_cons (pe_callB call_len_seq (by rfl) T.z_len (by decide +kernel) (pa_cons (pv 4) pa_nil)) pa_nil))))
    (pss_cons (ps_set (i := 9) sc_l_world.nd rfl (Or.inl rfl) (pe_op op_mod (pe_op op_add (pe_op op_add (pv 8) pe_int) (pe_f (fa_l_pull T) (hr.mono (by decide)) rfl T.g__law_pull pass0 (pa_cons (pv 0) (pa_cons (pe_op op_sub (pe_callB call_len_seq (by rfl) T.z_len (by decide +kernel) (pa_cons (pv 4) pa_nil)) pe_int) pa_nil)))) (pe_callB call_len_seq (by rfl) T.z_len (by decide +kernel) (pa_cons (pv 4) pa_nil))))
    (pss_cons (ps_if (pt_val (pv 3)) (pss_one (ps_par (i := 8) (j := 9) rfl sc_l_world.nd rfl rfl (by decide) rfl rfl (pa_cons (pe_callB (call_min2 rfl) (by rfl) T.z_min (by decide +kernel) (pa_cons (pv 8) (pa_cons (pv 9) pa_nil))) (pa_cons (pe_callB (call_max2 rfl) (by rfl) T.z_max (by decide +kernel) (pa_cons (pv 8) (pa_cons (pv 9) pa_nil))) pa_nil)) rfl)) pss_nil)
    (pss_cons (ps_set (i := 5) sc_l_world.nd rfl (Or.inl rfl) (pe_op op_add (pv 5) (pe_ix ix_list (pe_lst (pa_cons pe_int (pa_cons pe_int (pa_cons pe_int (pa_cons pe_int (pa_cons pe_int pa_nil)))))) (pe_f (fa_l_pull T) (hr.mono (by decide)) rfl T.g__law_pull pass0 (pa_cons (pv 0) (pa_cons pe_int pa_nil))) (fun _ _ => rfl))))
    (pss_one (ps_expr (pe_bm PySem.F.plainAttrs_list PySem.F.slot_list_append PySem.F.type_list_append mt_append (pv 6) (pa_cons (pe_tup (pa_cons (pv 5) (pa_cons (pe_ix ix_list (pv 4) (pv 8) (fun _ _ => rfl)) (pa_cons (pe_ix ix_list (pv 4) (pv 9) (fun _ _ => rfl)) (pa_cons (pe_op op_add pe_int (pe_f (fa_l_pull T) (hr.mono (by decide)) rfl T.g__law_pull pass0 (pa_cons (pv 0) (pa_cons pe_int pa_nil)))) pa_nil))))) pa_nil)))))))))
    (pss_one (ps_ret (pe_tup (pa_cons (pv 4) (pa_cons (pv 6) pa_nil))))))))), ?_⟩
    walk_at "go"
    refine ⟨b, l, (u : Int) - 1, rfl, hB, by omega, by omega, fun v1 H1 v10 v1' k1 B1 => ?_⟩
    obtain ⟨i1, rfl⟩ : ∃ j : Nat, v1 = (j : Int) := ⟨v1.toNat, by omega⟩
    walk_at "go"
    refine ⟨b, l, 2 + i1, (by push_cast; rfl), B1, by omega, fun p xs H2 hx hn hg k2 B2 hp ep npb => ?_⟩
    have lm : (xs.map V.str).length = xs.length := List.length_map ..
    walk_at "go"
    intro q hq
    walk_at "go"
    have nbq := B2.ne hq
    have npq : p ≠ q := ne_of_none ep hq
    refine ⟨b, l, (m : Int) + 1, rfl, B2.kp (S := []) (.new hq) (by simp) (by simp), by omega, by omega, fun v3 H3 v30 v3' k3 B3 => ?_⟩
    obtain ⟨n3, rfl⟩ : ∃ j : Nat, v3 = (j : Int) := ⟨v3.toNat, by omega⟩
    walk_at "go"
    refine ⟨by omega, by omega, ?_⟩
    have hxl : xs.length ≤ 12 := by omega
    have ep3 := k3 _ _ (look_new (z := .lst []) hq ep) (ni1 npb)
    have eq3 := k3 q (.lst []) upd_same (ni1 nbq.1.symm)
    refine loopR (fun i σ H' => ∃ (mk : Nat) (rs : List Road) (vs : List V) (o7 o8 o9 : Option V), σ = [some (.ref b), some (.int u), some (.int m), some (.bl false), some (.ref p), some (.int mk), some (.ref q), o7, o8, o9] ∧
      H' q = some (.lst vs) ∧ Paired (RoadAt H') rs vs ∧ GoodRoads xs i mk rs ∧ mk ≤ 3 * i ∧ Kp [b, q] H3 H' ∧ Kp [b] H2 H' ∧ BagAt H' b l) ?_ (fun i σ H' hi hv => ?_) (fun σ H' hv => ?_)
    · exact ⟨0, [], [], _, _, _, rfl, eq3, .nil, ⟨rfl, by simp, fun r z => by (cases z), fun r z => by (cases z)⟩, by omega, .refl, (Kp.new hq).trans k3, B3⟩
    · obtain ⟨mk, rs, vs, o7, o8, o9, rfl, e1, pr, gr, hmk, k4, k5, B4⟩ := hv
      have ep4 := k4 _ _ ep3 (ni2 npb npq)
      have hi' : i < n3 := by omega
      walk_at "go"
      refine ⟨b, l, (xs.length : Int), (by rw [lm]), B4, by omega, by omega, fun v5 H5 v50 v5' k5' B5 => ?_⟩
      obtain ⟨i5, rfl⟩ : ∃ j : Nat, v5 = (j : Int) := ⟨v5.toNat, by omega⟩
      have ep5 := k5' _ _ ep4 (ni1 npb)
      walk_at "go"
      refine ⟨b, l, (xs.length : Int) - 1, (by rw [lm]), B5, by omega, by omega, fun v6 H6 v60 v6' k6 B6 => ?_⟩
      have ep6 := k6 _ _ ep5 (ni1 npb)
      obtain ⟨j6, ej, hj6, hij⟩ := other_ix (n := xs.length) (i := i5) (by omega) v60 v6'
      walk_at "go"
      rw [lm, ej]
      walk_at "go"
      intro p7 h7
      walk_at "go"
      have n7 := B6.ne h7
      refine ⟨b, l, 5, rfl, B6.kp (S := []) (.new h7) (by simp) (by simp), by omega, by omega, fun v8 H8 v80 v8' k8 B8 => ?_⟩
      have ep8 := k8 _ _ (look_new (z := .lst [.int 1, .int 1, .int 1, .int 2, .int 3]) h7 ep6) (ni1 npb)
      have e7 := k8 p7 (.lst [.int 1, .int 1, .int 1, .int 2, .int 3]) upd_same (ni1 n7.1.symm)
      obtain ⟨d, hd, hd1, hd3⟩ : ∃ d : Nat, atI ([.int 1, .int 1, .int 1, .int 2, .int 3] : List V) v8 = some (.int d) ∧ 1 ≤ d ∧ d ≤ 3 := by
        have : v8 = 0 ∨ v8 = 1 ∨ v8 = 2 ∨ v8 = 3 ∨ v8 = 4 := by omega
        rcases this with rfl | rfl | rfl | rfl | rfl
        · exact ⟨1, rfl, by decide, by decide⟩
        · exact ⟨1, rfl, by decide, by decide⟩
        · exact ⟨1, rfl, by decide, by decide⟩
        · exact ⟨2, rfl, by decide, by decide⟩
        · exact ⟨3, rfl, by decide, by decide⟩
      refine z_ixL (.of e7) hd ?_
      walk_at "go"
      have hat1 : (xs.map V.str)[i5]? = some (.str xs[i5]) := by rw [List.getElem?_map, List.getElem?_eq_getElem (by omega)]; rfl
      have hat2 : (xs.map V.str)[j6]? = some (.str xs[j6]) := by rw [List.getElem?_map, List.getElem?_eq_getElem (by omega)]; rfl
      have kc : Kp [b] H' H8 := k5'.trans (k6.trans ((Kp.new h7).trans k8))
      have eq8 := kc _ _ e1 (ni1 nbq.1.symm)
      walk_at "go"
      refine z_ixL (.of ep8) (atI_nat hat1) ?_
      walk_at "go"
      refine z_ixL (.of ep8) (atI_nat hat2) ?_
      walk_at "go"
      refine ⟨b, l, 4, rfl, B8, by omega, by omega, fun v9 H9 v90 v9' k9 B9 => ?_⟩
      obtain ⟨g9, rfl⟩ : ∃ j : Nat, v9 = (j : Int) := ⟨v9.toNat, by omega⟩
      have eq9 := k9 _ _ eq8 (ni1 nbq.1.symm)
      have kd := kc.trans k9
      have kt : KpT H' H9 := B4.kpt kd
      have hvl : vs.length = i := by rw [← pr.length, gr.len]
      walk_at "go"
      intro c hc
      have eqc := look_new (z := .tup [.int ((mk : Int) + d), .str xs[i5], .str xs[j6], .int (1 + (g9 : Int))]) hc eq9
      have nbc := B9.ne hc
      refine z_nil (z_append eqc ?_ ?_)
      · rw [sizeLine_eq]
        omega
      have ecq : c ≠ q := (ne_of_none eq9 hc).symm
      refine ⟨mk + d, rs ++ [⟨mk + d, xs[i5], xs[j6], 1 + g9⟩], vs ++ [.ref c], _, _, _, rfl, upd_same, ?_, ?_, by omega, ?_, ?_, ?_⟩
      · refine paired_snoc ⟨c, rfl, ?_⟩ (roads_kp ((kt.trans (.new hc)).trans (.lst eqc)) pr)
        rw [upd_ne ecq, upd_same]
        push_cast
        rfl
      · refine ⟨by rw [List.length_append, gr.len]; rfl, ?_, ?_, ?_⟩
        · rw [List.map_append, List.pairwise_append]
          refine ⟨gr.inc, by simp, fun a ha z hz => ?_⟩
          obtain ⟨r, hr1, rfl⟩ := List.mem_map.mp ha
          have := gr.top r hr1
          simp only [List.map_cons, List.map_nil, List.mem_cons, List.not_mem_nil, or_false] at hz
          omega
        · intro r hr1
          rcases List.mem_append.mp hr1 with h | h
          · have := gr.top r h
            omega
          · simp only [List.mem_cons, List.not_mem_nil, or_false] at h
            subst h
            exact Nat.le_refl _
        · intro r hr1
          rcases List.mem_append.mp hr1 with h | h
          · exact gr.ok r h
          · simp only [List.mem_cons, List.not_mem_nil, or_false] at h
            subst h
            refine ⟨by show 1 ≤ mk + d; omega, List.getElem_mem _, List.getElem_mem _, ?_, by show 1 ≤ 1 + g9; omega, by show 1 + g9 ≤ 4; omega⟩
            intro z
            exact hij ((List.getElem_inj hn).mp z)
      · exact ((k4.trans (kd.mono (by simp))).trans (.new hc)).trans (.mut (by simp))
      · exact ((k5.trans kd).trans (.new hc)).own hq
      · exact B9.kp (S := [c, q]) ((Kp.new hc).trans (.mut (by simp))) (ni2 nbc.1 nbq.1) (ni2 nbc.2 nbq.2)
    · obtain ⟨mk, rs, vs, o7, o8, o9, rfl, e1, pr, gr, hmk, k4, k5, B4⟩ := hv
      walk_at "go"
      intro c hc
      have kk : Kp [b] H H' := (k1.trans k2).trans k5
      have B5 := B4.kp (S := []) (Kp.new (o := .tup [.ref p, .ref q]) hc) (by simp) (by simp)
      refine k p q c xs rs vs _ (by omega) (by omega) hn hg ⟨n3, by omega, gr.len, gr.inc, fun r z => Nat.le_trans (gr.top r z) hmk, gr.ok⟩ (kk.trans (.new hc)) B5 (look_new hc (k4 _ _ ep3 (ni2 npb npq))) (look_new hc e1) (roads_kp (.new hc) pr) upd_same (k1.none hp (ni1 npb)) ((k1.trans k2).none hq (ni1 nbq.1.symm)) (kk.none hc (ni1 (B4.ne hc).1.symm))

theorem sign_in : ((List.range 26).all fun m => !(Builtin.Str.occurrences (Str.ofString "abcdefghijklmnopqrstuvwxyz") ⟨#[97 + m]⟩ 0 (Str.ofString "abcdefghijklmnopqrstuvwxyz").length 1).isEmpty) = true := by decide +kernel
theorem sign_at {c : Nat} (h : 97 ≤ c ∧ c ≤ 122) : (!(Builtin.Str.occurrences (Str.ofString "abcdefghijklmnopqrstuvwxyz") ⟨#[c]⟩ 0 (Str.ofString "abcdefghijklmnopqrstuvwxyz").length 1).isEmpty) = true := by
  have e := List.all_eq_true.mp sign_in (c - 97) (List.mem_range.mpr (by omega))
  rwa [show 97 + (c - 97) = c by omega] at e
def sp_need_name : Sp := fun vs H Q _ => ∃ x, vs = [.str x] ∧ GoodName x ∧ ∀ H', Kp [] H H' → Q .non H'
theorem fa_need_name (T : Tx K mg) : FnA P w K mg base CX0 1 (He.fAd K ("need_name", none)) 1 [] gPos sp_need_name := by
  obtain ⟨fd, F⟩ := T.D_need_name
  have cl_Net := T.cl_Net
  have n_Net_named := T.n_Net_named
  have n_Net_roads := T.n_Net_roads
  refine FnA.pos F (F.ok (ps := ["name"]) sc_need_name (fun vs H Q E h => ?_) (fun cdv A outer s H vs Q E hr h => ?_)) 1 (fun _ _ _ _ _ _ us hl => match us, hl with | [_], _ => rfl)
  · obtain ⟨_, rfl, _⟩ := h
    rfl
  · obtain ⟨x, rfl, hx, k⟩ := h
    refine ⟨_, PSs.nox (pss_one (ps_if (PW.pt (pw_or (pt_not (pt_chain op_le op_le pe_int (pe_callB call_len_str (by rfl) T.z_len (by decide +kernel) (pa_cons (pv 0) pa_nil)) (pe_glob (v := .int 6) rfl T.c_LONGEST.choose_spec ⟨_, rfl⟩))) (pw_or1 (pt_not (pt_val (pe_callB (cr_all rfl) (by rfl) T.z_all (by decide +kernel) (pa_cons (pe_lc (own := [("sign", 1)]) (tt := tYes) rfl sc_need_name.nd (pi_str (pv 0)) (blkOk_by (N := N_need_name) (sc := defScope s_need_name) (by decide +kernel)) (fun _ _ _ _ _ => (pg_name (i := 1) sc_need_name.nd rfl (Or.inl rfl))) (fun _ _ _ _ _ => pts_nil) (fun _ _ _ _ _ => (pe_cmpR op_inC (pv 1) (pe_glob (v := .str "abcdefghijklmnopqrstuvwxyz") rfl T.c_LETTERS.choose_spec ⟨_, rfl⟩) rfl))) pa_nil))))))) (pss_one ps_never) pss_nil)), ?_⟩
    have h1 := hx.lo
    have h2 := hx.hi
    walk_at "go"
    refine ⟨by rw [sizeLine_eq]; omega, ?_⟩
    walk_at "go"
    refine i_dec (fun _ => ?_) (fun c => absurd c (by omega))
    walk_at "go"
    refine i_ndec (fun c => absurd (by omega) c) (fun _ => ?_)
    walk_at "go"
    refine lcS fun Dx hD => ⟨fun i H' => i ≤ x.cps.size ∧ H' Dx = some (.lst ((List.replicate i true).map V.bl)) ∧ Kp [] H H', ⟨Nat.zero_le _, upd_same, .new hD⟩, fun i c H' hi hv => ?_, fun H' hv => ?_⟩
    · obtain ⟨hi', hd, kk⟩ := hv
      walk_at "go"
      refine z_inC ?_
      have hlt : i < x.cps.size := (Array.getElem?_eq_some_iff.mp hi).1
      have hc : 97 ≤ c ∧ c ≤ 122 := hx.az c (by
        have := (Array.getElem?_eq_some_iff.mp hi).2
        rw [← this]
        exact Array.mem_toList_iff.mpr (Array.getElem_mem _))
      rw [if_neg (by decide), sign_at hc]
      refine ⟨_, hd, ?_, hlt, ?_, kk.own hD⟩
      · have : x.cps.size = x.length := rfl
        rw [List.length_map, List.length_replicate, sizeLine_eq]
        omega
      · rw [upd_same, List.replicate_succ', List.map_append]
        rfl
    · obtain ⟨_, hd, kk⟩ := hv
      walk_at "go"
      refine ⟨Dx, _, rfl, .of hd, ?_⟩
      walk_at "go"
      have e : (List.replicate x.cps.size true).all id = true := List.all_eq_true.mpr fun b hb => (List.mem_replicate.mp hb).2
      rw [e]
      walk_at "go"
      exact k _ kk

/-! ### the net -/
/-- the net at n: its dicts at d1, d2 -/
def NetAt (K : PySem.W.Frag) (H : Hp) (n d1 d2 : Addr) (xs : List Str) (kvs : List (Key × V)) : Prop :=
  ∃ dx, H n = some (.ins (He.ga K "Net") dx [("named", .ref d1), ("roads", .ref d2)]) ∧ H d1 = some (.dK (xs.map fun x => (.inr x, .bl true))) ∧ H d2 = some (.dK kvs) ∧ d1 ≠ d2
def sp_Net_init (K : PySem.W.Frag) : Sp := fun vs H Q _ => ∃ n dx, vs = [.ref n] ∧ H n = some (.ins (He.ga K "Net") dx []) ∧ ∀ H' d1 d2, NetAt K H' n d1 d2 [] [] → H d1 = none → H d2 = none → Kp [n] H H' → Q .non H'
theorem fa_Net_init (T : Tx K mg) : FnA P w K mg base CX0 1 (He.fAd K ("Net", some "__init__")) 1 [] gPos (sp_Net_init K) := by
  obtain ⟨fd, F⟩ := T.D_Net_init
  have cl_Net := T.cl_Net
  have n_Net_named := T.n_Net_named
  have n_Net_roads := T.n_Net_roads
  refine FnA.pos F (F.ok (ps := ["self"]) sc_Net_init (fun vs H Q E h => ?_) (fun cdv A outer s H vs Q E hr h => ?_)) 1 (fun _ _ _ _ _ _ us hl => match us, hl with | [_], _ => rfl)
  · obtain ⟨_, _, rfl, _⟩ := h
    rfl
  · obtain ⟨n, dx, rfl, hn, k⟩ := h
    refine ⟨_, PSs.nox (pss_cons (ps_fld (pv 0) pe_dnewK rfl)
    (pss_one (ps_fld (pv 0) pe_dnewK rfl))), ?_⟩
    walk_at "go"
    intro d1 h1
    walk_at "go"
    intro d2 h2
    walk_at "go"
    have n1 := ne_of_none hn h1
    have h2' := un_none (un_none h2)
    have n2 := ne_of_none hn h2'
    have n12 : d1 ≠ d2 := ne_of_none (H := upd H d1 (.dK [])) upd_same (un_none h2)
    refine k _ d1 d2 ⟨dx, upd_same, ?_, ?_, n12⟩ h1 h2' ?_
    · rw [upd_ne n1.symm, upd_ne n12, upd_ne n1.symm, upd_same]
      rfl
    · rw [upd_ne n2.symm, upd_same]
    · exact (((Kp.new h1).trans (.mut (by simp))).own h2').trans (.mut (by simp))

theorem NetAt.kp {S : List Addr} {K : PySem.W.Frag} {H H' : Hp} {n d1 d2 : Addr} {xs : List Str} {kvs : List (Key × V)} (N : NetAt K H n d1 d2 xs kvs) (k : Kp S H H') (a : n ∉ S) (b : d1 ∉ S) (c : d2 ∉ S) : NetAt K H' n d1 d2 xs kvs := by
  obtain ⟨dx, h1, h2, h3, h4⟩ := N
  exact ⟨dx, k _ _ h1 a, k _ _ h2 b, k _ _ h3 c, h4⟩
theorem val_named {xs : List Str} {x : Str} : (valV (xs.map fun x => ((.inr x : Key), V.bl true)) (.inr x)).isSome = decide (x ∈ xs) := by
  induction xs with
  | nil => rfl
  | cons y r ih =>
    rw [List.map_cons]
    by_cases e : y = x
    · rw [valV_pos (by rw [e]), e]
      simp
    · rw [valV_neg (fun z => e (Sum.inr.inj z)), ih]
      simp [Ne.symm e]
def sp_Net_need_house (K : PySem.W.Frag) : Sp := fun vs H Q _ => ∃ n d1 d2 xs kvs x, vs = [.ref n, .str x] ∧ NetAt K H n d1 d2 xs kvs ∧ x ∈ xs ∧ Q .non H
theorem fa_Net_need_house (T : Tx K mg) : FnA P w K mg base CX0 1 (He.fAd K ("Net", some "need_house")) 2 [] gPos (sp_Net_need_house K) := by
  obtain ⟨fd, F⟩ := T.D_Net_need_house
  have cl_Net := T.cl_Net
  have n_Net_named := T.n_Net_named
  have n_Net_roads := T.n_Net_roads
  refine FnA.pos F (F.ok (ps := ["self", "name"]) sc_Net_need_house (fun vs H Q E h => ?_) (fun cdv A outer s H vs Q E hr h => ?_)) 2 (fun _ _ _ _ _ _ us hl => match us, hl with | [_, _], _ => rfl)
  · obtain ⟨_, _, _, _, _, _, rfl, _⟩ := h
    rfl
  · obtain ⟨n, d1, d2, xs, kvs, x, rfl, ⟨dx, hn, h1, h2, h12⟩, hx, k⟩ := h
    refine ⟨_, PSs.nox (pss_one (ps_if (pt_cmp (pc_dnotin (hu_of hr) (pv 1) (pe_fld (pv 0) rfl)) rfl) (pss_one ps_never) pss_nil)), ?_⟩
    walk_at "go"
    refine z_dninq (DGet.k (k := .inr x) h1) ?_
    rw [val_named, decide_eq_true hx]
    walk_at "go"
    exact k
def sp_Net_need_line (K : PySem.W.Frag) : Sp := fun vs H Q _ => ∃ n d1 d2 xs kvs m, vs = [.ref n, .int m] ∧ NetAt K H n d1 d2 xs kvs ∧ (valV kvs (.inl m)).isSome = true ∧ Q .non H
theorem fa_Net_need_line (T : Tx K mg) : FnA P w K mg base CX0 1 (He.fAd K ("Net", some "need_line")) 2 [] gPos (sp_Net_need_line K) := by
  obtain ⟨fd, F⟩ := T.D_Net_need_line
  have cl_Net := T.cl_Net
  have n_Net_named := T.n_Net_named
  have n_Net_roads := T.n_Net_roads
  refine FnA.pos F (F.ok (ps := ["self", "number"]) sc_Net_need_line (fun vs H Q E h => ?_) (fun cdv A outer s H vs Q E hr h => ?_)) 2 (fun _ _ _ _ _ _ us hl => match us, hl with | [_, _], _ => rfl)
  · obtain ⟨_, _, _, _, _, _, rfl, _⟩ := h
    rfl
  · obtain ⟨n, d1, d2, xs, kvs, m, rfl, ⟨dx, hn, h1, h2, h12⟩, hm, k⟩ := h
    refine ⟨_, PSs.nox (pss_one (ps_if (pt_cmp (pc_dnotin (hu_of hr) (pv 1) (pe_fld (pv 0) rfl)) rfl) (pss_one ps_never) pss_nil)), ?_⟩
    walk_at "go"
    refine z_dninq (DGet.k (k := .inl m) h2) ?_
    rw [hm]
    walk_at "go"
    exact k

def sp_Net_house (K : PySem.W.Frag) : Sp := fun vs H Q _ => ∃ n d1 d2 xs kvs x, vs = [.ref n, .str x] ∧ NetAt K H n d1 d2 xs kvs ∧ x ∉ xs ∧ xs.length < 12 ∧ GoodName x ∧ ∀ H', NetAt K H' n d1 d2 (xs ++ [x]) kvs → Kp [d1] H H' → Q .non H'
theorem fa_Net_house (T : Tx K mg) : FnA P w K mg base CX0 2 (He.fAd K ("Net", some "house")) 2 [] gPos (sp_Net_house K) := by
  obtain ⟨fd, F⟩ := T.D_Net_house
  have cl_Net := T.cl_Net
  have n_Net_named := T.n_Net_named
  have n_Net_roads := T.n_Net_roads
  refine FnA.pos F (F.ok (ps := ["self", "name"]) sc_Net_house (fun vs H Q E h => ?_) (fun cdv A outer s H vs Q E hr h => ?_)) 2 (fun _ _ _ _ _ _ us hl => match us, hl with | [_, _], _ => rfl)
  · obtain ⟨_, _, _, _, _, _, rfl, _⟩ := h
    rfl
  · obtain ⟨n, d1, d2, xs, kvs, x, rfl, N, hx, hl, hg, k⟩ := h
    refine ⟨_, PSs.nox (pss_cons (ps_expr (pe_f (fa_need_name T) (hr.mono (by decide)) rfl T.g_need_name pass0 (pa_cons (pv 1) pa_nil)))
    (pss_cons (ps_if (pt_cmp (pc_din (hu_of hr) (pv 1) (pe_fld (pv 0) rfl)) rfl) (pss_one ps_never) pss_nil)
    (pss_cons (ps_if (pt_cmpR op_ge (pe_callB call_lenD (by rfl) T.z_len (by decide +kernel) (pa_cons (pe_fld (pv 0) rfl) pa_nil)) (pe_glob (v := .int 12) rfl T.c_MOST_HOUSES.choose_spec ⟨_, rfl⟩) (nomark _)) (pss_one ps_never) pss_nil)
    (pss_one (ps_dput (hu_of hr) (pe_fld (pv 0) rfl) (pv 1) pe_bl rfl))))), ?_⟩
    walk_at "go"
    refine ⟨x, rfl, hg, fun H1 k1 => ?_⟩
    obtain ⟨dx, hn, h1, h2, h12⟩ := N.kp k1 (by simp) (by simp) (by simp)
    walk_at "go"
    have hv := val_named (xs := xs) (x := x)
    rw [decide_eq_false hx] at hv
    refine z_dinq (DGet.k (k := .inr x) h1) ?_
    rw [hv]
    walk_at "go"
    rw [List.length_map]
    refine i_dec (fun c => absurd c (by omega)) (fun _ => ?_)
    walk_at "go"
    refine z_dputq (DPut.k (k := .inr x) h1 ?_) ?_
    · rw [List.length_map, sizeLine_eq]
      omega
    have e : putK (xs.map fun x => ((.inr x : Key), V.bl true)) (.inr x) (.bl true) = (xs ++ [x]).map fun x => (.inr x, .bl true) := by
      rw [putK_new _ (Option.not_isSome_iff_eq_none.mp (by rw [hv]; simp)), List.map_append]
      rfl
    rw [e]
    refine k _ ⟨dx, look_mut h1 hn (by intro z; cases z), upd_same, (upd_ne h12.symm).trans h2, h12⟩ ((k1.mono (by simp)).trans (.mut (by simp)))

def sp_Net_line (K : PySem.W.Frag) : Sp := fun vs H Q _ => ∃ n d1 d2 xs kvs x y, ∃ (g m : Nat), vs = [.ref n, .str x, .str y, .int g, .int m] ∧ NetAt K H n d1 d2 xs kvs ∧ x ∈ xs ∧ y ∈ xs ∧ x ≠ y ∧ 1 ≤ g ∧ g ≤ 4 ∧ 1 ≤ m ∧ m ≤ 99 ∧ valV kvs (.inl (m : Int)) = none ∧ kvs.length < 30 ∧
  ∀ H' a, NetAt K H' n d1 d2 xs (kvs ++ [(.inl (m : Int), .ref a)]) → H' a = some (.tup [.str x, .str y, .int g]) → Kp [d2] H H' → KpT H H' → Q (.int m) H'
theorem ok_Net_line (T : Tx K mg) : ∃ fd, FunD K "line" "Net.line" (defArgs s_Net_line) (defBody s_Net_line) (defScope s_Net_line) [] [("slow", .int 1), ("number", .non)] (He.fAd K ("Net", some "line")) fd ∧ FnOk P w K mg base CX0 2 (He.fAd K ("Net", some "line")) fd ["self", "one", "other", "slow", "number"] (sp_Net_line K) := by
  obtain ⟨fd, F⟩ := T.D_Net_line
  have cl_Net := T.cl_Net
  have n_Net_named := T.n_Net_named
  have n_Net_roads := T.n_Net_roads
  refine ⟨fd, F, F.ok (ps := ["self", "one", "other", "slow", "number"]) sc_Net_line (fun vs H Q E h => ?_) (fun cdv A outer s H vs Q E hr h => ?_)⟩
  · obtain ⟨_, _, _, _, _, _, _, _, _, rfl, _⟩ := h
    rfl
  · obtain ⟨n, d1, d2, xs, kvs, x, y, g, m, rfl, N, hx, hy, hxy, g1, g4, m1, m9, hv, hl, k⟩ := h
    have N' := N
    obtain ⟨dx, hn, h1, h2, h12⟩ := N'
    refine ⟨_, PSs.nox (pss_cons (ps_expr (pe_o (pv 0) T.cl_Net T.m_Net_need_house (fa_Net_need_house T) (hr.mono (by decide)) pass0 (pa_cons (pv 1) pa_nil)))
    (pss_cons (ps_expr (pe_o (pv 0) T.cl_Net T.m_Net_need_house (fa_Net_need_house T) (hr.mono (by decide)) pass0 (pa_cons (pv 2) pa_nil)))
    (pss_cons (ps_if (pt_cmpR op_eq (pv 1) (pv 2) (nomark _)) (pss_one ps_never) pss_nil)
    (pss_cons (ps_if (pt_not (pt_chain op_le op_le pe_int (pv 3) (pe_glob (v := .int 4) rfl T.c_MOST_SLOW.choose_spec ⟨_, rfl⟩))) (pss_one ps_never) pss_nil)
    (pss_cons (ps_set (i := 5) sc_Net_line.nd rfl (Or.inl rfl) (pe_ifExp (pt_cmpR op_isN (pv 4) pe_non (nomark _)) (pe_op op_catA pe_never pe_int) (pv 4)))
    (pss_cons (ps_if (pt_not (pt_chain op_le op_le pe_int (pv 5) (pe_glob (v := .int 99) rfl T.c_MOST_NUMBER.choose_spec ⟨_, rfl⟩))) (pss_one ps_never) pss_nil)
    (pss_cons (ps_if (pt_cmp (pc_din (hu_of hr) (pv 5) (pe_fld (pv 0) rfl)) rfl) (pss_one ps_never) pss_nil)
    (pss_cons (ps_if (pt_cmpR op_ge (pe_callB call_lenD (by rfl) T.z_len (by decide +kernel) (pa_cons (pe_fld (pv 0) rfl) pa_nil)) (pe_glob (v := .int 30) rfl T.c_MOST_LINES.choose_spec ⟨_, rfl⟩) (nomark _)) (pss_one ps_never) pss_nil)
    (pss_cons (ps_dput (hu_of hr) (pe_fld (pv 0) rfl) (pv 5) (pe_tup (pa_cons (pv 1) (pa_cons (pv 2) (pa_cons (pv 3) pa_nil)))) rfl)
    (pss_one (ps_ret (pv 5)))))))))))), ?_⟩
    walk_at "go"
    refine ⟨n, d1, d2, xs, kvs, x, rfl, N, hx, ?_⟩
    walk_at "go"
    refine ⟨n, d1, d2, xs, kvs, y, rfl, N, hy, ?_⟩
    walk_at "go"
    refine i_eqS (fun c => absurd c hxy) (fun _ => ?_)
    walk_at "go"
    refine i_dec (fun _ => ?_) (fun c => absurd c (by omega))
    walk_at "go"
    refine i_ndec (fun c => absurd (by omega) c) (fun _ => ?_)
    walk_at "go"
    refine ⟨rfl, ?_⟩
    walk_at "go"
    refine i_dec (fun c => by cases c) (fun _ => ?_)
    walk_at "go"
    refine i_dec (fun _ => ?_) (fun c => absurd c (by omega))
    walk_at "go"
    refine i_ndec (fun c => absurd (by omega) c) (fun _ => ?_)
    walk_at "go"
    refine z_dinq (DGet.k (k := .inl (m : Int)) h2) ?_
    rw [hv, Option.isSome_none]
    walk_at "go"
    refine i_dec (fun c => absurd c (by omega)) (fun _ => ?_)
    walk_at "go"
    intro a ha
    walk_at "go"
    have h2a := look_new (z := .tup [.str x, .str y, .int g]) ha h2
    refine z_dputq (DPut.k (k := .inl (m : Int)) h2a ?_) ?_
    · rw [sizeLine_eq]
      omega
    rw [putK_new _ hv]
    walk_at "go"
    have na := ne_of_none h2 ha
    refine k _ a ⟨dx, look_mut h2a (look_new ha hn) (by intro z; cases z), (upd_ne h12).trans (look_new ha h1), upd_same, h12⟩ ((upd_ne na.symm).trans upd_same) ((Kp.new ha).trans (.mut (by simp))) ((KpT.new ha).trans (.of1 (.mut (List.mem_singleton.mpr rfl)) h2a fun ys e => by cases e))
theorem fa_Net_line_slow_number (T : Tx K mg) : FnA P w K mg base CX0 2 (He.fAd K ("Net", some "line")) 3 ["slow", "number"] (fun vs zs => pick [(0, 0), (0, 1), (0, 2), (2, 0), (2, 1)] vs [] zs) (sp_Net_line K) := by
  obtain ⟨fd, F, G⟩ := ok_Net_line T
  refine FnA.kw F G 3 _ _ fun _ _ _ _ _ _ us ws h1 h2 => ?_
  match us, ws, h1, h2 with
  | [_, _, _], [_, _], _, _ => rfl

/-- a road in the net's dict -/
def RoadKv (H : Hp) (r : Road) (p : Key × V) : Prop := p.1 = .inl (r.mark : Int) ∧ ∃ a, p.2 = .ref a ∧ H a = some (.tup [.str r.one, .str r.other, .int r.lag])
theorem RoadKv.kp {H H' : Hp} (k : KpT H H') {r : Road} {p : Key × V} (h : RoadKv H r p) : RoadKv H' r p := by
  obtain ⟨e, a, e2, h⟩ := h
  exact ⟨e, a, e2, k _ _ h⟩
/-- the net with these houses and these roads -/
def NetR (K : PySem.W.Frag) (H : Hp) (n d1 d2 : Addr) (xs : List Str) (rs : List Road) : Prop := ∃ kvs, NetAt K H n d1 d2 xs kvs ∧ Paired (RoadKv H) rs kvs
theorem NetR.kp {S : List Addr} {K : PySem.W.Frag} {H H' : Hp} {n d1 d2 : Addr} {xs : List Str} {rs : List Road} (N : NetR K H n d1 d2 xs rs) (k : Kp S H H') (kt : KpT H H') (a : n ∉ S) (b : d1 ∉ S) (c : d2 ∉ S) : NetR K H' n d1 d2 xs rs := by
  obtain ⟨kvs, N, pr⟩ := N
  exact ⟨kvs, N.kp k a b c, paired_imp (fun _ _ => RoadKv.kp kt) pr⟩
theorem val_roads {H : Hp} {m : Nat} : ∀ {rs : List Road} {kvs : List (Key × V)}, Paired (RoadKv H) rs kvs → (valV kvs (.inl (m : Int))).isSome = decide (m ∈ rs.map Road.mark)
  | _, _, .nil => rfl
  | r :: rs, p :: kvs, .cons h t => by
    have ih := val_roads (m := m) t
    by_cases e : r.mark = m
    · rw [valV_pos (by rw [h.1, e])]
      simp [e]
    · rw [valV_neg (by rw [h.1]; intro z; exact e (by have := Sum.inl.inj z; omega)), ih]
      simp [Ne.symm e]
def sp_l_net (K : PySem.W.Frag) : Sp := fun vs H Q _ => ∃ (b l c p q : Addr) (xs : List Str) (rs : List Road) (ws : List V) (m : Nat), vs = [.ref b, .ref c] ∧ BagAt H b l ∧ H c = some (.tup [.ref p, .ref q]) ∧ H p = some (.lst (xs.map .str)) ∧ H q = some (.lst ws) ∧ Paired (RoadAt H) rs ws ∧ p ≠ b ∧ q ≠ b ∧
  xs.Nodup ∧ xs.length ≤ 12 ∧ (∀ x ∈ xs, GoodName x) ∧ GoodRoads xs m 99 rs ∧ m ≤ 30 ∧
  ∀ n d1 d2 xs' rs' H', NetR K H' n d1 d2 xs' rs' → xs'.Perm xs → rs'.Perm rs → Kp [b] H H' → BagAt H' b l → H n = none → H d1 = none → H d2 = none → KpT H H' → Q (.ref n) H'
theorem fa_l_net (T : Tx K mg) : FnA P w K mg base CX0 3 (He.fAd K ("_law_net", none)) 2 [] gPos (sp_l_net K) := by
  obtain ⟨fd, F⟩ := T.D_l_net
  have cl_Net := T.cl_Net
  have n_Net_named := T.n_Net_named
  have n_Net_roads := T.n_Net_roads
  refine FnA.pos F (F.ok (ps := ["_law_bag_here", "_law_world_here"]) sc_l_net (fun vs H Q E h => ?_) (fun cdv A outer s H vs Q E hr h => ?_)) 2 (fun _ _ _ _ _ _ us hl => match us, hl with | [_, _], _ => rfl)
  · obtain ⟨_, _, _, _, _, _, _, _, _, rfl, _⟩ := h
    rfl
  · obtain ⟨b, l, c, p, q, xs, rs, ws, m, rfl, hB, hc, hp, hq, pr, npb, nqb, hn, hl, hg, hr2, hm, k⟩ := h
    refine ⟨_, PSs.nox (pss_cons (ps_set (i := 2) sc_l_net.nd rfl (Or.inl rfl) (pe_c0 T.m_Net (fa_Net_init T) (hr.mono (by decide)) rfl T.g_Net pass0))
    (pss_cons (ps_for PassesOwn.never rfl (pi_list (pe_f (fa_l_order_drawn T) (hr.mono (by decide)) rfl T.g__law_order_drawn pass0 (pa_cons (pv 0) (pa_cons (pe_ix ix_tup (pv 1) pe_int (fun _ _ => rfl)) pa_nil)))) (pg_name (i := 3) sc_l_net.nd rfl (Or.inl rfl))
    (pss_one (ps_expr (pe_o (pv 2) T.cl_Net T.m_Net_house (fa_Net_house T) (hr.mono (by decide)) pass0 (pa_cons (pv 3) pa_nil)))))
    (pss_cons (ps_for PassesOwn.never rfl (pi_list (pe_f (fa_l_order_drawn T) (hr.mono (by decide)) rfl T.g__law_order_drawn pass0 (pa_cons (pv 0) (pa_cons (pe_ix ix_tup (pv 1) pe_int (fun _ _ => rfl)) pa_nil)))) (pg_tup rfl (pgs_cons (pg_name (i := 4) sc_l_net.nd rfl (Or.inl rfl)) (pgs_cons (pg_name (i := 5) sc_l_net.nd rfl (Or.inl rfl)) (pgs_cons (pg_name (i := 6) sc_l_net.nd rfl (Or.inl rfl)) (pgs_cons (pg_name (i := 7) sc_l_net.nd rfl (Or.inl rfl)) pgs_nil)))))
    (pss_one (ps_expr (pe_ok (pv 2) T.cl_Net T.m_Net_line (fa_Net_line_slow_number T) (hr.mono (by decide)) pass0 (pa_cons (pv 5) (pa_cons (pv 6) pa_nil)) (pk_cons (pv 7) (pk_cons (pv 4) pk_nil))))))
    (pss_one (ps_ret (pv 2)))))), ?_⟩
    walk_at "go"
    intro n dx hn0 hdx0 hne
    refine ⟨n, dx, rfl, upd_same, fun H1 d1 d2 N1 hd1 hd2 k1 => ⟨rfl, ?_⟩⟩
    have hd1' : H d1 = none := un_none (un_none hd1)
    have hd2' : H d2 = none := un_none (un_none hd2)
    have ka : Kp [] H H1 := ((Kp.new hdx0).own hn0).fresh k1 fun a m => .inl (by rw [List.mem_singleton.mp m]; exact hn0)
    have B1 := hB.kp ka (by simp) (by simp)
    have hc1 := ka _ _ hc (by simp)
    have hp1 := ka _ _ hp (by simp)
    have hxl : (xs.map V.str).length = xs.length := List.length_map ..
    walk_at "go"
    refine ⟨b, l, p, xs.map .str, rfl, B1, .of hp1, npb, by omega, fun p' ys H2 pm k2 B2 hp' ep' np'b => ?_⟩
    obtain ⟨xs', pmx, rfl⟩ := perm_map pm
    have lx' := pmx.length_eq
    have nbn := (hB.ne hn0).1
    have nb1 := (hB.ne hd1').1
    have nb2 := (hB.ne hd2').1
    have nl1 := (hB.ne hd1').2
    have nl2 := (hB.ne hd2').2
    have N2 := N1.kp k2 (ni1 nbn.symm) (ni1 nb1.symm) (ni1 nb2.symm)
    walk_at "go"
    have n1p' : d1 ≠ p' := by
      obtain ⟨_, _, z, _⟩ := N1
      exact ne_of_none z hp'
    refine loopL (xs := xs'.map .str) (fun i σ H' => ∃ (o3 : Option V), σ = [some (.ref b), some (.ref c), some (.ref n), o3, none, none, none, none] ∧ NetAt K H' n d1 d2 (xs'.take i) [] ∧ Kp [d1] H2 H' ∧ BagAt H' b l) ?_ (fun i σ H' _ hv => ?_) (fun i v σ H' hi hv => ?_) (fun σ H' hv => ?_)
    · exact ⟨_, rfl, N2, .refl, B2⟩
    · obtain ⟨o3, rfl, N', k', B'⟩ := hv
      exact .of (k' _ _ ep' (ni1 n1p'.symm))
    · obtain ⟨o3, rfl, N', k', B'⟩ := hv
      obtain ⟨x, hx, rfl⟩ := map_get hi
      have hx' : x ∈ xs := pmx.mem_iff.mp (List.mem_of_getElem? hx)
      have hi' := (List.getElem?_eq_some_iff.mp hx).1
      have N'' := N'
      obtain ⟨dx', hnn, hm1, hm2, h12⟩ := N''
      walk_at "go"
      refine ⟨n, d1, d2, xs'.take i, [], x, rfl, N', nodup_get (pmx.nodup_iff.mpr hn) hx, (by rw [List.length_take]; omega), hg x hx', fun H3 N3 k3 => ?_⟩
      refine ⟨_, rfl, ?_, k'.trans k3, B'.kp k3 (ni1 nb1) (ni1 nl1)⟩
      rw [take_succ_get hx]
      exact N3
    · obtain ⟨o3, rfl, N', k', B'⟩ := hv
      have et : xs'.take (xs'.map V.str).length = xs' := by rw [List.length_map, List.take_length]
      rw [et] at N'
      have kc : Kp [b] H H' := ((ka.mono (by simp)).trans k2).fresh k' fun a m => .inl (by rw [List.mem_singleton.mp m]; exact hd1')
      have hc' := kc _ _ hc (fun z => by
        obtain ⟨_, _, _, _, e, _⟩ := hB
        rw [List.mem_singleton.mp z, e] at hc
        cases hc)
      have hq' := kc _ _ hq (ni1 nqb)
      walk_at "go"
      have hwl : rs.length = ws.length := pr.length
      have hrl := hr2.len
      refine ⟨b, l, q, ws, rfl, B', .of hq', nqb, by omega, fun p2 zs H4 pz k4 B4 hp2 ep2 np2b => ?_⟩
      have pr' : Paired (RoadAt H') rs ws := roads_kp (hB.kpt kc) pr
      obtain ⟨rs', pmr, pr4⟩ := paired_perm_r pz (roads_kp (B'.kpt k4) pr')
      have N4 := N'.kp k4 (ni1 nbn.symm) (ni1 nb1.symm) (ni1 nb2.symm)
      have lz := pr4.length
      have lr' := pmr.length_eq
      have hmk : (rs'.map Road.mark).Nodup := (pmr.map _).nodup_iff.mpr (hr2.inc.imp fun z => Nat.ne_of_lt z)
      have n2p2 : d2 ≠ p2 := by
        obtain ⟨_, _, _, z, _⟩ := N'
        exact ne_of_none z hp2
      have kc4 : Kp [b] H H4 := kc.trans k4
      walk_at "go"
      refine loopL (xs := zs) (fun i σ H' => ∃ (o3 o4 o5 o6 o7 : Option V) (kvs : List (Key × V)), σ = [some (.ref b), some (.ref c), some (.ref n), o3, o4, o5, o6, o7] ∧ NetAt K H' n d1 d2 xs' kvs ∧ Paired (RoadKv H') (rs'.take i) kvs ∧ Kp [d2] H4 H' ∧ KpT H4 H' ∧ BagAt H' b l) ?_ (fun i σ H' _ hv => ?_) (fun i v σ H' hi hv => ?_) (fun σ H' hv => ?_)
      · exact ⟨_, _, _, _, _, [], rfl, N4, .nil, .refl, .refl, B4⟩
      · obtain ⟨_, _, _, _, _, kvs, rfl, N5, pk, k5, kt5, B5⟩ := hv
        exact .of (k5 _ _ ep2 (ni1 n2p2.symm))
      · obtain ⟨_, _, _, _, _, kvs, rfl, N5, pk, k5, kt5, B5⟩ := hv
        have hi' := (List.getElem?_eq_some_iff.mp hi).1
        obtain ⟨r, hr, a, rfl, ha⟩ := paired_get_r pr4 hi
        have ha5 := kt5 _ _ ha
        obtain ⟨o1, o2, o3, o4, o5, o6⟩ := hr2.ok r (pmr.mem_iff.mp (List.mem_of_getElem? hr))
        have o7 := hr2.top r (pmr.mem_iff.mp (List.mem_of_getElem? hr))
        have lk : kvs.length = i := by
          have := pk.length
          rw [List.length_take] at this
          omega
        have hv : valV kvs (.inl (r.mark : Int)) = none := by
          have := val_roads (m := r.mark) pk
          rw [decide_eq_false] at this
          · exact Option.not_isSome_iff_eq_none.mp (by rw [this]; simp)
          · rw [List.map_take]
            exact nodup_get hmk (by rw [List.getElem?_map, hr]; rfl)
        have N6 := N5
        obtain ⟨dx', hnn, hm1, hm2, h12⟩ := N6
        walk_at "go"
        refine ⟨n, d1, d2, xs', kvs, r.one, r.other, r.lag, r.mark, rfl, N5, pmx.mem_iff.mpr o2, pmx.mem_iff.mpr o3, o4, o5, o6, o1, o7, hv, by omega, fun H6 a' N6 ea k6 kt6 => ?_⟩
        refine ⟨_, _, _, _, _, _, rfl, N6, ?_, k5.trans k6, kt5.trans kt6, B5.kp k6 (ni1 nb2) (ni1 nl2)⟩
        rw [take_succ_get hr]
        exact paired_snoc ⟨rfl, a', rfl, ea⟩ (paired_imp (fun _ _ => RoadKv.kp kt6) pk)
      · obtain ⟨_, _, _, _, _, kvs, rfl, N5, pk, k5, kt5, B5⟩ := hv
        have et : rs'.take zs.length = rs' := by rw [← lz, List.take_length]
        rw [et] at pk
        walk_at "go"
        have kf : Kp [b] H H' := kc4.fresh k5 fun a m => .inl (by rw [List.mem_singleton.mp m]; exact hd2')
        exact k n d1 d2 xs' rs' _ ⟨kvs, N5, pk⟩ pmx pmr kf B5 hn0 hd1' hd2' (hB.kpt kf)

/-! ### sendings gone astray -/
def LostAt (H : Hp) (s : Nat × Nat) (v : V) : Prop := ∃ a, v = .ref a ∧ H a = some (.tup [.int s.1, .int s.2])
theorem LostAt.kp {H H' : Hp} (k : KpT H H') {r : Nat × Nat} {v : V} (h : LostAt H r v) : LostAt H' r v := by
  obtain ⟨a, e, h⟩ := h
  exact ⟨a, e, k _ _ h⟩
def roadD (r : Road) : PyData := .tuple [.int r.mark, .str r.one, .str r.other, .int r.lag]
theorem roads_dp {H : Hp} : ∀ {rs : List Road} {vs : List V}, Paired (RoadAt H) rs vs → DpAll K H vs (rs.map roadD)
  | _, _, .nil => .nil
  | _, _, .cons ⟨a, e, h⟩ t => .cons (by rw [e]; exact .tup (.of h) (.cons (.int _) (.cons (.str _) (.cons (.str _) (.cons (.int _) .nil))))) (roads_dp t)
theorem name_ok {x : Str} (h : GoodName x) : PyData.strOk x = true := by
  unfold PyData.strOk
  rw [Array.all_eq_true_iff_forall_mem]
  intro c hc
  have := h.az c (by simpa using hc)
  exact decide_eq_true (by omega)
theorem roads_lay : ∀ {rs : List Road}, (∀ r ∈ rs, GoodName r.one ∧ GoodName r.other) → PyData.canLayAll0 (rs.map roadD) = true
  | [], _ => rfl
  | r :: rs, h => by
    obtain ⟨h1, h2⟩ := h r (by simp)
    have ih := roads_lay (rs := rs) fun z hz => h z (by simp [hz])
    rw [List.map_cons]
    unfold PyData.canLayAll0
    rw [ih]
    have e1 := name_ok h1
    have e2 := name_ok h2
    simp [roadD, PyData.canLay0, PyData.canLayAll0, e1, e2]
theorem roads_depth : ∀ {rs : List Road}, PyData.depthAll (rs.map roadD) ≤ 1
  | [] => by simp [PyData.depthAll]
  | r :: rs => by
    have ih := roads_depth (rs := rs)
    rw [List.map_cons]
    unfold PyData.depthAll
    have : PyData.depth (roadD r) = 1 := by simp [roadD, PyData.depth, PyData.depthAll]
    omega
theorem roads_shaped {rs : List Road} (h : ∀ r ∈ rs, GoodName r.one ∧ GoodName r.other) : SeqAt.shaped (.list (rs.map roadD)) = true := by
  unfold SeqAt.shaped
  have h1 : PyData.canLay0 (.list (rs.map roadD)) = true := by
    unfold PyData.canLay0
    exact roads_lay h
  have h2 : PyData.depth (.list (rs.map roadD)) ≤ 64 := by
    unfold PyData.depth
    have := roads_depth (rs := rs)
    omega
  rw [h1, decide_eq_true h2]
  rfl
theorem eqv_nil {ds : List PyData} : PyData.eqv (.list ds) (.list []) = ds.isEmpty := by
  cases ds <;> simp [PyData.eqv, PyData.eqvAll]
def sp_l_lost : Sp := fun vs H Q _ => ∃ (b l q : Addr) (rs : List Road) (ws : List V) (t u : Nat), vs = [.ref b, .ref q, .int t, .int u] ∧ BagAt H b l ∧ H q = some (.lst ws) ∧ Paired (RoadAt H) rs ws ∧ q ≠ b ∧ (∀ r ∈ rs, GoodName r.one ∧ GoodName r.other) ∧ rs.length ≤ 30 ∧ t ≤ 40 ∧ u ≤ 10 ∧
  ∀ c (ls : List (Nat × Nat)) (as : List V) H', H' c = some (.tup as) → Paired (LostAt H') ls as → (∀ s ∈ ls, ∃ r ∈ rs, s.1 = r.mark) → ls.length ≤ u → Kp [b] H H' → BagAt H' b l → H c = none → Q (.ref c) H'
theorem fa_l_lost (T : Tx K mg) : FnA P w K mg base CX0 3 (He.fAd K ("_law_lost", none)) 4 [] gPos sp_l_lost := by
  obtain ⟨fd, F⟩ := T.D_l_lost
  have cl_Net := T.cl_Net
  have n_Net_named := T.n_Net_named
  have n_Net_roads := T.n_Net_roads
  refine FnA.pos F (F.ok (ps := ["_law_bag_here", "_law_roads", "_law_turn", "_law_upto"]) sc_l_lost (fun vs H Q E h => ?_) (fun cdv A outer s H vs Q E hr h => ?_)) 4 (fun _ _ _ _ _ _ us hl => match us, hl with | [_, _, _, _], _ => rfl)
  · obtain ⟨_, _, _, _, _, _, _, rfl, _⟩ := h
    rfl
  · obtain ⟨b, l, q, rs, ws, t, u, rfl, hB, hq, pr, nqb, hsh, hl, ht, hu, k⟩ := h
    refine ⟨_, PSs.nox (pss_cons (ps_set (i := 4) sc_l_lost.nd rfl (Or.inl rfl) (pe_lst pa_nil))
    (pss_cons (ps_for PassesOwn.never rfl (pi_range1 rfl T.z_range (pa_cons (pe_ifExp (pt_cmpR (op_neD (hu64 hr)) (pv 1) (pe_lst pa_nil) (nomark _)) (pe_f (fa_l_pull T) (hr.mono (by decide)) rfl T.g__law_pull pass0 (pa_cons (pv 0) (pa_cons (pe_op op_add (pv 3) pe_int) pa_nil))) pe_int) pa_nil)) (pg_name (i := 5) sc_l_lost.nd rfl (Or.inl rfl))
    (pss_one (ps_expr (pe_bm PySem.F.plainAttrs_list PySem.F.slot_list_append PySem.F.type_list_append mt_append (pv 4) (pa_cons (pe_tup (pa_cons (pe_ix ix_tup (pe_f (fa_l_pick T) (hr.mono (by decide)) rfl T.g__law_pick pass0 (pa_cons (pv 0) (pa_cons (pv 1) pa_nil))) pe_int (fun _ _ => rfl)) (pa_cons (pe_f (fa_l_pull T) (hr.mono (by decide)) rfl T.g__law_pull pass0 (pa_cons (pv 0) (pa_cons (pe_op op_add (pv 2) pe_int) pa_nil))) pa_nil))) pa_nil)))))
    (pss_one (ps_ret (pe_callTy call_tuple_of (by rfl) T.z_tuple (by decide +kernel) (pa_cons (pv 4) pa_nil)))))), ?_⟩
    walk_at "go"
    intro p hp
    walk_at "go"
    intro p2 hp2
    walk_at "go"
    have k2 : Kp [] H (upd (upd H p (.lst [])) p2 (.lst [])) := (Kp.new hp).trans (.new hp2)
    have kt2 := KpT.of k2 (by simp)
    have ep : upd (upd H p (.lst [])) p2 (.lst []) p = some (.lst []) := look_new hp2 upd_same
    have B2 := hB.kp k2 (by simp) (by simp)
    have hq2 := k2 _ _ hq (by simp)
    refine ⟨_, _, .lst (.of hq2) (roads_dp (roads_kp kt2 pr)), .lst (.of upd_same) .nil, roads_shaped hsh, rfl, ?_⟩
    rw [eqv_nil]
    have npb := (hB.ne hp).1
    have npl := (hB.ne hp).2
    have npq : q ≠ p := ne_of_none hq hp
    generalize upd (upd H p (.lst [])) p2 (.lst []) = H2 at *
    by_cases hr0 : rs = []
    · subst hr0
      walk_at "go"
      refine iteF ?_
      walk_at "go"
      refine ⟨by omega, by omega, ?_⟩
      refine loopR (fun i σ H' => H' = H2 ∧ σ = [some (.ref b), some (.ref q), some (.int t), some (.int u), some (.ref p), none]) ⟨rfl, rfl⟩ (fun i σ H' hi _ => absurd hi (by simp)) (fun σ H' hv => ?_)
      obtain ⟨rfl, rfl⟩ := hv
      walk_at "go"
      refine ⟨p, [], rfl, .inl ⟨.of ep, fun c hc => ?_⟩⟩
      walk_at "go"
      exact k c [] [] _ upd_same .nil (fun s hs => by cases hs) (Nat.zero_le _) ((k2.mono (by simp)).trans (.new hc)) (B2.kp (S := []) (.new hc) (by simp) (by simp)) (k2.none hc (by simp))
    · have he : (!(rs.map roadD).isEmpty) = true := by
        cases rs with
        | nil => exact absurd rfl hr0
        | cons _ _ => rfl
      have hwl : rs.length = ws.length := pr.length
      have hw0 : ws ≠ [] := fun z => hr0 (List.length_eq_zero_iff.mp (by rw [hwl, z]; rfl))
      rw [he]
      walk_at "go"
      refine ⟨b, l, (u : Int) + 1, rfl, B2, by omega, by omega, fun v H3 v0 v1 k3 B3 => ?_⟩
      obtain ⟨n, rfl⟩ : ∃ j : Nat, v = (j : Int) := ⟨v.toNat, by omega⟩
      have k03 : Kp [b] H H3 := (k2.mono (by simp)).trans k3
      walk_at "go"
      refine ⟨by omega, by omega, ?_⟩
      refine loopR (fun i σ H' => ∃ (o : Option V) (ls : List (Nat × Nat)) (as : List V), σ = [some (.ref b), some (.ref q), some (.int t), some (.int u), some (.ref p), o] ∧ H' p = some (.lst as) ∧ Paired (LostAt H') ls as ∧ (∀ s ∈ ls, ∃ r ∈ rs, s.1 = r.mark) ∧ ls.length = i ∧ Kp [b] H H' ∧ BagAt H' b l) ?_ (fun i σ H' hi hv => ?_) (fun σ H' hv => ?_)
      · exact ⟨_, [], [], rfl, k3 _ _ ep (ni1 npb.symm), .nil, (fun s hs => by cases hs), rfl, k03, B3⟩
      · obtain ⟨o, ls, as, rfl, e1, pl, hls, hlen, k4, B4⟩ := hv
        have hi' : i < n := by omega
        have hal : as.length = i := by rw [← pl.length, hlen]
        walk_at "go"
        have hq4 := k4 _ _ hq (ni1 nqb)
        refine ⟨b, l, q, ws, rfl, B4, .of hq4, nqb, hw0, by omega, fun j x H5 hj k5 B5 => ?_⟩
        have kt5 : KpT H H5 := hB.kpt (k4.trans k5)
        obtain ⟨r, hr1, a, rfl, ha⟩ := paired_get_r pr hj
        have ha5 := kt5 _ _ ha
        have e5 := k5 _ _ e1 (ni1 npb.symm)
        walk_at "go"
        refine ⟨b, l, (t : Int) + 2, rfl, B5, by omega, by omega, fun v6 H6 v60 v61 k6 B6 => ?_⟩
        obtain ⟨m6, rfl⟩ : ∃ j : Nat, v6 = (j : Int) := ⟨v6.toNat, by omega⟩
        have e6 := k6 _ _ e5 (ni1 npb.symm)
        walk_at "go"
        intro c hc
        have e7 := look_new (z := .tup [.int r.mark, .int m6]) hc e6
        refine z_nil (z_append e7 ?_ ?_)
        · rw [sizeLine_eq]
          omega
        have ecp : c ≠ p := (ne_of_none e6 hc).symm
        have kt : KpT H' H6 := (B4.kpt (k5.trans k6))
        refine ⟨_, ls ++ [(r.mark, m6)], as ++ [.ref c], rfl, upd_same, ?_, ?_, by simp [hlen], ?_, ?_⟩
        · refine paired_snoc ⟨c, rfl, ?_⟩ (paired_imp (fun _ _ => LostAt.kp ((kt.trans (.new hc)).trans (.lst e7))) pl)
          rw [upd_ne ecp, upd_same]
        · intro s hs
          rcases List.mem_append.mp hs with h | h
          · exact hls s h
          · simp only [List.mem_cons, List.not_mem_nil, or_false] at h
            subst h
            exact ⟨r, List.mem_of_getElem? hr1, rfl⟩
        · exact (((k4.trans k5).trans k6).trans (.new hc)).own hp
        · exact B6.kp (S := [c, p]) ((Kp.new hc).trans (.mut (by simp))) (ni2 (B6.ne hc).1 npb) (ni2 (B6.ne hc).2 npl)
      · obtain ⟨o, ls, as, rfl, e1, pl, hls, hlen, k4, B4⟩ := hv
        walk_at "go"
        refine ⟨p, as, rfl, .inl ⟨.of e1, fun c hc => ?_⟩⟩
        walk_at "go"
        exact k c ls as _ upd_same (paired_imp (fun _ _ => LostAt.kp (.new hc)) pl) hls (by omega) (k4.trans (.new hc)) (B4.kp (S := []) (.new hc) (by simp) (by simp)) (k4.none hc (ni1 (B4.ne hc).1.symm))

/-- the roads by their marks -/
def ByMark (rs : List Road) : Prop := (rs.map Road.mark).Pairwise (· < ·)
theorem pair_split {xs : List Road} (p : ByMark xs) : xs.Pairwise fun a b => a.mark < b.mark := List.pairwise_map.mp p
theorem bymark_eq : ∀ {xs ys : List Road}, xs.Perm ys → ByMark xs → ByMark ys → xs = ys
  | [], ys, p, _, _ => by rw [List.nil_perm.mp p]
  | x :: xs, [], p, _, _ => absurd p.symm (by simp)
  | x :: xs, y :: ys, p, hx, hy => by
    have px := pair_split hx
    have py := pair_split hy
    rw [List.pairwise_cons] at px py
    have e : x = y := by
      rcases List.mem_cons.mp (p.mem_iff.mp (List.mem_cons_self ..) : x ∈ y :: ys) with h | h
      · exact h
      · rcases List.mem_cons.mp (p.mem_iff.mpr (List.mem_cons_self ..) : y ∈ x :: xs) with h2 | h2
        · exact h2.symm
        · have a := py.1 x h
          have b := px.1 y h2
          omega
    subst e
    rw [bymark_eq ((List.perm_cons x).mp p) (List.Pairwise.tail hx) (List.Pairwise.tail hy)]
def sp_Net_numbers (K : PySem.W.Frag) : Sp := fun vs H Q _ => ∃ n d1 d2 xs rs, vs = [.ref n] ∧ NetR K H n d1 d2 xs rs ∧ rs.length ≤ 30 ∧ ∀ p (ns : List Int) H', ns.Perm (rs.map fun r => (r.mark : Int)) → ns.Pairwise (· ≤ ·) → H p = none → H' p = some (.lst (ns.map .int)) → Kp [] H H' → Q (.ref p) H'
theorem keys_roads {H : Hp} : ∀ {rs : List Road} {kvs : List (Key × V)}, Paired (RoadKv H) rs kvs → (kvs.map fun kv => kV kv.1) = (rs.map fun r => (r.mark : Int)).map V.int
  | _, _, .nil => rfl
  | _, _, .cons h t => by
    rw [List.map_cons, List.map_cons, List.map_cons, keys_roads t, h.1]
    rfl
theorem fa_Net_numbers (T : Tx K mg) : FnA P w K mg base CX0 1 (He.fAd K ("Net", some "numbers")) 1 [] gPos (sp_Net_numbers K) := by
  obtain ⟨fd, F⟩ := T.D_Net_numbers
  have cl_Net := T.cl_Net
  have n_Net_named := T.n_Net_named
  have n_Net_roads := T.n_Net_roads
  refine FnA.pos F (F.ok (ps := ["self"]) sc_Net_numbers (fun vs H Q E h => ?_) (fun cdv A outer s H vs Q E hr h => ?_)) 1 (fun _ _ _ _ _ _ us hl => match us, hl with | [_], _ => rfl)
  · obtain ⟨_, _, _, _, _, rfl, _⟩ := h
    rfl
  · obtain ⟨n, d1, d2, xs, rs, rfl, ⟨kvs, ⟨dx, hn, h1, h2, h12⟩, pk⟩, hl, k⟩ := h
    refine ⟨_, PSs.nox (pss_one (ps_ret (pe_callB cr_sorted (by rfl) T.z_sorted (by decide +kernel) (pa_cons (pe_callTy (call_list_dK rfl) (by rfl) T.z_list (by decide +kernel) (pa_cons (pe_fld (pv 0) rfl) pa_nil)) pa_nil)))), ?_⟩
    have lk := pk.length
    walk_at "go"
    intro q hq
    walk_at "go"
    rw [keys_roads pk]
    refine ⟨q, _, rfl, .of upd_same, (by rw [List.length_map]; omega), fun ns p pm so hp => ?_⟩
    walk_at "go"
    exact k p ns _ pm so (un_none hp) upd_same ((Kp.new hq).trans (.new hp))
theorem val_road {H : Hp} {m : Int} : ∀ {rs : List Road} {kvs : List (Key × V)}, Paired (RoadKv H) rs kvs → m ∈ rs.map (fun r => (r.mark : Int)) → ∃ r ∈ rs, m = r.mark ∧ ∃ a, valV kvs (.inl m) = some (.ref a) ∧ H a = some (.tup [.str r.one, .str r.other, .int r.lag])
  | _, _, .nil, h => by simp at h
  | r :: rs, p :: kvs, .cons h t, hm => by
    by_cases e : m = r.mark
    · obtain ⟨h1, a, h2, h3⟩ := h
      exact ⟨r, by simp, e, a, by rw [valV_pos (by rw [h1, e]), h2], h3⟩
    · rw [List.map_cons] at hm
      rcases List.mem_cons.mp hm with h' | h'
      · exact absurd h' e
      · obtain ⟨r', h1, h2, a, h3, h4⟩ := val_road t h'
        exact ⟨r', by simp [h1], h2, a, by rw [valV_neg (by rw [h.1]; intro z; exact e (Sum.inl.inj z).symm)]; exact h3, h4⟩
def sp_Net_lines (K : PySem.W.Frag) : Sp := fun vs H Q _ => ∃ n d1 d2 xs rs rs0, vs = [.ref n] ∧ NetR K H n d1 d2 xs rs ∧ rs.length ≤ 30 ∧ rs.Perm rs0 ∧ ByMark rs0 ∧ ∀ p ws H', Paired (RoadAt H') rs0 ws → H p = none → H' p = some (.lst ws) → Kp [] H H' → Q (.ref p) H'
theorem fa_Net_lines (T : Tx K mg) : FnA P w K mg base CX0 2 (He.fAd K ("Net", some "lines")) 1 [] gPos (sp_Net_lines K) := by
  obtain ⟨fd, F⟩ := T.D_Net_lines
  have cl_Net := T.cl_Net
  have n_Net_named := T.n_Net_named
  have n_Net_roads := T.n_Net_roads
  refine FnA.pos F (F.ok (ps := ["self"]) sc_Net_lines (fun vs H Q E h => ?_) (fun cdv A outer s H vs Q E hr h => ?_)) 1 (fun _ _ _ _ _ _ us hl => match us, hl with | [_], _ => rfl)
  · obtain ⟨_, _, _, _, _, _, rfl, _⟩ := h
    rfl
  · obtain ⟨n, d1, d2, xs, rs, rs0, rfl, N, hl, pm, hby, k⟩ := h
    refine ⟨_, PSs.nox (pss_one (ps_ret (pe_lc (own := [("number", 1)]) (tt := tYes) rfl sc_Net_lines.nd (pi_list (pe_o0 (pv 0) T.cl_Net T.m_Net_numbers (fa_Net_numbers T) (hr.mono (by decide)) pass0)) (blkOk_by (N := N_Net_lines) (sc := defScope s_Net_lines) (by decide +kernel)) (fun _ _ _ _ _ => (pg_name (i := 1) sc_Net_lines.nd rfl (Or.inl rfl))) (fun _ _ _ _ _ => pts_nil) (fun _ _ _ _ _ => (pe_op (show OpR _ (binaryOp .Add) (rCatA K) from op_catA) (pe_tup (pa_cons (pv 1) pa_nil)) (pe_dget (hu_of hr) (show PE _ _ (tFld K _ _) from pe_fld (pv 0) rfl) (pv 1) (fun _ _ => rfl))))))), ?_⟩
    have N' := N
    obtain ⟨kvs, ⟨dx, hn, h1, h2, h12⟩, pk⟩ := N'
    walk_at "go"
    refine ⟨n, d1, d2, xs, rs, rfl, N, hl, fun q ns H1 pn so hq eq k1 => ?_⟩
    have N1 := N.kp k1 (.of k1 (by simp)) (by simp) (by simp) (by simp)
    have ens : ns = rs0.map fun r => (r.mark : Int) := by
      refine List.Perm.eq_of_pairwise (le := (· ≤ ·)) (fun a b _ _ h1 h2 => Int.le_antisymm h1 h2) so ?_ (pn.trans (pm.map _))
      rw [List.pairwise_map]
      exact (pair_split hby).imp fun z => by omega
    subst ens
    have lr : rs0.length = rs.length := pm.length_eq.symm
    walk_at "go"
    refine lcL (xs := (rs0.map fun r => (r.mark : Int)).map V.int) fun Dx hD => ⟨fun i H' => ∃ ws, H' Dx = some (.lst ws) ∧ Paired (RoadAt H') (rs0.take i) ws ∧ Kp [] H1 H', ?_, fun i H' _ hv => ?_, fun i v H' hi hv => ?_, fun H' hv => ?_⟩
    · exact ⟨[], upd_same, .nil, .new hD⟩
    · obtain ⟨ws, e1, pw, k2⟩ := hv
      exact .of (k2 _ _ eq (by simp))
    · obtain ⟨ws, e1, pw, k2⟩ := hv
      obtain ⟨m, hm, rfl⟩ := map_get hi
      walk_at "go"
      intro p hp
      have hi' := (List.getElem?_eq_some_iff.mp hm).1
      have lr0 : (rs0.map fun r => (r.mark : Int)).length = rs0.length := List.length_map ..
      have N2 := N1.kp k2 (.of k2 (by simp)) (by simp) (by simp) (by simp)
      obtain ⟨kvs2, ⟨dx2, hn2, g1, g2, _⟩, pk2⟩ := N2
      have hm2 : ∃ r, rs0[i]? = some r ∧ m = (r.mark : Int) := by
        rw [List.getElem?_map] at hm
        cases e : rs0[i]? with
        | none => rw [e] at hm; cases hm
        | some r => rw [e] at hm; exact ⟨r, rfl, (Option.some.inj hm).symm⟩
      obtain ⟨r, hr, rfl⟩ := hm2
      obtain ⟨r', hr', er, a, ha, ea⟩ := val_road (m := (r.mark : Int)) pk2 (List.mem_map.mpr ⟨r, pm.mem_iff.mpr (List.mem_of_getElem? hr), rfl⟩)
      have err : r' = r := by
        have hr1 := pm.mem_iff.mp hr'
        obtain ⟨j, hj⟩ := List.mem_iff_getElem?.mp hr1
        obtain ⟨hj1, hj2⟩ := List.getElem?_eq_some_iff.mp hj
        obtain ⟨hi1, hi2⟩ := List.getElem?_eq_some_iff.mp hr
        have hp := List.pairwise_iff_getElem.mp (pair_split hby)
        rcases Nat.lt_trichotomy i j with c | c | c
        · have := hp i j hi1 hj1 c
          rw [hi2, hj2] at this
          omega
        · subst c
          exact hj2.symm.trans hi2
        · have := hp j i hj1 hi1 c
          rw [hi2, hj2] at this
          omega
      subst err
      walk_at "go"
      refine z_dgetq (DGet.k (k := .inl (r'.mark : Int)) (look_new hp g2) |> fun z => by rw [ha] at z; exact z) ?_
      have ea2 := look_new (z := .tup [.int r'.mark]) hp ea
      refine z_catA (.of upd_same) (.of ea2) (by simp) (by simp) (by rw [sizeLine_eq]; simp) fun q hq => ?_
      have lw : ws.length = i := by
        rw [← pw.length, List.length_take]
        omega
      have e1q := look_new (z := .tup ([.int r'.mark] ++ [.str r'.one, .str r'.other, .int r'.lag])) hq (look_new (z := .tup [.int r'.mark]) hp e1)
      refine ⟨ws, e1q, by rw [sizeLine_eq]; omega, ws ++ [.ref q], upd_same, ?_, ?_⟩
      · rw [take_succ_get hr]
        have nq : q ≠ Dx := (ne_of_none (look_new (z := .tup [.int r'.mark]) hp e1) hq).symm
        refine paired_snoc ⟨q, rfl, ?_⟩ (roads_kp (((KpT.new hp).trans (.new hq)).trans (.lst e1q)) pw)
        rw [upd_ne nq, upd_same]
        rfl
      · exact ((k2.trans (.new hp)).trans (.new hq)).own hD
    · obtain ⟨ws, e1, pw, k2⟩ := hv
      walk_at "go"
      rw [List.length_map, List.length_map, List.take_length] at pw
      exact k Dx ws _ pw (k1.none hD (by simp)) e1 (k1.trans k2)

def sp_need_letters : Sp := fun vs H Q _ => ∃ m : Nat, vs = [.int m] ∧ 1 ≤ m ∧ m ≤ 4 ∧ Q .non H
theorem fa_need_letters (T : Tx K mg) : FnA P w K mg base CX0 1 (He.fAd K ("need_letters", none)) 1 [] gPos sp_need_letters := by
  obtain ⟨fd, F⟩ := T.D_need_letters
  have cl_Net := T.cl_Net
  have n_Net_named := T.n_Net_named
  have n_Net_roads := T.n_Net_roads
  refine FnA.pos F (F.ok (ps := ["letters"]) sc_need_letters (fun vs H Q E h => ?_) (fun cdv A outer s H vs Q E hr h => ?_)) 1 (fun _ _ _ _ _ _ us hl => match us, hl with | [_], _ => rfl)
  · obtain ⟨_, rfl, _⟩ := h
    rfl
  · obtain ⟨m, rfl, h1, h4, k⟩ := h
    refine ⟨_, PSs.nox (pss_one (ps_if (pt_not (pt_chain op_le op_le pe_int (pv 0) (pe_glob (v := .int 4) rfl T.c_MOST_LETTERS.choose_spec ⟨_, rfl⟩))) (pss_one ps_never) pss_nil)), ?_⟩
    walk_at "go"
    refine i_dec (fun _ => ?_) (fun c => absurd c (by omega))
    walk_at "go"
    refine i_ndec (fun c => absurd (by omega) c) (fun _ => ?_)
    walk_at "go"
    exact k
def sp_need_asked (K : PySem.W.Frag) : Sp := fun vs H Q _ => ∃ n d1 d2 xs rs x y, ∃ (t m : Nat) (c : Addr) (ls : List (Nat × Nat)) (as : List V), vs = [.ref n, .str x, .str y, .int t, .int m, .ref c] ∧ NetR K H n d1 d2 xs rs ∧ x ∈ xs ∧ y ∈ xs ∧ x ≠ y ∧ t ≤ 40 ∧ 1 ≤ m ∧ m ≤ 4 ∧
  SqT K H c as ∧ Paired (LostAt H) ls as ∧ (∀ s ∈ ls, s.1 ∈ rs.map Road.mark) ∧ Q .non H
theorem fa_need_asked (T : Tx K mg) : FnA P w K mg base CX0 2 (He.fAd K ("need_asked", none)) 6 [] gPos (sp_need_asked K) := by
  obtain ⟨fd, F⟩ := T.D_need_asked
  have cl_Net := T.cl_Net
  have n_Net_named := T.n_Net_named
  have n_Net_roads := T.n_Net_roads
  refine FnA.pos F (F.ok (ps := ["net", "source", "house", "turn", "letters", "lost"]) sc_need_asked (fun vs H Q E h => ?_) (fun cdv A outer s H vs Q E hr h => ?_)) 6 (fun _ _ _ _ _ _ us hl => match us, hl with | [_, _, _, _, _, _], _ => rfl)
  · obtain ⟨_, _, _, _, _, _, _, _, _, _, _, _, rfl, _⟩ := h
    rfl
  · obtain ⟨n, d1, d2, xs, rs, x, y, t, m, c, ls, as, rfl, N, hx, hy, hxy, ht, m1, m4, hc, pl, hls, k⟩ := h
    refine ⟨_, PSs.nox (pss_cons (ps_expr (pe_o (pv 0) T.cl_Net T.m_Net_need_house (fa_Net_need_house T) (hr.mono (by decide)) pass0 (pa_cons (pv 1) pa_nil)))
    (pss_cons (ps_expr (pe_o (pv 0) T.cl_Net T.m_Net_need_house (fa_Net_need_house T) (hr.mono (by decide)) pass0 (pa_cons (pv 2) pa_nil)))
    (pss_cons (ps_if (pt_cmpR op_eq (pv 1) (pv 2) (nomark _)) (pss_one ps_never) pss_nil)
    (pss_cons (ps_if (pt_not (pt_chain op_le op_le pe_int (pv 3) (pe_glob (v := .int 40) rfl T.c_MOST_TURN.choose_spec ⟨_, rfl⟩))) (pss_one ps_never) pss_nil)
    (pss_cons (ps_expr (pe_f (fa_need_letters T) (hr.mono (by decide)) rfl T.g_need_letters pass0 (pa_cons (pv 4) pa_nil)))
    (pss_one (ps_for PassesOwn.never rfl (pi_tup (pv 5)) (pg_tup rfl (pgs_cons (pg_name (i := 6) sc_need_asked.nd rfl (Or.inl rfl)) (pgs_cons (pg_name (i := 7) sc_need_asked.nd rfl (Or.inl rfl)) pgs_nil)))
    (pss_one (ps_expr (pe_o (pv 0) T.cl_Net T.m_Net_need_line (fa_Net_need_line T) (hr.mono (by decide)) pass0 (pa_cons (pv 6) pa_nil))))))))))), ?_⟩
    obtain ⟨kvs, N, pk⟩ := N
    have N' := N
    obtain ⟨dx, hn, h1, h2, h12⟩ := N'
    walk_at "go"
    refine ⟨n, d1, d2, xs, kvs, x, rfl, N, hx, ?_⟩
    walk_at "go"
    refine ⟨n, d1, d2, xs, kvs, y, rfl, N, hy, ?_⟩
    walk_at "go"
    refine i_eqS (fun c => absurd c hxy) (fun _ => ?_)
    walk_at "go"
    refine i_dec (fun _ => ?_) (fun c => absurd c (by omega))
    walk_at "go"
    refine i_ndec (fun c => absurd (by omega) c) (fun _ => ?_)
    walk_at "go"
    refine ⟨m, rfl, m1, m4, ?_⟩
    walk_at "go"
    refine loopT (xs := as) (fun i σ H' => H' = H ∧ ∃ o1 o2, σ = [some (.ref n), some (.str x), some (.str y), some (.int t), some (.int m), some (.ref c), o1, o2]) ⟨rfl, _, _, rfl⟩ (fun i σ H' _ hv => ?_) (fun i v σ H' hi hv => ?_) (fun σ H' hv => ?_)
    · obtain ⟨rfl, _⟩ := hv
      exact hc
    · obtain ⟨rfl, o1, o2, rfl⟩ := hv
      obtain ⟨s, hs, a, rfl, ha⟩ := paired_get_r pl hi
      walk_at "go"
      refine ⟨n, d1, d2, xs, kvs, s.1, rfl, N, ?_, ?_⟩
      · rw [val_roads pk]
        exact decide_eq_true (hls s (List.mem_of_getElem? hs))
      walk_at "go"
      exact ⟨rfl, _, _, rfl⟩
    · obtain ⟨rfl, o1, o2, rfl⟩ := hv
      walk_at "go"
      exact k

/-! ### the sendings -/
def SpotAt (H : Hp) (p : Spot) (v : V) : Prop := ∃ a, v = .ref a ∧ H a = some (.tup [.str p.1, .int p.2])
theorem SpotAt.kp {H H' : Hp} (k : KpT H H') {r : Spot} {v : V} (h : SpotAt H r v) : SpotAt H' r v := by
  obtain ⟨a, e, h⟩ := h
  exact ⟨a, e, k _ _ h⟩
def SndAt (H : Hp) (s : Snd) (v : V) : Prop := ∃ a k e g, v = .ref a ∧ H a = some (.tup [.ref k, e, g]) ∧ H k = some (.tup [.int s.mark, .int s.mom]) ∧ SpotAt H s.early e ∧ SpotAt H s.end_ g
theorem SndAt.kp {H H' : Hp} (k : KpT H H') {r : Snd} {v : V} (h : SndAt H r v) : SndAt H' r v := by
  obtain ⟨a, b, e, g, h1, h2, h3, h4, h5⟩ := h
  exact ⟨a, b, e, g, h1, k _ _ h2, k _ _ h3, h4.kp k, h5.kp k⟩
def lostD (s : Nat × Nat) : PyData := .tuple [.int s.1, .int s.2]
theorem lost_dp {H : Hp} : ∀ {ls : List (Nat × Nat)} {vs : List V}, Paired (LostAt H) ls vs → DpAll K H vs (ls.map lostD)
  | _, _, .nil => .nil
  | _, _, .cons ⟨a, e, h⟩ t => .cons (by rw [e]; exact .tup (.of h) (.cons (.int _) (.cons (.int _) .nil))) (lost_dp t)
theorem lost_lay : ∀ {ls : List (Nat × Nat)}, PyData.canLayAll0 (ls.map lostD) = true
  | [] => rfl
  | r :: rs => by
    have ih := lost_lay (ls := rs)
    rw [List.map_cons]
    unfold PyData.canLayAll0
    rw [ih]
    simp [lostD, PyData.canLay0, PyData.canLayAll0]
theorem lost_depth : ∀ {ls : List (Nat × Nat)}, PyData.depthAll (ls.map lostD) ≤ 1
  | [] => by simp [PyData.depthAll]
  | r :: rs => by
    have ih := lost_depth (ls := rs)
    rw [List.map_cons]
    unfold PyData.depthAll
    have : PyData.depth (lostD r) = 1 := by simp [lostD, PyData.depth, PyData.depthAll]
    omega
theorem lost_shaped {ls : List (Nat × Nat)} : SeqAt.shaped (.tuple (ls.map lostD)) = true := by
  unfold SeqAt.shaped
  have h1 : PyData.canLay0 (.tuple (ls.map lostD)) = true := by
    unfold PyData.canLay0
    exact lost_lay
  have h2 : PyData.depth (.tuple (ls.map lostD)) ≤ 64 := by
    unfold PyData.depth
    have := lost_depth (ls := ls)
    omega
  rw [h1, decide_eq_true h2]
  rfl
theorem lost_one {s : Nat × Nat} : SeqAt.shaped (lostD s) = true := by
  simp [SeqAt.shaped, lostD, PyData.canLay0, PyData.canLayAll0, PyData.depth, PyData.depthAll]
theorem lost_any {ls : List (Nat × Nat)} {s : Nat × Nat} : ((ls.map lostD).any fun z => PyData.eqv z (lostD s)) = ls.contains s := by
  induction ls with
  | nil => rfl
  | cons a l ih =>
    rw [List.map_cons, List.any_cons, ih, List.contains_cons]
    congr 1
    obtain ⟨a1, a2⟩ := a
    obtain ⟨s1, s2⟩ := s
    rw [Bool.eq_iff_iff]
    simp only [lostD, PyData.eqv, PyData.eqvAll, Bool.and_true, Bool.and_eq_true, beq_iff_eq, Prod.mk.injEq]
    omega
def sp_sendings (K : PySem.W.Frag) : Sp := fun vs H Q _ => ∃ n d1 d2 xs rs rs0, ∃ (t : Nat) (c : Addr) (ls : List (Nat × Nat)) (as : List V), vs = [.ref n, .int t, .ref c] ∧ NetR K H n d1 d2 xs rs ∧ rs.length ≤ 30 ∧ rs.Perm rs0 ∧ ByMark rs0 ∧ t ≤ 40 ∧ (∀ r ∈ rs0, 1 ≤ r.lag ∧ r.lag ≤ 4) ∧
  SqT K H c as ∧ Paired (LostAt H) ls as ∧ ∀ p ws H', Paired (SndAt H') (sndsOf rs0 t ls) ws → H p = none → H' p = some (.lst ws) → Kp [] H H' → Q (.ref p) H'
theorem fa_sendings (T : Tx K mg) : FnA P w K mg base CX0 3 (He.fAd K ("sendings", none)) 3 [] gPos (sp_sendings K) := by
  obtain ⟨fd, F⟩ := T.D_sendings
  have cl_Net := T.cl_Net
  have n_Net_named := T.n_Net_named
  have n_Net_roads := T.n_Net_roads
  refine FnA.pos F (F.ok (ps := ["net", "turn", "lost"]) sc_sendings (fun vs H Q E h => ?_) (fun cdv A outer s H vs Q E hr h => ?_)) 3 (fun _ _ _ _ _ _ us hl => match us, hl with | [_, _, _], _ => rfl)
  · obtain ⟨_, _, _, _, _, _, _, _, _, _, rfl, _⟩ := h
    rfl
  · obtain ⟨n, d1, d2, xs, rs, rs0, t, c, ls, as, rfl, N, hl, pm, hby, ht, hlag, hc, pl, k⟩ := h
    refine ⟨_, PSs.nox (pss_cons (ps_set (i := 3) sc_sendings.nd rfl (Or.inl rfl) (pe_lst pa_nil))
    (pss_cons (ps_for PassesOwn.never rfl (pi_list (pe_o0 (pv 0) T.cl_Net T.m_Net_lines (fa_Net_lines T) (hr.mono (by decide)) pass0)) (pg_tup rfl (pgs_cons (pg_name (i := 4) sc_sendings.nd rfl (Or.inl rfl)) (pgs_cons (pg_name (i := 5) sc_sendings.nd rfl (Or.inl rfl)) (pgs_cons (pg_name (i := 6) sc_sendings.nd rfl (Or.inl rfl)) (pgs_cons (pg_name (i := 7) sc_sendings.nd rfl (Or.inl rfl)) pgs_nil)))))
    (pss_one (ps_for PassesOwn.never rfl (pi_range1 rfl T.z_range (pa_cons (pe_op op_add (pe_op op_sub (pv 1) (pv 7)) pe_int) pa_nil)) (pg_name (i := 8) sc_sendings.nd rfl (Or.inl rfl))
    (pss_one (ps_if (pt_cmpR (op_notInDT (hu65 hr)) (pe_tup (pa_cons (pv 4) (pa_cons (pv 8) pa_nil))) (pv 2) rfl) (pss_one (ps_expr (pe_bm PySem.F.plainAttrs_list PySem.F.slot_list_append PySem.F.type_list_append mt_append (pv 3) (pa_cons (pe_tup (pa_cons (pe_tup (pa_cons (pv 4) (pa_cons (pv 8) pa_nil))) (pa_cons (pe_tup (pa_cons (pv 5) (pa_cons (pv 8) pa_nil))) (pa_cons (pe_tup (pa_cons (pv 6) (pa_cons (pe_op op_add (pv 8) (pv 7)) pa_nil))) pa_nil)))) pa_nil)))) pss_nil)))))
    (pss_one (ps_ret (pv 3))))), ?_⟩
    walk_at "go"
    intro p hp
    walk_at "go"
    have k1 : Kp [] H (upd H p (.lst [])) := .new hp
    have N1 := N.kp k1 (.of k1 (by simp)) (by simp) (by simp) (by simp)
    have N1' := N1
    obtain ⟨kvs, ⟨dx, hn, h1, h2, h12⟩, pk⟩ := N1'
    walk_at "go"
    refine ⟨n, d1, d2, xs, rs, rs0, rfl, N1, hl, pm, hby, fun q ws H2 pr hq eq k2 => ?_⟩
    have ep2 := k2 p (.lst []) upd_same (by simp)
    have npq : p ≠ q := ne_of_none (H := upd H p (.lst [])) upd_same hq
    have hrl := pm.length_eq
    have hrw := pr.length
    have k02 : Kp [] H H2 := k1.trans k2
    walk_at "go"
    refine loopL (xs := ws) (fun i σ H' => ∃ (o4 o5 o6 o7 o8 : Option V) (vs : List V), σ = [some (.ref n), some (.int t), some (.ref c), some (.ref p), o4, o5, o6, o7, o8] ∧ H' p = some (.lst vs) ∧ Paired (SndAt H') (sndsOf (rs0.take i) t ls) vs ∧ Kp [p] H2 H') ?_ (fun i σ H' _ hv => ?_) (fun i v σ H' hi hv => ?_) (fun σ H' hv => ?_)
    · exact ⟨_, _, _, _, _, [], rfl, ep2, .nil, .refl⟩
    · obtain ⟨_, _, _, _, _, vs, rfl, e1, pw, k3⟩ := hv
      exact .of (k3 _ _ eq (ni1 npq.symm))
    · obtain ⟨_, _, _, _, _, vs, rfl, e1, pw, k3⟩ := hv
      obtain ⟨r, hr, a, rfl, ha⟩ := paired_get_r pr hi
      have kt3 : KpT H2 H' := .of1 k3 ep2 fun ys e => by cases e
      have ha3 := kt3 _ _ ha
      obtain ⟨g1, g4⟩ := hlag r (List.mem_of_getElem? hr)
      have hi' := (List.getElem?_eq_some_iff.mp hr).1
      have hlen := len_sndsOf (t := t) (ls := ls) (rs := rs0.take i)
      have hm : (rs0.take i).length * (t + 1) ≤ 30 * 41 := Nat.mul_le_mul (by rw [List.length_take]; omega) (by omega)
      walk_at "go"
      refine ⟨by omega, by omega, ?_⟩
      refine loopR (fun j σ H4 => ∃ (o8 : Option V) (vs : List V), σ = [some (.ref n), some (.int t), some (.ref c), some (.ref p), some (.int r.mark), some (.str r.one), some (.str r.other), some (.int r.lag), o8] ∧ H4 p = some (.lst vs) ∧ Paired (SndAt H4) (sndsOf (rs0.take i) t ls ++ snds1 r ls j) vs ∧ Kp [p] H2 H4) ?_ (fun j σ H4 hj hv => ?_) (fun σ H4 hv => ?_)
      · refine ⟨_, vs, rfl, e1, ?_, k3⟩
        have : snds1 r ls 0 = [] := rfl
        rw [this, List.append_nil]
        exact pw
      · obtain ⟨o8, vs4, rfl, e4, pw4, k4⟩ := hv
        have kt4 : KpT H2 H4 := .of1 k4 ep2 fun ys e => by cases e
        have hc2 : SqT K H2 c as := k02.seqT hc (by simp)
        have pl4 : Paired (LostAt H4) ls as := paired_imp (fun _ _ => LostAt.kp ((KpT.of k02 (by simp)).trans kt4)) pl
        have hlen4 : vs4.length = (sndsOf (rs0.take i) t ls ++ snds1 r ls j).length := pw4.length.symm
        have hl1 := len_snds1 (r := r) (ls := ls) (n := j)
        rw [List.length_append] at hlen4
        have hj' : j < t + 1 - r.lag := by omega
        have hc4 : SqT K H4 c as := by
          rcases hc2 with (h | ⟨o, h⟩) | h
          · exact .of (kt4 _ _ h)
          · refine .inl (.inr ⟨o, k4 _ _ h ?_⟩)
            intro z
            rw [List.mem_singleton.mp z, ep2] at h
            cases h
          · exact .inr h
        walk_at "go"
        intro u hu
        have hcu : SqT K (upd H4 u (.tup [.int r.mark, .int (0 + (j : Int))])) c as := (Kp.new (S := []) hu).seqT hc4 (by simp)
        walk_at "go"
        rw [Int.zero_add] at *
        refine z_notInDT (d := lostD (r.mark, j)) (.tup (.of upd_same) (.cons (.int _) (.cons (.int _) .nil))) (.tup hcu (lost_dp (paired_imp (fun _ _ => LostAt.kp (.new hu)) pl4))) lost_one lost_shaped ?_
        rw [lost_any]
        have eu := look_new (z := .tup [.int r.mark, .int (j : Int)]) hu e4
        have ku : Kp [p] H2 (upd H4 u (.tup [.int r.mark, .int (j : Int)])) := k4.trans (.new hu)
        have pwu := paired_imp (fun _ _ => SndAt.kp (KpT.new (o := .tup [.int r.mark, .int (j : Int)]) hu)) pw4
        generalize upd H4 u (.tup [.int r.mark, .int (j : Int)]) = H5 at *
        cases ec : ls.contains (r.mark, j) with
        | true =>
          refine ⟨_, rfl, iteNF (z_next ?_)⟩
          refine ⟨_, vs4, rfl, eu, ?_, ku⟩
          rw [snds1_succ, if_pos ec, List.append_nil]
          exact pwu
        | false =>
          walk_at "go"
          intro a1 h1
          have eu1 := look_new (z := .tup [.int r.mark, .int (j : Int)]) h1 eu
          walk_at "go"
          intro a2 h2'
          have eu2 := look_new (z := .tup [.str r.one, .int (j : Int)]) h2' eu1
          walk_at "go"
          intro a3 h3
          have eu3 := look_new (z := .tup [.str r.other, .int ((j : Int) + r.lag)]) h3 eu2
          walk_at "go"
          intro a4 h4
          have eu4 := look_new (z := .tup [.ref a1, .ref a2, .ref a3]) h4 eu3
          refine z_nil (z_append eu4 ?_ ?_)
          · rw [sizeLine_eq]
            omega
          have q1 : KpT H5 (upd (upd (upd (upd H5 a1 (.tup [.int r.mark, .int (j : Int)])) a2 (.tup [.str r.one, .int (j : Int)])) a3 (.tup [.str r.other, .int ((j : Int) + r.lag)])) a4 (.tup [.ref a1, .ref a2, .ref a3])) := ((KpT.new h1).trans (.new h2')).trans ((KpT.new h3).trans (.new h4))
          refine ⟨_, vs4 ++ [.ref a4], rfl, upd_same, ?_, ?_⟩
          · rw [snds1_succ, if_neg (by rw [ec]; decide), ← List.append_assoc]
            refine paired_snoc ?_ (paired_imp (fun _ _ => SndAt.kp (q1.trans (.lst eu4))) pwu)
            refine SndAt.kp (.lst eu4) ⟨a4, a1, .ref a2, .ref a3, rfl, upd_same, ?_, ⟨a2, rfl, ?_⟩, ⟨a3, rfl, ?_⟩⟩
            · exact look_new h4 (look_new h3 (look_new h2' upd_same))
            · exact look_new h4 (look_new h3 upd_same)
            · refine (look_new h4 upd_same).trans ?_
              show some (HO.tup [.str r.other, .int ((j : Int) + r.lag)]) = some (HO.tup [.str r.other, .int ((j + r.lag : Nat) : Int)])
              push_cast
              rfl
          · exact ((((ku.trans (.new h1)).trans (.new h2')).trans (.new h3)).trans (.new h4)).trans (.mut (by simp))
      · obtain ⟨o8, vs4, rfl, e4, pw4, k4⟩ := hv
        refine ⟨_, _, _, _, _, vs4, rfl, e4, ?_, k4⟩
        rw [take_succ_get hr, sndsOf_snoc]
        have : ((t : Int) - (r.lag : Int) + 1).toNat = t + 1 - r.lag := by omega
        rw [this] at pw4
        exact pw4
    · obtain ⟨_, _, _, _, _, vs, rfl, e1, pw, k3⟩ := hv
      walk_at "go"
      rw [← hrw, List.take_length] at pw
      exact k p vs _ pw hp e1 (k02.fresh k3 fun a m => .inl (by rw [List.mem_singleton.mp m]; exact hp))

/-! ### one step of the way back -/
def StepAt (H : Hp) (st : Option (List Key)) (v : V) : Prop := match st with
  | none => v = .non
  | some k => ∃ a, v = .ref a ∧ H a = some (.tup (k.map kV))
theorem StepAt.kp {H H' : Hp} (k : KpT H H') {st : Option (List Key)} {v : V} (h : StepAt H st v) : StepAt H' st v := by
  cases st with
  | none => exact h
  | some s =>
    obtain ⟨a, e, h⟩ := h
    exact ⟨a, e, k _ _ h⟩
def spotD (p : Spot) : PyData := .tuple [.str p.1, .int p.2]
theorem spot_dp {H : Hp} {p : Spot} {a : Addr} (h : H a = some (.tup [.str p.1, .int p.2])) : Dp K H (.ref a) (spotD p) := .tup (.of h) (.cons (.str _) (.cons (.int _) .nil))
theorem spot_alike {p q : Spot} : PySem.W.alike (spotD p) (spotD q) = true := by simp [spotD, PySem.W.alike, PySem.W.alikeAll]
theorem spot_depth {p : Spot} : (spotD p).depth = 1 := by simp [spotD, PyData.depth, PyData.depthAll]
theorem spot_lt {x : Str} {m n : Nat} : PySem.W.dataLt (spotD (x, m)) (spotD (x, n)) = decide (m < n) := by
  unfold spotD
  rw [lt_spot]
  congr 1
  simp
def sp_taken : Sp := fun vs H Q _ => ∃ L t u kv st a b sv, ∃ (ha hb : Addr), vs = [.ref u, sv, .ref ha, .ref hb] ∧ H u = some (.dT kv) ∧ StepAt H st sv ∧ H ha = some (.tup [.str a.1, .int a.2]) ∧ H hb = some (.tup [.str b.1, .int b.2]) ∧ SndsOk L t ∧ UsedOk L t kv ∧ Arc L t kv a st b ∧ kv.length ≤ 5000 ∧
  ∀ H', H' u = some (.dT (along kv st a b)) → Kp [u] H H' → Q .non H'
theorem fa_taken_along (T : Tx K mg) : FnA P w K mg base CX0 1 (He.fAd K ("taken_along", none)) 4 [] gPos sp_taken := by
  obtain ⟨fd, F⟩ := T.D_taken_along
  have cl_Net := T.cl_Net
  have n_Net_named := T.n_Net_named
  have n_Net_roads := T.n_Net_roads
  refine FnA.pos F (F.ok (ps := ["used", "step", "here", "goal"]) sc_taken_along (fun vs H Q E h => ?_) (fun cdv A outer s H vs Q E hr h => ?_)) 4 (fun _ _ _ _ _ _ us hl => match us, hl with | [_, _, _, _], _ => rfl)
  · obtain ⟨_, _, _, _, _, _, _, _, _, _, rfl, _⟩ := h
    rfl
  · obtain ⟨L, t, u, kv, st, a, b, sv, ha, hb, rfl, hu, hst, ea, eb, hL, U, A, hlen, k⟩ := h
    refine ⟨_, PSs.nox (pss_one (ps_if (pt_cmpR op_eq (pe_ix ix_tup (pv 2) pe_int (fun _ _ => rfl)) (pe_ix ix_tup (pv 3) pe_int (fun _ _ => rfl)) (nomark _)) (pss_cons (ps_set (i := 4) sc_taken_along.nd rfl (Or.inl rfl) (pe_callB (call_min2D rfl (hu64 hr)) (by rfl) T.z_min (by decide +kernel) (pa_cons (pv 2) (pa_cons (pv 3) pa_nil))))
    (pss_one (ps_dput (hu_of hr) (pv 0) (pv 4) (pe_op op_add (pe_dget2 (hu_of hr) (pv 0) (pv 4) pe_int ⟨by rfl, by rfl, by rfl, by rfl⟩) (pe_ifExp (pt_cmpR (op_ltD (hu64 hr)) (pv 2) (pv 3) (nomark _)) pe_int (pe_un un_neg pe_int))) rfl))) (pss_one (ps_if (pt_cmp (pc_din (hu_of hr) (pv 1) (pv 0)) rfl) (pss_one (ps_expr (pe_bm PySem.F.plainAttrs_dict PySem.F.slot_dict_pop PySem.F.type_dict_pop (mt_popT1 (hu_of hr)) (pv 0) (pa_cons (pv 1) pa_nil)))) (pss_one (ps_dput (hu_of hr) (pv 0) (pv 1) pe_int rfl)))))), ?_⟩
    obtain ⟨x, m⟩ := a
    obtain ⟨y, n⟩ := b
    have sz : kv.length < sizeLine := by
      rw [sizeLine_eq]
      omega
    walk_at "go"
    refine i_eqS (fun c => ?_) (fun c => ?_)
    · obtain rfl : x = y := c
      have hlt : m < n ∨ n < m := arc_lt hL A rfl
      walk_at "go"
      refine z_min2D (spot_dp (p := (x, m)) ea) (spot_dp (p := (x, n)) eb) ?_ ?_ ?_
      · refine ⟨fun d hd e he => ?_, fun d hd => ?_⟩
        · simp only [List.mem_cons, List.not_mem_nil, or_false] at hd he
          rcases hd with rfl | rfl <;> rcases he with rfl | rfl <;> exact spot_alike
        · simp only [List.mem_cons, List.not_mem_nil, or_false] at hd
          rcases hd with rfl | rfl <;> simp [spotD]
      · simp [PyData.depthAll, spot_depth]
      rw [spot_lt]
      rcases hlt with c | c
      · rw [decide_eq_false (show ¬ n < m by omega), if_neg (by decide)]
        walk_at "go"
        refine z_getdq (DGet.t (k := spotKey (x, m)) hu ea) ?_
        rw [valI_get U]
        walk_at "go"
        refine z_ltD (spot_dp (p := (x, m)) ea) (spot_dp (p := (x, n)) eb) spot_alike (by simp [spotD]) (by simp [spot_depth]) ?_
        rw [spot_lt, decide_eq_true c]
        walk_at "go"
        refine z_dputq (DPut.t (k := spotKey (x, m)) hu ea sz) ?_
        refine k _ ?_ (.mut (by simp))
        rw [upd_same]
        unfold along
        rw [if_pos rfl, if_pos c, if_pos c]
      · rw [decide_eq_true c, if_pos rfl]
        walk_at "go"
        refine z_getdq (DGet.t (k := spotKey (x, n)) hu eb) ?_
        rw [valI_get U]
        walk_at "go"
        refine z_ltD (spot_dp (p := (x, m)) ea) (spot_dp (p := (x, n)) eb) spot_alike (by simp [spotD]) (by simp [spot_depth]) ?_
        rw [spot_lt, decide_eq_false (show ¬ m < n by omega)]
        walk_at "go"
        refine z_dputq (DPut.t (k := spotKey (x, n)) hu eb sz) ?_
        refine k _ ?_ (.mut (by simp))
        rw [upd_same]
        unfold along
        rw [if_pos rfl, if_neg (show ¬ m < n by omega), if_neg (show ¬ m < n by omega)]
    · obtain ⟨ks, rfl⟩ := arc_step A c
      obtain ⟨z, rfl, ez⟩ := hst
      walk_at "go"
      refine z_dinq (DGet.t (k := ks) hu ez) ?_
      cases e : valV kv ks with
      | some v =>
        rw [Option.isSome_some]
        walk_at "go"
        refine z_popT hu ez e ?_
        walk_at "go"
        refine k _ ?_ (.mut (by simp))
        rw [upd_same]
        unfold along
        rw [if_neg c]
        show _ = some (HO.dT (if (valV kv ks).isSome = true then _ else _))
        rw [e]
        rfl
      | none =>
        rw [Option.isSome_none]
        walk_at "go"
        refine z_dputq (DPut.t (k := ks) hu ez sz) ?_
        refine k _ ?_ (.mut (by simp))
        rw [upd_same]
        unfold along
        rw [if_neg c]
        show _ = some (HO.dT (if (valV kv ks).isSome = true then _ else _))
        rw [e]
        rfl

/-! ### the steps from a spot -/
abbrev Step1 := Option (List Key) × Spot
def OnwAt (H : Hp) (e : Step1) (w : V) : Prop := ∃ c sv gv, w = .ref c ∧ H c = some (.tup [sv, gv]) ∧ StepAt H e.1 sv ∧ SpotAt H e.2 gv
theorem OnwAt.kp {H H' : Hp} (k : KpT H H') {e : Step1} {w : V} (h : OnwAt H e w) : OnwAt H' e w := by
  obtain ⟨c, sv, gv, h1, h2, h3, h4⟩ := h
  exact ⟨c, sv, gv, h1, k _ _ h2, h3.kp k, h4.kp k⟩
def pick1 (l : List (Spot × Step1)) (p : Spot) : List Step1 := (l.filter fun e => decide (e.1 = p)).map (·.2)
theorem mem_pick1 {l : List (Spot × Step1)} {p : Spot} {e : Step1} : e ∈ pick1 l p ↔ (p, e) ∈ l := by
  unfold pick1
  simp only [List.mem_map, List.mem_filter, decide_eq_true_eq]
  constructor
  · rintro ⟨⟨q, e'⟩, ⟨h1, h2⟩, rfl⟩
    have : q = p := h2
    subst this
    exact h1
  · intro h
    exact ⟨(p, e), ⟨h, rfl⟩, rfl⟩
theorem len_pick1 {l : List (Spot × Step1)} {p : Spot} : (pick1 l p).length ≤ l.length := by
  unfold pick1
  rw [List.length_map]
  exact List.length_filter_le ..
/-- a dict of lists of steps -/
def Tab (H : Hp) (d : Addr) (l : List (Spot × Step1)) : Prop := ∃ kvs, H d = some (.dT kvs) ∧ kvs.length ≤ l.length ∧ ∀ p : Spot,
  (∃ a ws, valV kvs (spotKey p) = some (.ref a) ∧ H a = some (.lst ws) ∧ Paired (OnwAt H) (pick1 l p) ws) ∨ (valV kvs (spotKey p) = none ∧ pick1 l p = [])
theorem Tab.kp {H H' : Hp} {d : Addr} {l : List (Spot × Step1)} (T : Tab H d l) (k : Kp [] H H') : Tab H' d l := by
  obtain ⟨kvs, h1, h2, h3⟩ := T
  refine ⟨kvs, k _ _ h1 (by simp), h2, fun p => ?_⟩
  rcases h3 p with ⟨a, ws, g1, g2, g3⟩ | g
  · exact .inl ⟨a, ws, g1, k _ _ g2 (by simp), paired_imp (fun _ _ => OnwAt.kp (.of k (by simp))) g3⟩
  · exact .inr g
def outs (L : List Snd) : List (Spot × Step1) := L.map fun s => (s.early, (some s.key, s.end_))
def ins (L : List Snd) : List (Spot × Step1) := L.map fun s => (s.end_, (some s.key, s.early))
theorem filter_take {α : Type} {f : α → Bool} {xs : List α} {i : Nat} {x : α} (h : xs[i]? = some x) : (xs.take (i + 1)).filter f = (xs.take i).filter f ++ if f x = true then [x] else [] := by
  rw [take_succ_get h, List.filter_append]
  congr 1
  cases e : f x <;> simp [e]
def unused (kv : Kvs) (e : Step1) : Bool := !(valV kv (e.1.getD [])).isSome
def inused (kv : Kvs) (e : Step1) : Bool := (valV kv (e.1.getD [])).isSome
def first1 (t : Nat) (a : Spot) : List Step1 := if a.2 < t then [(none, (a.1, a.2 + 1))] else []
def last1 (kv : Kvs) (a : Spot) : List Step1 := if 0 < a.2 ∧ 0 < valI kv (spotKey (a.1, a.2 - 1)) then [(some (spotKey (a.1, a.2 - 1)), (a.1, a.2 - 1))] else []
def arcs (L : List Snd) (t : Nat) (kv : Kvs) (a : Spot) : List Step1 := first1 t a ++ (pick1 (outs L) a).filter (unused kv) ++ (pick1 (ins L) a).filter (inused kv) ++ last1 kv a
theorem arcs_ok {L : List Snd} {t : Nat} {kv : Kvs} {a : Spot} (U : UsedOk L t kv) : (∀ e ∈ arcs L t kv a, Arc L t kv a e.1 e.2) ∧ ∀ st g, Arc L t kv a st g → (st, g) ∈ arcs L t kv a := by
  constructor
  · intro e he
    unfold arcs at he
    rw [List.mem_append, List.mem_append, List.mem_append] at he
    rcases he with ((h | h) | h) | h
    · unfold first1 at h
      by_cases c : a.2 < t
      · rw [if_pos c] at h
        rw [List.mem_singleton.mp h]
        exact .wait c
      · rw [if_neg c] at h
        cases h
    · obtain ⟨h1, h2⟩ := List.mem_filter.mp h
      obtain ⟨s, hs, z⟩ := List.mem_map.mp (mem_pick1.mp h1)
      cases z
      unfold unused at h2
      refine .go hs ?_
      simpa using h2
    · obtain ⟨h1, h2⟩ := List.mem_filter.mp h
      obtain ⟨s, hs, z⟩ := List.mem_map.mp (mem_pick1.mp h1)
      cases z
      exact .back hs h2
    · unfold last1 at h
      by_cases c : 0 < a.2 ∧ 0 < valI kv (spotKey (a.1, a.2 - 1))
      · rw [if_pos c] at h
        rw [List.mem_singleton.mp h]
        obtain ⟨x, m⟩ := a
        obtain ⟨c1, c2⟩ := c
        obtain ⟨m', rfl⟩ : ∃ m', m = m' + 1 := ⟨m - 1, by have : 0 < m := c1; omega⟩
        have c2' : 0 < valI kv (spotKey (x, m')) := c2
        unfold valI at c2'
        cases ev : valV kv (spotKey (x, m')) with
        | none =>
          rw [ev] at c2'
          exact absurd c2' (by decide)
        | some v =>
          rw [ev] at c2'
          rcases U.ok _ (valV_mem ev) with ⟨s, _, z, _⟩ | ⟨_, _, n, _, _, z⟩
          · exact absurd z.symm key_spot
          · have : v = .int n := z
            subst this
            have : 0 < (n : Int) := c2'
            exact .undo ev (by omega)
      · rw [if_neg c] at h
        cases h
  · intro st g A
    unfold arcs
    rw [List.mem_append, List.mem_append, List.mem_append]
    cases A with
    | wait hm =>
      refine .inl (.inl (.inl ?_))
      unfold first1
      rw [if_pos hm]
      simp
    | go hs hv =>
      refine .inl (.inl (.inr (List.mem_filter.mpr ⟨mem_pick1.mpr (List.mem_map.mpr ⟨_, hs, rfl⟩), ?_⟩)))
      unfold unused
      show (!(valV kv _).isSome) = true
      rw [Option.getD_some, hv]
      rfl
    | back hs hv => exact .inl (.inr (List.mem_filter.mpr ⟨mem_pick1.mpr (List.mem_map.mpr ⟨_, hs, rfl⟩), hv⟩))
    | @undo x m c hv hc =>
      refine .inr ?_
      unfold last1
      have h0 : 0 < valI kv (spotKey (x, m)) := by
        unfold valI
        rw [hv]
        show (0 : Int) < c
        omega
      rw [if_pos ⟨Nat.succ_pos _, h0⟩]
      exact List.mem_singleton.mpr rfl
theorem arcs_len {L : List Snd} {t : Nat} {kv : Kvs} {a : Spot} : (arcs L t kv a).length ≤ 2 * L.length + 2 := by
  unfold arcs
  have h1 : (first1 t a).length ≤ 1 := by unfold first1; split <;> simp
  have h2 : (last1 kv a).length ≤ 1 := by unfold last1; split <;> simp
  have h3 : ((pick1 (outs L) a).filter (unused kv)).length ≤ L.length := Nat.le_trans (List.length_filter_le ..) (Nat.le_trans len_pick1 (by simp [outs]))
  have h4 : ((pick1 (ins L) a).filter (inused kv)).length ≤ L.length := Nat.le_trans (List.length_filter_le ..) (Nat.le_trans len_pick1 (by simp [ins]))
  simp only [List.length_append]
  omega
theorem outs_some {L : List Snd} {p : Spot} {e : Step1} (h : e ∈ pick1 (outs L) p) : ∃ k, e.1 = some k := by
  obtain ⟨s, hs, z⟩ := List.mem_map.mp (mem_pick1.mp h)
  cases z
  exact ⟨_, rfl⟩
theorem ins_some {L : List Snd} {p : Spot} {e : Step1} (h : e ∈ pick1 (ins L) p) : ∃ k, e.1 = some k := by
  obtain ⟨s, hs, z⟩ := List.mem_map.mp (mem_pick1.mp h)
  cases z
  exact ⟨_, rfl⟩
def sp_onward : Sp := fun vs H Q _ => ∃ L t d1 d2 u kv a, ∃ (ha : Addr), vs = [.ref ha, .int (t : Nat), .ref d1, .ref d2, .ref u] ∧ H ha = some (.tup [.str a.1, .int (a.2 : Nat)]) ∧ Tab H d1 (outs L) ∧ Tab H d2 (ins L) ∧ H u = some (.dT kv) ∧ UsedOk L t kv ∧ L.length ≤ 2000 ∧
  ∀ p ws H', Paired (OnwAt H') (arcs L t kv a) ws → H p = none → H' p = some (.lst ws) → Kp [] H H' → Q (.ref p) H'
theorem fa_onward (T : Tx K mg) : FnA P w K mg base CX0 1 (He.fAd K ("onward", none)) 5 [] gPos sp_onward := by
  obtain ⟨fd, F⟩ := T.D_onward
  have cl_Net := T.cl_Net
  have n_Net_named := T.n_Net_named
  have n_Net_roads := T.n_Net_roads
  refine FnA.pos F (F.ok (ps := ["spot", "turn", "leaving", "coming", "used"]) sc_onward (fun vs H Q E h => ?_) (fun cdv A outer s H vs Q E hr h => ?_)) 5 (fun _ _ _ _ _ _ us hl => match us, hl with | [_, _, _, _, _], _ => rfl)
  · obtain ⟨_, _, _, _, _, _, _, _, rfl, _⟩ := h
    rfl
  · obtain ⟨L, t, d1, d2, u, kv, a, ha, rfl, ea, T1, T2, hu, U, hL, k⟩ := h
    refine ⟨_, PSs.nox (pss_cons (ps_asg (pv 0) (pg_tup rfl (pgs_cons (pg_name (i := 5) sc_onward.nd rfl (Or.inl rfl)) (pgs_cons (pg_name (i := 6) sc_onward.nd rfl (Or.inl rfl)) pgs_nil))))
    (pss_cons (ps_set (i := 7) sc_onward.nd rfl (Or.inl rfl) (pe_lst pa_nil))
    (pss_cons (ps_if (pt_cmpR op_lt (pv 6) (pv 1) (nomark _)) (pss_one (ps_expr (pe_bm PySem.F.plainAttrs_list PySem.F.slot_list_append PySem.F.type_list_append mt_append (pv 7) (pa_cons (pe_tup (pa_cons pe_non (pa_cons (pe_tup (pa_cons (pv 5) (pa_cons (pe_op op_add (pv 6) pe_int) pa_nil))) pa_nil))) pa_nil)))) pss_nil)
    (pss_cons (ps_for PassesOwn.never rfl (pi_list (pe_dget2 (hu_of hr) (pv 2) (pv 0) (pe_lst pa_nil) ⟨by rfl, by rfl, by rfl, by rfl⟩)) (pg_tup rfl (pgs_cons (pg_name (i := 8) sc_onward.nd rfl (Or.inl rfl)) (pgs_cons (pg_name (i := 9) sc_onward.nd rfl (Or.inl rfl)) pgs_nil)))
    (pss_one (ps_if (pt_cmp (pc_dnotin (hu_of hr) (pv 8) (pv 4)) rfl) (pss_one (ps_expr (pe_bm PySem.F.plainAttrs_list PySem.F.slot_list_append PySem.F.type_list_append mt_append (pv 7) (pa_cons (pe_tup (pa_cons (pv 8) (pa_cons (pv 9) pa_nil))) pa_nil)))) pss_nil)))
    (pss_cons (ps_for PassesOwn.never rfl (pi_list (pe_dget2 (hu_of hr) (pv 3) (pv 0) (pe_lst pa_nil) ⟨by rfl, by rfl, by rfl, by rfl⟩)) (pg_tup rfl (pgs_cons (pg_name (i := 8) sc_onward.nd rfl (Or.inl rfl)) (pgs_cons (pg_name (i := 10) sc_onward.nd rfl (Or.inl rfl)) pgs_nil)))
    (pss_one (ps_if (pt_cmp (pc_din (hu_of hr) (pv 8) (pv 4)) rfl) (pss_one (ps_expr (pe_bm PySem.F.plainAttrs_list PySem.F.slot_list_append PySem.F.type_list_append mt_append (pv 7) (pa_cons (pe_tup (pa_cons (pv 8) (pa_cons (pv 10) pa_nil))) pa_nil)))) pss_nil)))
    (pss_cons (ps_if (PW.pt (pw_and (pt_cmpR op_gt (pv 6) pe_int (nomark _)) (pw_and1 (pt_cmpR op_gt (pe_dget2 (hu_of hr) (pv 4) (pe_tup (pa_cons (pv 5) (pa_cons (pe_op op_sub (pv 6) pe_int) pa_nil))) pe_int ⟨by rfl, by rfl, by rfl, by rfl⟩) pe_int (nomark _))))) (pss_one (ps_expr (pe_bm PySem.F.plainAttrs_list PySem.F.slot_list_append PySem.F.type_list_append mt_append (pv 7) (pa_cons (pe_tup (pa_cons (pe_tup (pa_cons (pv 5) (pa_cons (pe_op op_sub (pv 6) pe_int) pa_nil))) (pa_cons (pe_tup (pa_cons (pv 5) (pa_cons (pe_op op_sub (pv 6) pe_int) pa_nil))) pa_nil))) pa_nil)))) pss_nil)
    (pss_one (ps_ret (pv 7))))))))), ?_⟩
    obtain ⟨x, m⟩ := a
    walk_at "go"
    intro q hq
    walk_at "go"
    have k0 : Kp [] H (upd H q (.lst [])) := .new hq
    refine cutI (P := fun σ H' => ∃ vs, σ = [some (.ref ha), some (.int t), some (.ref d1), some (.ref d2), some (.ref u), some (.str x), some (.int m), some (.ref q), none, none, none] ∧ H' q = some (.lst vs) ∧ Paired (OnwAt H') (first1 t (x, m)) vs ∧ Kp [] H H') (fun σ H' hv => ?_) (fun rest => i_dec (fun c => ?_) (fun c => ?_))
    · obtain ⟨vs, rfl, e1, pv, k1⟩ := hv
      have hv1 : vs.length ≤ 1 := by
        rw [← pv.length]
        unfold first1
        split <;> simp
      have hd1 : ∃ kvs, H' d1 = some (.dT kvs) := by
        obtain ⟨kvs, h, _⟩ := T1.kp k1
        exact ⟨kvs, h⟩
      obtain ⟨kvs1, g1⟩ := hd1
      walk_at "go"
      intro e he
      obtain ⟨kvs1', w1, w2, w3⟩ := T1
      have w1' := k1 _ _ w1 (by simp)
      rw [g1] at w1'
      cases w1'
      have ge : upd H' e (.lst []) d1 = some (.dT kvs1) := look_new he g1
      have eae : upd H' e (.lst []) ha = some (.tup [.str x, .int m]) := look_new he (k1 _ _ ea (by simp))
      have kq : Kp [] H (upd H' e (.lst [])) := k1.trans (.new he)
      have ee := look_new (z := .lst []) he e1
      have nqe : q ≠ e := ne_of_none e1 he
      have pve := paired_imp (fun _ _ => OnwAt.kp (KpT.new (o := .lst []) he)) pv
      obtain ⟨la, ws, hla, hlw, hlp, hlq⟩ : ∃ la ws, (valV kvs1 (spotKey (x, m))).getD (.ref e) = .ref la ∧ upd H' e (.lst []) la = some (.lst ws) ∧ Paired (OnwAt (upd H' e (.lst []))) (pick1 (outs L) (x, m)) ws ∧ la ≠ q := by
        rcases w3 (x, m) with ⟨la, ws, z1, z2, z3⟩ | ⟨z1, z2⟩
        · exact ⟨la, ws, by rw [z1]; rfl, kq _ _ z2 (by simp), paired_imp (fun _ _ => OnwAt.kp (.of kq (by simp))) z3, ne_of_none z2 hq⟩
        · exact ⟨e, [], by rw [z1]; rfl, upd_same, by rw [z2]; exact .nil, nqe.symm⟩
      generalize upd H' e (.lst []) = H1 at *
      refine z_getdq (DGet.t (k := spotKey (x, m)) ge eae) ?_
      rw [hla]
      walk_at "go"
      refine loopL (xs := ws) (fun i σ H' => ∃ (o8 o9 o10 : Option V) (vs : List V), σ = [some (.ref ha), some (.int t), some (.ref d1), some (.ref d2), some (.ref u), some (.str x), some (.int m), some (.ref q), o8, o9, o10] ∧ H' q = some (.lst vs) ∧
        Paired (OnwAt H') (first1 t (x, m) ++ ((pick1 (outs L) (x, m)).take i).filter (unused kv)) vs ∧ Kp [q] H1 H' ∧ Kp [] H H') ?_ (fun i σ H' _ hv => ?_) (fun i v σ H' hi hv => ?_) (fun σ H' hv => ?_)
      · exact ⟨_, _, _, vs, rfl, ee, by rw [List.take_zero, List.filter_nil, List.append_nil]; exact pve, .refl, kq⟩
      · obtain ⟨_, _, _, vs', rfl, f1, f2, f3, f4⟩ := hv
        exact .of (f3 _ _ hlw (ni1 hlq))
      · obtain ⟨_, _, _, vs', rfl, f1, f2, f3, f4⟩ := hv
        obtain ⟨y, hy, c, sv, gv, rfl, hc, hs, hg⟩ := paired_get_r hlp hi
        obtain ⟨ks, hks⟩ := outs_some (List.mem_of_getElem? hy)
        have kt : KpT H1 H' := .of1 f3 ee fun ys e => by cases e
        rw [hks] at hs
        obtain ⟨z, rfl, hz⟩ := hs
        have hc' := kt _ _ hc
        have hz' := kt _ _ hz
        have hu' := f4 _ _ hu (by simp)
        have hlen : vs'.length ≤ 4010 := by
          rw [← f2.length, List.length_append]
          have h1 : (((pick1 (outs L) (x, m)).take i).filter (unused kv)).length ≤ L.length := Nat.le_trans (List.length_filter_le ..) (Nat.le_trans (by rw [List.length_take]; exact Nat.min_le_right _ _) (Nat.le_trans len_pick1 (by simp [outs])))
          have h2 := pve.length
          omega
        walk_at "go"
        refine z_dninq (DGet.t (k := ks) hu' hz') ?_
        cases ev : (valV kv ks).isSome with
        | true =>
          refine ⟨_, rfl, iteNF (z_next ?_)⟩
          refine ⟨_, _, _, vs', rfl, f1, ?_, f3, f4⟩
          rw [filter_take hy, if_neg (by unfold unused; simp [hks, ev]), List.append_nil]
          exact f2
        | false =>
          walk_at "go"
          intro w hw
          have f1' := look_new (z := .tup [.ref z, gv]) hw f1
          refine z_nil (z_append f1' ?_ ?_)
          · rw [sizeLine_eq]
            omega
          refine ⟨_, _, _, vs' ++ [.ref w], rfl, upd_same, ?_, (f3.trans (.new hw)).trans (.mut (by simp)), (f4.trans (.new hw)).own hq⟩
          have nwq : w ≠ q := (ne_of_none f1 hw).symm
          have kw : KpT H' (upd (upd H' w (.tup [.ref z, gv])) q (.lst (vs' ++ [.ref w]))) := (KpT.new hw).trans (.lst f1')
          rw [filter_take hy, if_pos (by unfold unused; simp [hks, ev]), ← List.append_assoc]
          refine paired_snoc ⟨w, .ref z, gv, rfl, (upd_ne nwq).trans upd_same, ?_, (hg.kp kt).kp kw⟩ (paired_imp (fun _ _ => OnwAt.kp kw) f2)
          rw [hks]
          exact ⟨z, rfl, kw _ _ hz'⟩
      · obtain ⟨_, _, _, vs1, rfl, f1, f2, f3, f4⟩ := hv
        have : ws.length = (pick1 (outs L) (x, m)).length := hlp.length.symm
        rw [this, List.take_length] at f2
        have hv2 : vs1.length ≤ 2001 := by
          rw [← f2.length, List.length_append]
          have h1 : ((pick1 (outs L) (x, m)).filter (unused kv)).length ≤ L.length := Nat.le_trans (List.length_filter_le ..) (Nat.le_trans len_pick1 (by simp [outs]))
          have h2 := pve.length
          omega
        clear hlp hlw hla hlq pve ee ge eae kq pv e1 k1 he w3 w1 g1
        have e1 := f1
        obtain ⟨kvs2, w1, w2, w3⟩ := T2
        have g1 := f4 _ _ w1 (by simp)
        walk_at "go"
        intro e he
        have ge : upd H' e (.lst []) d2 = some (.dT kvs2) := look_new he g1
        have eae : upd H' e (.lst []) ha = some (.tup [.str x, .int m]) := look_new he (f4 _ _ ea (by simp))
        have kq : Kp [] H (upd H' e (.lst [])) := f4.trans (.new he)
        have ee := look_new (z := .lst []) he e1
        have nqe : q ≠ e := ne_of_none e1 he
        have pve := paired_imp (fun _ _ => OnwAt.kp (KpT.new (o := .lst []) he)) f2
        obtain ⟨la, ws, hla, hlw, hlp, hlq⟩ : ∃ la ws, (valV kvs2 (spotKey (x, m))).getD (.ref e) = .ref la ∧ upd H' e (.lst []) la = some (.lst ws) ∧ Paired (OnwAt (upd H' e (.lst []))) (pick1 (ins L) (x, m)) ws ∧ la ≠ q := by
          rcases w3 (x, m) with ⟨la, ws, z1, z2, z3⟩ | ⟨z1, z2⟩
          · exact ⟨la, ws, by rw [z1]; rfl, kq _ _ z2 (by simp), paired_imp (fun _ _ => OnwAt.kp (.of kq (by simp))) z3, ne_of_none z2 hq⟩
          · exact ⟨e, [], by rw [z1]; rfl, upd_same, by rw [z2]; exact .nil, nqe.symm⟩
        have hvv : vs1.length ≤ 2001 := hv2
        generalize upd H' e (.lst []) = H2 at *
        refine z_getdq (DGet.t (k := spotKey (x, m)) ge eae) ?_
        rw [hla]
        walk_at "go"
        refine loopL (xs := ws) (fun i σ H' => ∃ (o8 o9 o10 : Option V) (vs : List V), σ = [some (.ref ha), some (.int t), some (.ref d1), some (.ref d2), some (.ref u), some (.str x), some (.int m), some (.ref q), o8, o9, o10] ∧ H' q = some (.lst vs) ∧
          Paired (OnwAt H') (first1 t (x, m) ++ (pick1 (outs L) (x, m)).filter (unused kv) ++ ((pick1 (ins L) (x, m)).take i).filter (inused kv)) vs ∧ Kp [q] H2 H' ∧ Kp [] H H') ?_ (fun i σ H' _ hv => ?_) (fun i v σ H' hi hv => ?_) (fun σ H' hv => ?_)
        · exact ⟨_, _, _, vs1, rfl, ee, by rw [List.take_zero, List.filter_nil, List.append_nil]; exact pve, .refl, kq⟩
        · obtain ⟨_, _, _, vs', rfl, f1, f2, f3, f4⟩ := hv
          exact .of (f3 _ _ hlw (ni1 hlq))
        · obtain ⟨_, _, _, vs', rfl, f1, f2, f3, f4⟩ := hv
          obtain ⟨y, hy, c, sv, gv, rfl, hc, hs, hg⟩ := paired_get_r hlp hi
          obtain ⟨ks, hks⟩ := ins_some (List.mem_of_getElem? hy)
          have kt : KpT H2 H' := .of1 f3 ee fun ys e => by cases e
          rw [hks] at hs
          obtain ⟨z, rfl, hz⟩ := hs
          have hc' := kt _ _ hc
          have hz' := kt _ _ hz
          have hu' := f4 _ _ hu (by simp)
          have hlen : vs'.length ≤ 4010 := by
            rw [← f2.length, List.length_append]
            have h1 : (((pick1 (ins L) (x, m)).take i).filter (inused kv)).length ≤ L.length := Nat.le_trans (List.length_filter_le ..) (Nat.le_trans (by rw [List.length_take]; exact Nat.min_le_right _ _) (Nat.le_trans len_pick1 (by simp [ins])))
            have h2 := pve.length
            omega
          walk_at "go"
          refine z_dinq (DGet.t (k := ks) hu' hz') ?_
          cases ev : (valV kv ks).isSome with
          | false =>
            refine ⟨_, rfl, iteF (z_next ?_)⟩
            refine ⟨_, _, _, vs', rfl, f1, ?_, f3, f4⟩
            rw [filter_take hy, if_neg (by unfold inused; simp [hks, ev]), List.append_nil]
            exact f2
          | true =>
            walk_at "go"
            intro w hw
            have f1' := look_new (z := .tup [.ref z, gv]) hw f1
            refine z_nil (z_append f1' ?_ ?_)
            · rw [sizeLine_eq]
              omega
            refine ⟨_, _, _, vs' ++ [.ref w], rfl, upd_same, ?_, (f3.trans (.new hw)).trans (.mut (by simp)), (f4.trans (.new hw)).own hq⟩
            have nwq : w ≠ q := (ne_of_none f1 hw).symm
            have kw : KpT H' (upd (upd H' w (.tup [.ref z, gv])) q (.lst (vs' ++ [.ref w]))) := (KpT.new hw).trans (.lst f1')
            rw [filter_take hy, if_pos (by unfold inused; simp [hks, ev]), ← List.append_assoc]
            refine paired_snoc ⟨w, .ref z, gv, rfl, (upd_ne nwq).trans upd_same, ?_, (hg.kp kt).kp kw⟩ (paired_imp (fun _ _ => OnwAt.kp kw) f2)
            rw [hks]
            exact ⟨z, rfl, kw _ _ hz'⟩
        · obtain ⟨_, _, _, vs', rfl, f1, f2, f3, f4⟩ := hv
          have : ws.length = (pick1 (ins L) (x, m)).length := hlp.length.symm
          rw [this, List.take_length] at f2
          walk_at "go"
          have hlen : vs'.length ≤ 4005 := by
            rw [← f2.length]
            simp only [List.length_append]
            have h1 : ((pick1 (outs L) (x, m)).filter (unused kv)).length ≤ L.length := Nat.le_trans (List.length_filter_le ..) (Nat.le_trans len_pick1 (by simp [outs]))
            have h2 : ((pick1 (ins L) (x, m)).filter (inused kv)).length ≤ L.length := Nat.le_trans (List.length_filter_le ..) (Nat.le_trans len_pick1 (by simp [ins]))
            have h3 : (first1 t (x, m)).length ≤ 1 := by unfold first1; split <;> simp
            omega
          have hu' := f4 _ _ hu (by simp)
          refine i_dec (fun c => ?_) (fun c => ?_)
          · obtain ⟨m', rfl⟩ : ∃ m', m = m' + 1 := ⟨m - 1, by have c' : (0 : Int) < m := c; omega⟩
            have em : ((m' + 1 : Nat) : Int) - 1 = (m' : Int) := by omega
            walk_at "go"
            rw [em]
            intro p1 h1
            have hu1 := look_new (z := .tup [.str x, .int (m' : Int)]) h1 hu'
            walk_at "go"
            refine z_getdq (DGet.t (k := spotKey (x, m')) hu1 upd_same) ?_
            rw [valI_get U]
            walk_at "go"
            have f11 := look_new (z := .tup [.str x, .int (m' : Int)]) h1 f1
            have k1 : KpT H' (upd H' p1 (.tup [.str x, .int (m' : Int)])) := .new h1
            have kk1 : Kp [] H (upd H' p1 (.tup [.str x, .int (m' : Int)])) := f4.trans (.new h1)
            refine i_dec (fun c2 => ?_) (fun c2 => ?_)
            · walk_at "go"
              rw [em]
              intro p2 h2
              walk_at "go"
              rw [em]
              intro p3 h3
              walk_at "go"
              intro p4 h4
              have f12 := look_new (z := .tup [.str x, .int (m' : Int)]) h2 f11
              have f13 := look_new (z := .tup [.str x, .int (m' : Int)]) h3 f12
              have f14 := look_new (z := .tup [.ref p2, .ref p3]) h4 f13
              refine z_nil (z_append f14 ?_ ?_)
              · rw [sizeLine_eq]
                omega
              have n4 : p4 ≠ q := (ne_of_none f13 h4).symm
              have kk : KpT H' (upd (upd (upd (upd (upd H' p1 (.tup [.str x, .int (m' : Int)])) p2 (.tup [.str x, .int (m' : Int)])) p3 (.tup [.str x, .int (m' : Int)])) p4 (.tup [.ref p2, .ref p3])) q (.lst (vs' ++ [.ref p4]))) := (((k1.trans (.new h2)).trans (.new h3)).trans (.new h4)).trans (.lst f14)
              have e2 : upd (upd (upd (upd (upd H' p1 (.tup [.str x, .int (m' : Int)])) p2 (.tup [.str x, .int (m' : Int)])) p3 (.tup [.str x, .int (m' : Int)])) p4 (.tup [.ref p2, .ref p3])) q (.lst (vs' ++ [.ref p4])) p2 = some (.tup [.str x, .int (m' : Int)]) := (KpT.lst f14) _ _ (look_new h4 (look_new h3 upd_same))
              have e3 : upd (upd (upd (upd (upd H' p1 (.tup [.str x, .int (m' : Int)])) p2 (.tup [.str x, .int (m' : Int)])) p3 (.tup [.str x, .int (m' : Int)])) p4 (.tup [.ref p2, .ref p3])) q (.lst (vs' ++ [.ref p4])) p3 = some (.tup [.str x, .int (m' : Int)]) := (KpT.lst f14) _ _ (look_new h4 upd_same)
              walk_at "go"
              refine k q (vs' ++ [.ref p4]) _ ?_ hq upd_same ((((kk1.trans (.new h2)).trans (.new h3)).trans (.new h4)).own hq)
              unfold arcs last1
              rw [if_pos ⟨Nat.succ_pos _, c2⟩]
              exact paired_snoc ⟨p4, .ref p2, .ref p3, rfl, (upd_ne n4).trans upd_same, ⟨p2, rfl, e2⟩, ⟨p3, rfl, e3⟩⟩ (paired_imp (fun _ _ => OnwAt.kp kk) f2)
            · walk_at "go"
              refine k q vs' _ ?_ hq f11 kk1
              unfold arcs last1
              rw [if_neg (fun z => c2 z.2), List.append_nil]
              exact paired_imp (fun _ _ => OnwAt.kp k1) f2
          · walk_at "go"
            refine k q vs' _ ?_ hq f1 f4
            unfold arcs last1
            rw [if_neg (fun z => c (by have z' : 0 < m := z.1; show (0 : Int) < (m : Int); omega)), List.append_nil]
            exact f2
    · walk_at "go"
      intro p1 h1
      walk_at "go"
      intro p2 h2
      have e0 : upd H q (.lst []) q = some (.lst []) := upd_same
      have e1 := look_new (z := .tup [.str x, .int ((m : Int) + 1)]) h1 e0
      have e2 := look_new (z := .tup [.non, .ref p1]) h2 e1
      refine z_nil (z_append e2 (by rw [sizeLine_eq]; simp) (rest _ _ ⟨[.ref p2], rfl, upd_same, ?_, (((k0.trans (.new h1)).trans (.new h2)).own hq)⟩))
      unfold first1
      rw [if_pos (by show m < t; have c' : (m : Int) < t := c; omega)]
      have n2 : p2 ≠ q := (ne_of_none e1 h2).symm
      have n1 : p1 ≠ q := (ne_of_none e0 h1).symm
      refine .cons ⟨p2, .non, .ref p1, rfl, (upd_ne n2).trans upd_same, rfl, p1, rfl, (upd_ne n1).trans ((look_new h2 upd_same).trans ?_)⟩ .nil
      show some (HO.tup [.str x, .int ((m : Int) + 1)]) = some (HO.tup [.str x, .int ((m + 1 : Nat) : Int)])
      push_cast
      rfl
    · refine z_next (rest _ _ ⟨[], rfl, upd_same, ?_, k0⟩)
      unfold first1
      rw [if_neg (by show ¬ m < t; have c' : ¬ (m : Int) < t := c; omega)]
      exact .nil

/-! ### what is lit -/
def FndAt (H : Hp) (e : Spot × Option Step1) (p : List Key × V) : Prop := p.1 = spotKey e.1 ∧ match e.2 with
  | none => p.2 = .non
  | some (st, q) => ∃ c sv qv, p.2 = .ref c ∧ H c = some (.tup [sv, qv]) ∧ StepAt H st sv ∧ SpotAt H q qv
theorem FndAt.kp {H H' : Hp} (k : KpT H H') {e : Spot × Option Step1} {p : List Key × V} (h : FndAt H e p) : FndAt H' e p := by
  obtain ⟨a, z⟩ := e
  cases z with
  | none => exact h
  | some z =>
    obtain ⟨h0, c, sv, qv, h1, h2, h3, h4⟩ := h
    exact ⟨h0, c, sv, qv, h1, k _ _ h2, h3.kp k, h4.kp k⟩
theorem val_fnd {H : Hp} {g : Spot} : ∀ {fs : Fnd} {kvs : Kvs}, Paired (FndAt H) fs kvs → (valV kvs (spotKey g)).isSome = decide (g ∈ fs.map (·.1))
  | _, _, .nil => rfl
  | e :: fs, p :: kvs, .cons h t => by
    have ih := val_fnd (g := g) t
    by_cases c : e.1 = g
    · rw [valV_pos (by rw [h.1, c])]
      simp [c]
    · rw [valV_neg (by rw [h.1]; intro z; exact c (spotKey_inj z)), ih]
      simp [Ne.symm c]
/-- the lit spots, in a dict -/
structure LitAt (L : List Snd) (t : Nat) (kv : Kvs) (a : Spot) (xs : List Str) (H : Hp) (d : Addr) (fs : Fnd) (fkv : Kvs) : Prop where
  at_ : H d = some (.dT fkv)
  row : Paired (FndAt H) fs fkv
  ok : FndOk L t kv a fs
  in_ : ∀ e ∈ fs, e.1.1 ∈ xs ∧ e.1.2 ≤ t
theorem LitAt.len {L : List Snd} {t : Nat} {kv : Kvs} {a : Spot} {xs : List Str} {H : Hp} {d : Addr} {fs : Fnd} {fkv : Kvs} (T : LitAt L t kv a xs H d fs fkv) (hx : xs.length ≤ 12) (ht : t ≤ 40) : fs.length ≤ 492 := by
  have h := spots_le (xs := xs) (t := t) T.ok.nd fun p hp => by
    obtain ⟨e, he, rfl⟩ := List.mem_map.mp hp
    exact T.in_ e he
  rw [List.length_map] at h
  exact Nat.le_trans h (Nat.mul_le_mul hx (by omega : t + 1 ≤ 41))
theorem LitAt.kp {S : List Addr} {L : List Snd} {t : Nat} {kv : Kvs} {a : Spot} {xs : List Str} {H H' : Hp} {d : Addr} {fs : Fnd} {fkv : Kvs} (T : LitAt L t kv a xs H d fs fkv) (k : Kp S H H') (kt : KpT H H') (n : d ∉ S) : LitAt L t kv a xs H' d fs fkv :=
  ⟨k _ _ T.at_ n, paired_imp (fun _ _ => FndAt.kp kt) T.row, T.ok, T.in_⟩
theorem fnd_keys {H : Hp} : ∀ {fs : Fnd} {kvs : Kvs}, Paired (FndAt H) fs kvs → kvs.map (·.1) = (fs.map (·.1)).map spotKey
  | _, _, .nil => rfl
  | _, _, .cons h t => by rw [List.map_cons, List.map_cons, List.map_cons, fnd_keys t, h.1]
theorem LitAt.val {L : List Snd} {t : Nat} {kv : Kvs} {a : Spot} {xs : List Str} {H : Hp} {d : Addr} {fs : Fnd} {fkv : Kvs} (T : LitAt L t kv a xs H d fs fkv) {i : Nat} {p : Spot} {z : Option Step1} (h : fs[i]? = some (p, z)) : ∃ v, valV fkv (spotKey p) = some v ∧ FndAt H (p, z) (spotKey p, v) := by
  obtain ⟨y, h1, h2⟩ := paired_get T.row h
  have nd : (fkv.map (·.1)).Nodup := by
    rw [fnd_keys T.row]
    exact List.pairwise_map.mpr (T.ok.nd.imp fun hne e => hne (spotKey_inj e))
  have e := mem_valV nd (List.mem_of_getElem? h1)
  rw [h2.1] at e
  exact ⟨y.2, e, rfl, h2.2⟩
def sp_lit : Sp := fun vs H Q _ => ∃ L t d1 d2 u kv x xs, vs = [.str x, .int (t : Nat), .ref d1, .ref d2, .ref u] ∧ Tab H d1 (outs L) ∧ Tab H d2 (ins L) ∧ H u = some (.dT kv) ∧ UsedOk L t kv ∧ SndsOk L t ∧ (∀ s ∈ L, s.one ∈ xs ∧ s.other ∈ xs ∧ s.mom ≤ t) ∧
  x ∈ xs ∧ xs.length ≤ 12 ∧ t ≤ 40 ∧ L.length ≤ 2000 ∧ ∀ d fs fkv H', H d = none → LitAt L t kv (x, 0) xs H' d fs fkv → (∀ p z, (p, z) ∈ fs → ∀ st g, Arc L t kv p st g → g ∈ fs.map (·.1)) → Kp [] H H' → Q (.ref d) H'
theorem fa_lit (T : Tx K mg) : FnA P w K mg base CX0 2 (He.fAd K ("lit", none)) 5 [] gPos sp_lit := by
  obtain ⟨fd, F⟩ := T.D_lit
  have cl_Net := T.cl_Net
  have n_Net_named := T.n_Net_named
  have n_Net_roads := T.n_Net_roads
  refine FnA.pos F (F.ok (ps := ["source", "turn", "leaving", "coming", "used"]) sc_lit (fun vs H Q E h => ?_) (fun cdv A outer s H vs Q E hr h => ?_)) 5 (fun _ _ _ _ _ _ us hl => match us, hl with | [_, _, _, _, _], _ => rfl)
  · obtain ⟨_, _, _, _, _, _, _, _, rfl, _⟩ := h
    rfl
  · obtain ⟨L, t, d1, d2, u, kv, x, xs, rfl, T1, T2, hu, U, hS, hx, hxx, hxl, ht, hL, k⟩ := h
    refine ⟨_, PSs.nox (pss_cons (ps_set (i := 5) sc_lit.nd rfl (Or.inl rfl) (pe_dispT (hu_of hr) (pe_tup (pa_cons (pv 0) (pa_cons pe_int pa_nil))) pe_non))
    (pss_cons (ps_set (i := 6) sc_lit.nd rfl (Or.inl rfl) (pe_lst (pa_cons (pe_tup (pa_cons (pv 0) (pa_cons pe_int pa_nil))) pa_nil)))
    (pss_cons (ps_set (i := 7) sc_lit.nd rfl (Or.inl rfl) pe_int)
    (pss_cons (ps_while PassesOwn.never (pt_cmpR op_lt (pv 7) (pe_callB call_len_seq (by rfl) T.z_len (by decide +kernel) (pa_cons (pv 6) pa_nil)) (nomark _))
    (pss_cons (ps_set (i := 8) sc_lit.nd rfl (Or.inl rfl) (pe_ix ix_list (pv 6) (pv 7) (fun _ _ => rfl)))
    (pss_cons (ps_for PassesOwn.never rfl (pi_list (pe_f (fa_onward T) (hr.mono (by decide)) rfl T.g_onward pass0 (pa_cons (pv 8) (pa_cons (pv 1) (pa_cons (pv 2) (pa_cons (pv 3) (pa_cons (pv 4) pa_nil))))))) (pg_tup rfl (pgs_cons (pg_name (i := 9) sc_lit.nd rfl (Or.inl rfl)) (pgs_cons (pg_name (i := 10) sc_lit.nd rfl (Or.inl rfl)) pgs_nil)))
    (pss_one (ps_if (pt_cmp (pc_dnotin (hu_of hr) (pv 10) (pv 5)) rfl) (pss_cons (ps_dput (hu_of hr) (pv 5) (pv 10) (pe_tup (pa_cons (pv 9) (pa_cons (pv 8) pa_nil))) rfl)
    (pss_one (ps_expr (pe_bm PySem.F.plainAttrs_list PySem.F.slot_list_append PySem.F.type_list_append mt_append (pv 6) (pa_cons (pv 10) pa_nil))))) pss_nil)))
    (pss_one (ps_aug (i := 7) sc_lit.nd rfl (Or.inl rfl) pe_int ip_add)))))
    (pss_one (ps_ret (pv 5))))))), ?_⟩
    walk_at "go"
    intro d hd
    walk_at "go"
    intro c1 h1
    walk_at "go"
    have ed1 : upd (upd H d (.dT [])) c1 (.tup [.str x, .int 0]) d = some (.dT []) := look_new h1 upd_same
    refine z_dispq (k := spotKey (x, 0)) ed1 upd_same ?_
    have k1 : Kp [] H (upd (upd (upd H d (.dT [])) c1 (.tup [.str x, .int 0])) d (.dT [(spotKey (x, 0), .non)])) := ((Kp.new hd).trans (.new h1)).own hd
    have e1 : upd (upd (upd H d (.dT [])) c1 (.tup [.str x, .int 0])) d (.dT [(spotKey (x, 0), .non)]) d = some (.dT [(spotKey (x, 0), .non)]) := upd_same
    generalize upd (upd (upd H d (.dT [])) c1 (.tup [.str x, .int 0])) d (.dT [(spotKey (x, 0), .non)]) = H1 at *
    clear ed1
    walk_at "go"
    intro c2 h2
    walk_at "go"
    intro q hq
    have e2 := look_new (z := .lst [.ref c2]) hq (look_new (z := .tup [.str x, .int 0]) h2 e1)
    have q2 : upd (upd H1 c2 (.tup [.str x, .int 0])) q (.lst [.ref c2]) q = some (.lst [.ref c2]) := upd_same
    have s2 : upd (upd H1 c2 (.tup [.str x, .int 0])) q (.lst [.ref c2]) c2 = some (.tup [.str x, .int 0]) := look_new hq upd_same
    have k2 : Kp [] H (upd (upd H1 c2 (.tup [.str x, .int 0])) q (.lst [.ref c2])) := (k1.trans (.new h2)).trans (.new hq)
    have ndq : d ≠ q := ne_of_none (look_new (z := .tup [.str x, .int 0]) h2 e1) hq
    have hq0 : H q = none := k1.none (un_none hq) (by simp)
    generalize upd (upd H1 c2 (.tup [.str x, .int 0])) q (.lst [.ref c2]) = H2 at *
    walk_at "go"
    refine loopW (fun n σ H' => ∃ (i : Nat) (qs : List V) (fs : Fnd) (fkv : Kvs) (o8 o9 o10 : Option V), n = 501 - i ∧ σ = [some (.str x), some (.int t), some (.ref d1), some (.ref d2), some (.ref u), some (.ref d), some (.ref q), some (.int i), o8, o9, o10] ∧
      H' q = some (.lst qs) ∧ LitAt L t kv (x, 0) xs H' d fs fkv ∧ Paired (SpotAt H') (fs.map (·.1)) qs ∧ i ≤ fs.length ∧ (∀ (j : Nat) p z, j < i → fs[j]? = some (p, z) → ∀ st g, Arc L t kv p st g → g ∈ fs.map (·.1)) ∧ Kp [] H H') 501 ?_ (fun n σ H' hv => ?_)
    · refine ⟨0, _, [((x, 0), none)], _, _, _, _, rfl, rfl, q2, ⟨e2, .cons ⟨rfl, rfl⟩ .nil, fnd_one, fun e he => ?_⟩, .cons ⟨c2, rfl, s2⟩ .nil, Nat.zero_le _, fun j p z hj => absurd hj (by omega), k2⟩
      rw [List.mem_singleton.mp he]
      exact ⟨hxx, Nat.zero_le _⟩
    · obtain ⟨i, qs, fs, fkv, o8, o9, o10, rfl, rfl, f1, f2, f3, f4, f5, f6⟩ := hv
      have hlen := f2.len hxl ht
      have hql : fs.length = qs.length := by rw [← f3.length, List.length_map]
      walk_at "go"
      refine i_dec (fun c => ?_) (fun c => ?_)
      · have hi : i < fs.length := by omega
        refine ⟨_, fun _ _ h => h, ?_⟩
        obtain ⟨hv, z, hfi⟩ : ∃ p z, fs[i]? = some (p, z) := ⟨_, _, by rw [List.getElem?_eq_getElem hi]⟩
        have hqi : ∃ w, qs[i]? = some w ∧ SpotAt H' hv w := paired_get f3 (by rw [List.getElem?_map, hfi]; rfl)
        obtain ⟨w, hw, ha, rfl, eha⟩ := hqi
        walk_at "go"
        refine z_ixL (.of f1) (atI_nat hw) ?_
        walk_at "go"
        have hu' := f6 _ _ hu (by simp)
        refine ⟨L, t, d1, d2, u, kv, hv, ha, rfl, eha, T1.kp f6, T2.kp f6, hu', U, hL, fun p ws H3 pw hp ep k3 => ?_⟩
        have kt3 : KpT H' H3 := .of k3 (by simp)
        have ep3 := k3 _ _ f1 (by simp)
        have ed3 := k3 _ _ f2.at_ (by simp)
        have npq : q ≠ p := ne_of_none f1 hp
        have npd : d ≠ p := ne_of_none f2.at_ hp
        have k03 : Kp [] H H3 := f6.trans k3
        have eha3 := kt3 _ _ eha
        obtain ⟨A1, A2⟩ := arcs_ok (L := L) (t := t) (a := hv) U
        walk_at "go"
        refine loopL (xs := ws) (fun j σ H4 => ∃ (qs4 : List V) (fs4 : Fnd) (fkv4 : Kvs) (o9 o10 : Option V), σ = [some (.str x), some (.int t), some (.ref d1), some (.ref d2), some (.ref u), some (.ref d), some (.ref q), some (.int i), some (.ref ha), o9, o10] ∧
          H4 q = some (.lst qs4) ∧ LitAt L t kv (x, 0) xs H4 d fs4 fkv4 ∧ Paired (SpotAt H4) (fs4.map (·.1)) qs4 ∧ (∃ ext, fs4 = fs ++ ext) ∧ (∀ e ∈ (arcs L t kv hv).take j, e.2 ∈ fs4.map (·.1)) ∧ Kp [d, q] H3 H4 ∧ Kp [] H H4) ?_ (fun j σ H4 _ hv4 => ?_) (fun j v σ H4 hj hv4 => ?_) (fun σ H4 hv4 => ?_)
        · exact ⟨qs, fs, fkv, _, _, rfl, ep3, ⟨ed3, paired_imp (fun _ _ => FndAt.kp kt3) f2.row, f2.ok, f2.in_⟩, paired_imp (fun _ _ => SpotAt.kp kt3) f3, ⟨[], by rw [List.append_nil]⟩, fun e he => by simp at he, .refl, k03⟩
        · obtain ⟨qs4, fs4, fkv4, _, _, rfl, g1, g2, g3, g4, g5, g6, g7⟩ := hv4
          exact .of (g6 _ _ ep (ni2 npd.symm npq.symm))
        · obtain ⟨qs4, fs4, fkv4, _, _, rfl, g1, g2, g3, ⟨ext, rfl⟩, g5, g6, g7⟩ := hv4
          obtain ⟨⟨st, g⟩, hy, c0, sv, gv, rfl, hc, hs, b, rfl, hb⟩ := paired_get_r pw hj
          have kt4 : KpT H3 H4 := .of g6 fun a m ys e => by
            rcases List.mem_cons.mp m with rfl | m
            · rw [ed3] at e
              cases e
            · rw [List.mem_singleton.mp m, ep3] at e
              cases e
          have hc4 := kt4 _ _ hc
          have hb4 := kt4 _ _ hb
          have eha4 := kt4 _ _ eha3
          have hlen4 := g2.len hxl ht
          have hq4 : (fs ++ ext).length = qs4.length := by rw [← g3.length, List.length_map]
          have hk4 : (fs ++ ext).length = fkv4.length := g2.row.length
          have hA : Arc L t kv hv st g := A1 _ (List.mem_of_getElem? hy)
          have hfi' : (fs ++ ext)[i]? = some (hv, z) := by
            rw [List.getElem?_append_left hi]
            exact hfi
          have ed4 := g2.at_
          walk_at "go"
          refine z_dninq (DGet.t (k := spotKey g) ed4 hb4) ?_
          rw [val_fnd g2.row]
          by_cases cg : g ∈ (fs ++ ext).map (·.1)
          · rw [decide_eq_true cg]
            refine ⟨_, rfl, iteNF (z_next ⟨qs4, fs ++ ext, fkv4, _, _, rfl, g1, g2, g3, ⟨ext, rfl⟩, fun e he => ?_, g6, g7⟩)⟩
            rw [take_succ_get hy] at he
            rcases List.mem_append.mp he with h | h
            · exact g5 e h
            · rw [List.mem_singleton.mp h]
              exact cg
          · rw [decide_eq_false cg]
            walk_at "go"
            intro c3 h3
            have ed5 := look_new (z := .tup [sv, .ref ha]) h3 ed4
            have hb5 := look_new (z := .tup [sv, .ref ha]) h3 hb4
            have g15 := look_new (z := .tup [sv, .ref ha]) h3 g1
            have hvn : valV fkv4 (spotKey g) = none := Option.not_isSome_iff_eq_none.mp (by rw [val_fnd g2.row, decide_eq_false cg]; decide)
            walk_at "go"
            refine z_dputq (DPut.t (k := spotKey g) ed5 hb5 (by rw [sizeLine_eq]; omega)) ?_
            rw [putK_new _ hvn]
            have g16 : upd (upd H4 c3 (.tup [sv, .ref ha])) d (.dT (fkv4 ++ [(spotKey g, .ref c3)])) q = some (.lst qs4) := (upd_ne ndq.symm).trans g15
            have ktx : KpT H4 (upd (upd H4 c3 (.tup [sv, .ref ha])) d (.dT (fkv4 ++ [(spotKey g, .ref c3)]))) := (KpT.new h3).trans (.of1 (.mut (List.mem_singleton.mpr rfl)) ed5 fun ys e => by cases e)
            walk_at "go"
            have kty := ktx.trans (.lst (o := .lst (qs4 ++ [.ref b])) g16)
            have ndc : c3 ≠ d := (ne_of_none ed4 h3).symm
            have nqc : c3 ≠ q := (ne_of_none g1 h3).symm
            refine ⟨qs4 ++ [.ref b], (fs ++ ext) ++ [(g, some (st, hv))], fkv4 ++ [(spotKey g, .ref c3)], _, _, rfl, upd_same, ⟨(upd_ne ndq).trans upd_same, ?_, fnd_snoc g2.ok cg hfi' hA, ?_⟩, ?_, ⟨ext ++ [(g, some (st, hv))], by rw [List.append_assoc]⟩, ?_, ?_, ?_⟩
            · refine paired_snoc ⟨rfl, c3, sv, .ref ha, rfl, (upd_ne nqc).trans ((upd_ne ndc).trans upd_same), (hs.kp kt4).kp kty, ha, rfl, kty _ _ eha4⟩ (paired_imp (fun _ _ => FndAt.kp kty) g2.row)
            · intro e he
              rcases List.mem_append.mp he with h | h
              · exact g2.in_ e h
              · rw [List.mem_singleton.mp h]
                exact arc_spot hS hx hA (f2.in_ _ (List.mem_of_getElem? hfi))
            · rw [List.map_append]
              exact paired_snoc ⟨b, rfl, kty _ _ hb4⟩ (paired_imp (fun _ _ => SpotAt.kp kty) g3)
            · intro e he
              rw [List.map_append]
              rw [take_succ_get hy] at he
              rcases List.mem_append.mp he with h | h
              · exact List.mem_append.mpr (.inl (g5 e h))
              · rw [List.mem_singleton.mp h]
                exact List.mem_append.mpr (.inr (by simp))
            · exact ((g6.trans (.new h3)).trans (.mut (by simp))).trans (.mut (by simp))
            · exact ((g7.trans (.new h3)).own hd).own hq0
        · obtain ⟨qs4, fs4, fkv4, p9, p10, rfl, g1, g2, g3, ⟨ext, rfl⟩, g5, g6, g7⟩ := hv4
          have et : (arcs L t kv hv).take ws.length = arcs L t kv hv := by rw [← pw.length, List.take_length]
          rw [et] at g5
          refine z_aug rfl ?_
          walk_at "go"
          refine ⟨501 - (i + 1), by omega, i + 1, qs4, fs ++ ext, fkv4, some (.ref ha), p9, p10, rfl, ?_, g1, g2, g3, by rw [List.length_append]; omega, fun j p z' hj hp st g hA => ?_, g7⟩
          · show _ = _
            push_cast
            rfl
          · rcases Nat.lt_or_ge j i with c2 | c2
            · rw [List.getElem?_append_left (by omega)] at hp
              have := f5 j p z' c2 hp st g hA
              rw [List.map_append]
              exact List.mem_append.mpr (.inl this)
            · have : j = i := by omega
              subst this
              rw [List.getElem?_append_left hi, hfi] at hp
              cases hp
              exact g5 _ (A2 st g hA)
      · walk_at "go"
        refine k d fs fkv H' hd f2 (fun p z hm => ?_) f6
        obtain ⟨j, hj⟩ := List.mem_iff_getElem?.mp hm
        have := (List.getElem?_eq_some_iff.mp hj).1
        exact f5 j p z (by omega) hj

/-! ### tables while they are built -/
structure TabB (H0 H : Hp) (d : Addr) (l : List (Spot × Step1)) (As : List Addr) (n : Nat) : Prop where
  tb : ∃ kvs, H d = some (.dT kvs) ∧ kvs.length ≤ n ∧ (∀ p, (∃ a ws, valV kvs (spotKey p) = some (.ref a) ∧ a ∈ As ∧ H a = some (.lst ws) ∧ Paired (OnwAt H) (pick1 l p) ws) ∨ (valV kvs (spotKey p) = none ∧ pick1 l p = [])) ∧
    ∀ p q a, valV kvs (spotKey p) = some (.ref a) → valV kvs (spotKey q) = some (.ref a) → p = q
  fr : ∀ a ∈ As, H0 a = none
theorem TabB.kp {S : List Addr} {H0 H H' : Hp} {d : Addr} {l : List (Spot × Step1)} {As : List Addr} {n : Nat} (T : TabB H0 H d l As n) (k : Kp S H H') (kt : KpT H H') (hd : d ∉ S) (ha : ∀ a ∈ As, a ∉ S) : TabB H0 H' d l As n := by
  obtain ⟨⟨kvs, h1, h2, h3, h4⟩, h5⟩ := T
  refine ⟨⟨kvs, k _ _ h1 hd, h2, fun p => ?_, h4⟩, h5⟩
  rcases h3 p with ⟨a, ws, g1, g2, g3, g4⟩ | g
  · exact .inl ⟨a, ws, g1, g2, k _ _ g3 (ha a g2), paired_imp (fun _ _ => OnwAt.kp kt) g4⟩
  · exact .inr g
def PtrAt (H : Hp) (d : Addr) (p : Spot) (a : Addr) (ws : List V) : Prop := ∃ kvs, H d = some (.dT kvs) ∧ valV kvs (spotKey p) = some (.ref a) ∧ H a = some (.lst ws)
theorem pick1_snoc {l : List (Spot × Step1)} {p q : Spot} {e : Step1} : pick1 (l ++ [(p, e)]) q = pick1 l q ++ if p = q then [e] else [] := by
  unfold pick1
  rw [List.filter_append, List.map_append]
  congr 1
  by_cases c : p = q
  · rw [List.filter_cons_of_pos (by simp [c]), if_pos c]
    rfl
  · rw [List.filter_cons_of_neg (by simp [c]), if_neg c]
    rfl
theorem tab_new {H0 H : Hp} {d : Addr} {kvs : Kvs} {l : List (Spot × Step1)} {As : List Addr} {n : Nat} {p : Spot} {e : Addr} (T : TabB H0 H d l As n) (hd : H d = some (.dT kvs)) (hv : valV kvs (spotKey p) = none) (he : H e = some (.lst [])) (hn : e ∉ As) (h0 : H0 e = none) :
    TabB H0 (upd H d (.dT (putK kvs (spotKey p) (.ref e)))) d l (e :: As) (n + 1) ∧ PtrAt (upd H d (.dT (putK kvs (spotKey p) (.ref e)))) d p e [] := by
  obtain ⟨⟨kvs', h1, h2, h3, h4⟩, h5⟩ := T
  rw [hd] at h1
  cases h1
  have kt : KpT H (upd H d (.dT (putK kvs (spotKey p) (.ref e)))) := .of1 (.mut (List.mem_singleton.mpr rfl)) hd fun xs z => by cases z
  have ned : e ≠ d := fun z => by
    rw [z, hd] at he
    cases he
  refine ⟨⟨⟨_, upd_same, Nat.le_trans (length_putK ..) (Nat.succ_le_succ h2), fun q => ?_, fun q r a z1 z2 => ?_⟩, fun a m => ?_⟩, _, upd_same, by rw [valV_put, if_pos rfl], (upd_ne ned).trans he⟩
  · rw [valV_put]
    by_cases c : spotKey q = spotKey p
    · rw [if_pos c]
      have := spotKey_inj c
      subst this
      refine .inl ⟨e, [], rfl, List.mem_cons_self .., (upd_ne ned).trans he, ?_⟩
      rcases h3 q with ⟨a, ws, g1, _⟩ | ⟨_, g⟩
      · rw [hv] at g1
        cases g1
      · rw [g]
        exact .nil
    · rw [if_neg c]
      rcases h3 q with ⟨a, ws, g1, g2, g3, g4⟩ | g
      · have nad : a ≠ d := fun z => by
          rw [z, hd] at g3
          cases g3
        exact .inl ⟨a, ws, g1, List.mem_cons_of_mem _ g2, (upd_ne nad).trans g3, paired_imp (fun _ _ => OnwAt.kp kt) g4⟩
      · exact .inr g
  · have get : ∀ q a, valV (putK kvs (spotKey p) (.ref e)) (spotKey q) = some (.ref a) → (q = p ∧ a = e) ∨ (q ≠ p ∧ valV kvs (spotKey q) = some (.ref a) ∧ a ∈ As) := fun q a z => by
      rw [valV_put] at z
      by_cases c : spotKey q = spotKey p
      · rw [if_pos c] at z
        exact .inl ⟨spotKey_inj c, by cases z; rfl⟩
      · rw [if_neg c] at z
        refine .inr ⟨fun y => c (by rw [y]), z, ?_⟩
        rcases h3 q with ⟨a', ws, g1, g2, g3, g4⟩ | ⟨g, _⟩
        · rw [z] at g1
          cases g1
          exact g2
        · rw [z] at g
          cases g
    rcases get q a z1 with ⟨c1, c2⟩ | ⟨c1, c2, c3⟩ <;> rcases get r a z2 with ⟨b1, b2⟩ | ⟨b1, b2, b3⟩
    · rw [c1, b1]
    · exact absurd (c2 ▸ b3) hn
    · exact absurd (b2 ▸ c3) hn
    · exact h4 q r a c2 b2
  · rcases List.mem_cons.mp m with rfl | m
    · exact h0
    · exact h5 a m
theorem tab_app {H0 H : Hp} {d : Addr} {l : List (Spot × Step1)} {As : List Addr} {n : Nat} {p : Spot} {a : Addr} {ws : List V} {e : Step1} {w : V} (T : TabB H0 H d l As n) (P : PtrAt H d p a ws) (O : OnwAt H e w) :
    TabB H0 (upd H a (.lst (ws ++ [w]))) d (l ++ [(p, e)]) As n := by
  obtain ⟨⟨kvs, h1, h2, h3, h4⟩, h5⟩ := T
  obtain ⟨kvs', p1, p2, p3⟩ := P
  rw [h1] at p1
  cases p1
  have kt : KpT H (upd H a (.lst (ws ++ [w]))) := .lst p3
  have nda : d ≠ a := fun z => by
    rw [← z, h1] at p3
    cases p3
  refine ⟨⟨kvs, (upd_ne nda).trans h1, h2, fun q => ?_, h4⟩, h5⟩
  rw [pick1_snoc]
  by_cases c : p = q
  · subst c
    rw [if_pos rfl]
    rcases h3 p with ⟨a', ws', g1, g2, g3, g4⟩ | ⟨g, _⟩
    · rw [p2] at g1
      cases g1
      rw [p3] at g3
      cases g3
      exact .inl ⟨a, ws ++ [w], p2, g2, upd_same, paired_snoc (O.kp kt) (paired_imp (fun _ _ => OnwAt.kp kt) g4)⟩
    · rw [p2] at g
      cases g
  · rw [if_neg c, List.append_nil]
    rcases h3 q with ⟨a', ws', g1, g2, g3, g4⟩ | g
    · have : a' ≠ a := fun z => c (h4 p q a p2 (z ▸ g1))
      exact .inl ⟨a', ws', g1, g2, (upd_ne this).trans g3, paired_imp (fun _ _ => OnwAt.kp kt) g4⟩
    · exact .inr g
theorem TabB.tab {H0 H : Hp} {d : Addr} {l : List (Spot × Step1)} {As : List Addr} {n : Nat} (T : TabB H0 H d l As n) (h : n ≤ l.length) : Tab H d l := by
  obtain ⟨⟨kvs, h1, h2, h3, h4⟩, h5⟩ := T
  refine ⟨kvs, h1, by omega, fun p => ?_⟩
  rcases h3 p with ⟨a, ws, g1, g2, g3, g4⟩ | g
  · exact .inl ⟨a, ws, g1, g3, g4⟩
  · exact .inr g
theorem Tab.kp1 {H H' : Hp} {d u : Addr} {l : List (Spot × Step1)} {kv : Kvs} (T : Tab H d l) (k : Kp [u] H H') (hu : H u = some (.dT kv)) (n : d ≠ u) : Tab H' d l := by
  obtain ⟨kvs, h1, h2, h3⟩ := T
  refine ⟨kvs, k _ _ h1 (ni1 n), h2, fun p => ?_⟩
  rcases h3 p with ⟨a, ws, g1, g2, g3⟩ | g
  · have : a ≠ u := fun z => by
      rw [z, hu] at g2
      cases g2
    exact .inl ⟨a, ws, g1, k _ _ g2 (ni1 this), paired_imp (fun _ _ => OnwAt.kp (.of1 k hu fun xs e => by cases e)) g3⟩
  · exact .inr g
theorem eqv_spot {p q : Spot} : PyData.eqv (spotD p) (spotD q) = decide (p = q) := by
  obtain ⟨p1, p2⟩ := p
  obtain ⟨q1, q2⟩ := q
  rw [Bool.eq_iff_iff]
  simp only [spotD, PyData.eqv, PyData.eqvAll, Bool.and_true, Bool.and_eq_true, beq_iff_eq, decide_eq_true_eq, Prod.mk.injEq]
  constructor
  · rintro ⟨h1, h2⟩
    exact ⟨h1, by omega⟩
  · rintro ⟨h1, h2⟩
    exact ⟨h1, by omega⟩
theorem spot_shaped {p : Spot} (h : GoodName p.1) : SeqAt.shaped (spotD p) = true := by
  simp [SeqAt.shaped, spotD, PyData.canLay0, PyData.canLayAll0, PyData.depth, PyData.depthAll, name_ok h]
/-- both tables -/
structure St2 (H0 : Hp) (p : Addr) (ws0 : List V) (e1 e2 : Addr) (l1 l2 : List (Spot × Step1)) (As Bs : List Addr) (n1 n2 : Nat) (H : Hp) : Prop where
  t1 : TabB H0 H e1 l1 As n1
  t2 : TabB H0 H e2 l2 Bs n2
  dis : ∀ a ∈ As, a ∉ Bs
  pA : p ∉ As
  pB : p ∉ Bs
  onA : ∀ a ∈ As, ∃ xs, H a = some (.lst xs)
  onB : ∀ a ∈ Bs, ∃ xs, H a = some (.lst xs)
  ep : H p = some (.lst ws0)
  k : Kp [] H0 H
  f1 : H0 e1 = none
  f2 : H0 e2 = none
  ne : e1 ≠ e2
theorem St2.swap {H0 H : Hp} {p e1 e2 : Addr} {ws0 : List V} {l1 l2 : List (Spot × Step1)} {As Bs : List Addr} {n1 n2 : Nat} (T : St2 H0 p ws0 e1 e2 l1 l2 As Bs n1 n2 H) : St2 H0 p ws0 e2 e1 l2 l1 Bs As n2 n1 H :=
  ⟨T.t2, T.t1, fun a hb ha => T.dis a ha hb, T.pB, T.pA, T.onB, T.onA, T.ep, T.k, T.f2, T.f1, T.ne.symm⟩
theorem St2.new {H0 H : Hp} {p e1 e2 q : Addr} {ws0 : List V} {l1 l2 : List (Spot × Step1)} {As Bs : List Addr} {n1 n2 : Nat} {o : HO} (T : St2 H0 p ws0 e1 e2 l1 l2 As Bs n1 n2 H) (hq : H q = none) : St2 H0 p ws0 e1 e2 l1 l2 As Bs n1 n2 (upd H q o) :=
  ⟨T.t1.kp (S := []) (.new hq) (.new hq) (by simp) (by simp), T.t2.kp (S := []) (.new hq) (.new hq) (by simp) (by simp), T.dis, T.pA, T.pB, fun a ha => (T.onA a ha).imp fun xs h => look_new hq h, fun a ha => (T.onB a ha).imp fun xs h => look_new hq h, look_new hq T.ep, T.k.trans (.new hq), T.f1, T.f2, T.ne⟩
theorem St2.set {H0 H : Hp} {p e1 e2 z : Addr} {ws0 : List V} {l1 l2 : List (Spot × Step1)} {As Bs : List Addr} {n1 n2 : Nat} {kvs : Kvs} {s : Spot} (T : St2 H0 p ws0 e1 e2 l1 l2 As Bs n1 n2 H) (hd : H e1 = some (.dT kvs)) (hv : valV kvs (spotKey s) = none) (hz : H z = some (.lst [])) (zA : z ∉ As) (zB : z ∉ Bs) (zp : z ≠ p) (z0 : H0 z = none) :
    St2 H0 p ws0 e1 e2 l1 l2 (z :: As) Bs (n1 + 1) n2 (upd H e1 (.dT (putK kvs (spotKey s) (.ref z)))) ∧ PtrAt (upd H e1 (.dT (putK kvs (spotKey s) (.ref z)))) e1 s z [] := by
  obtain ⟨a1, a2⟩ := tab_new T.t1 hd hv hz zA z0
  have kt : KpT H (upd H e1 (.dT (putK kvs (spotKey s) (.ref z)))) := .of1 (.mut (List.mem_singleton.mpr rfl)) hd fun xs z => by cases z
  have nl : ∀ {a : Addr} {xs : List V}, H a = some (.lst xs) → a ≠ e1 := fun h z => by
    rw [z, hd] at h
    cases h
  refine ⟨⟨a1, T.t2.kp (S := [e1]) (.mut (by simp)) kt (ni1 T.ne.symm) (fun a ha => ?_), fun a ha => ?_, fun h => ?_, T.pB, fun a ha => ?_, fun a ha => ?_, (upd_ne (nl T.ep)).trans T.ep, T.k.own T.f1, T.f1, T.f2, T.ne⟩, a2⟩
  · obtain ⟨xs, h⟩ := T.onB a ha
    exact ni1 (nl h)
  · rcases List.mem_cons.mp ha with rfl | ha
    · exact zB
    · exact T.dis a ha
  · rcases List.mem_cons.mp h with h | h
    · exact zp h.symm
    · exact T.pA h
  · rcases List.mem_cons.mp ha with rfl | ha
    · exact ⟨[], (upd_ne (nl hz)).trans hz⟩
    · obtain ⟨xs, h⟩ := T.onA a ha
      exact ⟨xs, (upd_ne (nl h)).trans h⟩
  · obtain ⟨xs, h⟩ := T.onB a ha
    exact ⟨xs, (upd_ne (nl h)).trans h⟩
theorem St2.app {H0 H : Hp} {p e1 e2 a : Addr} {ws0 ws : List V} {l1 l2 : List (Spot × Step1)} {As Bs : List Addr} {n1 n2 : Nat} {s : Spot} {e : Step1} {w : V} (T : St2 H0 p ws0 e1 e2 l1 l2 As Bs n1 n2 H) (P : PtrAt H e1 s a ws) (ha : a ∈ As) (O : OnwAt H e w) :
    St2 H0 p ws0 e1 e2 (l1 ++ [(s, e)]) l2 As Bs n1 n2 (upd H a (.lst (ws ++ [w]))) := by
  have hl : H a = some (.lst ws) := by
    obtain ⟨_, _, _, h⟩ := P
    exact h
  have kt : KpT H (upd H a (.lst (ws ++ [w]))) := .lst hl
  have n2 : e2 ≠ a := fun z => by
    obtain ⟨⟨kvs, h, _⟩, _⟩ := T.t2
    rw [z, hl] at h
    cases h
  refine ⟨tab_app T.t1 P O, T.t2.kp (S := [a]) (.mut (by simp)) kt (ni1 n2) (fun b hb => ni1 fun z => T.dis a ha (z ▸ hb)), T.dis, T.pA, T.pB, fun b hb => ?_, fun b hb => ?_, (upd_ne (show p ≠ a from fun z => T.pA (by rw [z]; exact ha))).trans T.ep, T.k.own (T.t1.fr a ha), T.f1, T.f2, T.ne⟩
  · by_cases c : b = a
    · exact ⟨_, by rw [c]; exact upd_same⟩
    · obtain ⟨xs, h⟩ := T.onA b hb
      exact ⟨xs, (upd_ne c).trans h⟩
  · obtain ⟨xs, h⟩ := T.onB b hb
    exact ⟨xs, (upd_ne (show b ≠ a from fun z => T.dis a ha (by rw [← z]; exact hb))).trans h⟩
theorem St2.get {H0 H : Hp} {p e1 e2 : Addr} {ws0 : List V} {l1 l2 : List (Spot × Step1)} {As Bs : List Addr} {n1 n2 : Nat} (T : St2 H0 p ws0 e1 e2 l1 l2 As Bs n1 n2 H) : ∃ kvs, H e1 = some (.dT kvs) ∧ kvs.length ≤ n1 ∧
    ∀ s v, valV kvs (spotKey s) = some v → ∃ a ws, v = .ref a ∧ a ∈ As ∧ PtrAt H e1 s a ws ∧ ws.length ≤ l1.length := by
  obtain ⟨⟨kvs, h1, h2, h3, h4⟩, h5⟩ := T.t1
  refine ⟨kvs, h1, h2, fun s v hv => ?_⟩
  rcases h3 s with ⟨a, ws, g1, g2, g3, g4⟩ | ⟨g, _⟩
  · rw [hv] at g1
    refine ⟨a, ws, Option.some.inj g1, g2, ⟨kvs, h1, by rw [hv]; exact g1, g3⟩, ?_⟩
    rw [← g4.length]
    exact len_pick1
  · rw [hv] at g
    cases g
theorem PtrAt.new {H : Hp} {d q a : Addr} {s : Spot} {ws : List V} {o : HO} (P : PtrAt H d s a ws) (h : H q = none) : PtrAt (upd H q o) d s a ws := by
  obtain ⟨kvs, h1, h2, h3⟩ := P
  exact ⟨kvs, look_new h h1, h2, look_new h h3⟩

def sp_spread_out (K : PySem.W.Frag) : Sp := fun vs H Q _ => ∃ n d1 d2 xs rs rs0 x y, ∃ (t m : Nat) (c : Addr) (ls : List (Nat × Nat)) (as : List V), vs = [.ref n, .str x, .str y, .int t, .int m, .ref c] ∧ NetR K H n d1 d2 xs rs ∧ rs.length ≤ 30 ∧ rs.Perm rs0 ∧ ByMark rs0 ∧ t ≤ 40 ∧
  (∀ r ∈ rs0, 1 ≤ r.lag ∧ r.lag ≤ 4 ∧ r.one ∈ xs ∧ r.other ∈ xs ∧ r.one ≠ r.other) ∧ SqT K H c as ∧ Paired (LostAt H) ls as ∧ x ∈ xs ∧ x ≠ y ∧ xs.length ≤ 12 ∧ (∀ x ∈ xs, GoodName x) ∧ m ≤ 4 ∧
  ∀ q d H' r kv fs fkv, H' q = some (.tup [.int (r : Nat), .ref d]) → Flow (sndsOf rs0 t ls) t (x, 0) (y, t) r kv → LitAt (sndsOf rs0 t ls) t kv (x, 0) xs H' d fs fkv → (∀ p z, (p, z) ∈ fs → ∀ st g, Arc (sndsOf rs0 t ls) t kv p st g → g ∈ fs.map (·.1)) →
    r ≤ m → ((y, t) ∈ fs.map (·.1) → r = m) → H q = none → Kp [] H H' → Q (.ref q) H'
theorem fa_spread_out (T : Tx K mg) : FnA P w K mg base CX0 4 (He.fAd K ("spread_out", none)) 6 [] gPos (sp_spread_out K) := by
  obtain ⟨fd, F⟩ := T.D_spread_out
  have cl_Net := T.cl_Net
  have n_Net_named := T.n_Net_named
  have n_Net_roads := T.n_Net_roads
  refine FnA.pos F (F.ok (ps := ["net", "source", "house", "turn", "letters", "lost"]) sc_spread_out (fun vs H Q E h => ?_) (fun cdv A outer s H vs Q E hr h => ?_)) 6 (fun _ _ _ _ _ _ us hl => match us, hl with | [_, _, _, _, _, _], _ => rfl)
  · obtain ⟨_, _, _, _, _, _, _, _, _, _, _, _, _, rfl, _⟩ := h
    rfl
  · obtain ⟨n, d1, d2, xs, rs, rs0, x, y, t, m, c, ls, as, rfl, N, hrl, pm, hby, ht, hrs, hc, pl, hx, hxy, hxl, hxs, hm, k⟩ := h
    refine ⟨_, PSs.nox (pss_cons (ps_set (i := 6) sc_spread_out.nd rfl (Or.inl rfl) pe_dnewT)
    (pss_cons (ps_set (i := 7) sc_spread_out.nd rfl (Or.inl rfl) pe_dnewT)
    (pss_cons (ps_for PassesOwn.never rfl (pi_list (pe_f (fa_sendings T) (hr.mono (by decide)) rfl T.g_sendings pass0 (pa_cons (pv 0) (pa_cons (pv 3) (pa_cons (pv 5) pa_nil))))) (pg_tup rfl (pgs_cons (pg_name (i := 8) sc_spread_out.nd rfl (Or.inl rfl)) (pgs_cons (pg_name (i := 9) sc_spread_out.nd rfl (Or.inl rfl)) (pgs_cons (pg_name (i := 10) sc_spread_out.nd rfl (Or.inl rfl)) pgs_nil))))
    (pss_cons (ps_expr (pe_bm PySem.F.plainAttrs_list PySem.F.slot_list_append PySem.F.type_list_append mt_append (pe_dsetT (hu_of hr) (pv 6) (pv 9) (pe_lst pa_nil) ⟨by rfl, by rfl, by rfl, by rfl⟩) (pa_cons (pe_tup (pa_cons (pv 8) (pa_cons (pv 10) pa_nil))) pa_nil)))
    (pss_one (ps_expr (pe_bm PySem.F.plainAttrs_list PySem.F.slot_list_append PySem.F.type_list_append mt_append (pe_dsetT (hu_of hr) (pv 7) (pv 10) (pe_lst pa_nil) ⟨by rfl, by rfl, by rfl, by rfl⟩) (pa_cons (pe_tup (pa_cons (pv 8) (pa_cons (pv 9) pa_nil))) pa_nil))))))
    (pss_cons (ps_set (i := 11) sc_spread_out.nd rfl (Or.inl rfl) pe_dnewT)
    (pss_cons (ps_set (i := 12) sc_spread_out.nd rfl (Or.inl rfl) pe_int)
    (pss_cons (ps_set (i := 13) sc_spread_out.nd rfl (Or.inl rfl) (pe_f (fa_lit T) (hr.mono (by decide)) rfl T.g_lit pass0 (pa_cons (pv 1) (pa_cons (pv 3) (pa_cons (pv 6) (pa_cons (pv 7) (pa_cons (pv 11) pa_nil)))))))
    (pss_cons (ps_while PassesOwn.never (PW.pt (pw_and (pt_cmp (pc_din (hu_of hr) (pe_tup (pa_cons (pv 2) (pa_cons (pv 3) pa_nil))) (pv 13)) rfl) (pw_and1 (pt_cmpR op_lt (pv 12) (pv 4) (nomark _)))))
    (pss_cons (ps_set (i := 14) sc_spread_out.nd rfl (Or.inl rfl) (pe_tup (pa_cons (pv 2) (pa_cons (pv 3) pa_nil))))
    (pss_cons (ps_while PassesOwn.never (pt_cmpR (op_neD (hu64 hr)) (pv 14) (pe_tup (pa_cons (pv 1) (pa_cons pe_int pa_nil))) (nomark _))
    (pss_cons (ps_asg (pe_dget (hu_of hr) (pv 13) (pv 14) (fun _ _ => rfl)) (pg_tup rfl (pgs_cons (pg_name (i := 15) sc_spread_out.nd rfl (Or.inl rfl)) (pgs_cons (pg_name (i := 16) sc_spread_out.nd rfl (Or.inl rfl)) pgs_nil))))
    (pss_cons (ps_expr (pe_f (fa_taken_along T) (hr.mono (by decide)) rfl T.g_taken_along pass0 (pa_cons (pv 11) (pa_cons (pv 15) (pa_cons (pv 16) (pa_cons (pv 14) pa_nil))))))
    (pss_one (ps_set (i := 14) sc_spread_out.nd rfl (Or.inl rfl) (pv 16))))))
    (pss_cons (ps_aug (i := 12) sc_spread_out.nd rfl (Or.inl rfl) pe_int ip_add)
    (pss_one (ps_set (i := 13) sc_spread_out.nd rfl (Or.inl rfl) (pe_f (fa_lit T) (hr.mono (by decide)) rfl T.g_lit pass0 (pa_cons (pv 1) (pa_cons (pv 3) (pa_cons (pv 6) (pa_cons (pv 7) (pa_cons (pv 11) pa_nil))))))))))))
    (pss_one (ps_ret (pe_tup (pa_cons (pv 12) (pa_cons (pv 13) pa_nil)))))))))))), ?_⟩
    have hmk : (rs0.map Road.mark).Nodup := hby.imp fun z => Nat.ne_of_lt z
    have hS : SndsOk (sndsOf rs0 t ls) t := sndsOk hmk fun r hr => (hrs r hr).2.2.2.2
    have hin : ∀ s ∈ sndsOf rs0 t ls, s.one ∈ xs ∧ s.other ∈ xs ∧ s.mom ≤ t := fun s hs => by
      obtain ⟨r, hr, m, h, _, rfl⟩ := mem_sndsOf.mp hs
      exact ⟨(hrs r hr).2.2.1, (hrs r hr).2.2.2.1, by show m ≤ t; omega⟩
    have hlen : (sndsOf rs0 t ls).length ≤ 1230 := Nat.le_trans len_sndsOf (Nat.mul_le_mul (by rw [← pm.length_eq]; exact hrl : rs0.length ≤ 30) (by omega : t + 1 ≤ 41))
    walk_at "go"
    intro e1 h1
    walk_at "go"
    intro e2 h2
    walk_at "go"
    have ka : Kp [] H (upd (upd H e1 (.dT [])) e2 (.dT [])) := (Kp.new h1).trans (.new h2)
    have kta : KpT H (upd (upd H e1 (.dT [])) e2 (.dT [])) := .of ka (by simp)
    refine ⟨n, d1, d2, xs, rs, rs0, t, c, ls, as, rfl, N.kp ka kta (by simp) (by simp) (by simp), hrl, pm, hby, ht, fun r hr => ⟨(hrs r hr).1, (hrs r hr).2.1⟩, ka.seqT hc (by simp), paired_imp (fun _ _ => LostAt.kp kta) pl, fun p ws H1 pw hp ep k1 => ?_⟩
    have b1 := k1 e1 (.dT []) (look_new h2 upd_same) (by simp)
    have b2 := k1 e2 (.dT []) upd_same (by simp)
    have n12 : e1 ≠ e2 := ne_of_none (H := upd H e1 (.dT [])) upd_same h2
    have h2' := un_none h2
    have kb : Kp [] H H1 := ka.trans k1
    have hp' : H p = none := un_none (un_none hp)
    have np1 : e1 ≠ p := fun z => by rw [z] at b1; rw [b1] at ep; cases ep
    have np2 : e2 ≠ p := fun z => by rw [z] at b2; rw [b2] at ep; cases ep
    generalize hL : sndsOf rs0 t ls = L at *
    walk_at "go"
    have hw : ws.length = L.length := pw.length.symm
    refine loopL (xs := ws) (fun i σ H' => ∃ (o8 o9 o10 : Option V) (As Bs : List Addr), σ = [some (.ref n), some (.str x), some (.str y), some (.int t), some (.int m), some (.ref c), some (.ref e1), some (.ref e2), o8, o9, o10, none, none, none, none, none, none] ∧
      St2 H p ws e1 e2 (outs (L.take i)) (ins (L.take i)) As Bs i i H' ∧ KpT H1 H') ?_ (fun i σ H' _ hv => ?_) (fun i v σ H' hi hv => ?_) (fun σ H' hv => ?_)
    · refine ⟨_, _, _, [], [], rfl, ⟨⟨⟨[], b1, Nat.le_refl _, fun p => .inr ⟨rfl, rfl⟩, fun _ _ _ h => by cases h⟩, fun a h => by cases h⟩, ⟨⟨[], b2, Nat.le_refl _, fun p => .inr ⟨rfl, rfl⟩, fun _ _ _ h => by cases h⟩, fun a h => by cases h⟩, by simp, by simp, by simp, by simp, by simp, ep, kb, h1, h2', n12⟩, .refl⟩
    · obtain ⟨_, _, _, As, Bs, rfl, S, kt⟩ := hv
      exact .of S.ep
    · obtain ⟨_, _, _, As, Bs, rfl, S, kt⟩ := hv
      obtain ⟨s, hs, a, kk, ev, gv, rfl, ha, hk, ⟨eb, rfl, heb⟩, ⟨gb, rfl, hgb⟩⟩ := paired_get_r pw hi
      have hil : i < L.length := (List.getElem?_eq_some_iff.mp hs).1
      have ha' := kt _ _ ha
      obtain ⟨kvs1, y1, y2, y3⟩ := S.get
      walk_at "go"
      intro z hz
      have S2 := S.new (o := .lst []) hz
      have kt2 : KpT H1 (upd H' z (.lst [])) := kt.trans (.new hz)
      have zA : z ∉ As := fun h => by
        obtain ⟨xs, h⟩ := S.onA z h
        rw [hz] at h
        cases h
      have zB : z ∉ Bs := fun h => by
        obtain ⟨xs, h⟩ := S.onB z h
        rw [hz] at h
        cases h
      have zp : z ≠ p := fun h => by
        have := S.ep
        rw [← h, hz] at this
        cases this
      have z0 := S.k.none hz (by simp)
      refine z_setq (P := fun b H3 => ∃ ws1 As', St2 H p ws e1 e2 (outs (L.take i)) (ins (L.take i)) As' Bs (i + 1) i H3 ∧ PtrAt H3 e1 s.early b ws1 ∧ b ∈ As' ∧ ws1.length ≤ 2000 ∧ KpT H1 H3) (z_setdq (k := spotKey s.early) (look_new hz y1) (kt2 _ _ heb) (by rw [sizeLine_eq]; omega) (fun v hv => ?_) (fun hn => ?_)) (fun b H3 hP => ?_)
      · obtain ⟨kvs1', y1', y2', y3'⟩ := S2.get
        rw [look_new hz y1] at y1'
        cases y1'
        obtain ⟨b, ws1, rfl, q1, q2, q3⟩ := y3' s.early v hv
        refine ⟨b, rfl, ws1, As, ⟨⟨?_, S2.t1.fr⟩, S2.t2, S2.dis, S2.pA, S2.pB, S2.onA, S2.onB, S2.ep, S2.k, S2.f1, S2.f2, S2.ne⟩, q2, q1, ?_, kt2⟩
        · obtain ⟨kvs, r1, r2, r3⟩ := S2.t1.tb
          exact ⟨kvs, r1, by omega, r3⟩
        · have : (outs (L.take i)).length ≤ L.length := by simp [outs, List.length_take]; omega
          omega
      · obtain ⟨r1, r2⟩ := S2.set (look_new hz y1) hn upd_same zA zB zp z0
        exact ⟨z, rfl, [], z :: As, r1, r2, List.mem_cons_self .., by simp, kt2.trans (.of1 (.mut (List.mem_singleton.mpr rfl)) (look_new hz y1) fun xs z => by cases z)⟩
      obtain ⟨ws1, As', S3, P3, m3, l3, kt3⟩ := hP
      have hb3 : H3 b = some (.lst ws1) := by
        obtain ⟨_, _, _, h⟩ := P3
        exact h
      walk_at "go"
      intro c3 hc3
      have hb3' := look_new (z := .tup [.ref kk, .ref gb]) hc3 hb3
      refine z_nil (z_append hb3' (by rw [sizeLine_eq]; omega) ?_)
      have kt3' : KpT H1 (upd H3 c3 (.tup [.ref kk, .ref gb])) := kt3.trans (.new hc3)
      have S4 := (S3.new (o := .tup [.ref kk, .ref gb]) hc3).app (e := (some s.key, s.end_)) (w := .ref c3) (P3.new hc3) m3 ⟨c3, .ref kk, .ref gb, rfl, upd_same, ⟨kk, rfl, kt3' _ _ hk⟩, ⟨gb, rfl, kt3' _ _ hgb⟩⟩
      have kt4 := kt3'.trans (.lst (o := .lst (ws1 ++ [.ref c3])) hb3')
      generalize upd (upd H3 c3 (.tup [.ref kk, .ref gb])) b (.lst (ws1 ++ [.ref c3])) = H4 at *
      clear P3 m3 l3 hb3 hb3' kt3 kt3' S3 zA zB zp z0 kt2 S2 y1 y2 y3 ha'
      have eO : outs (L.take (i + 1)) = outs (L.take i) ++ [(s.early, (some s.key, s.end_))] := by
        rw [take_succ_get hs]
        unfold outs
        rw [List.map_append]
        rfl
      have eI : ins (L.take (i + 1)) = ins (L.take i) ++ [(s.end_, (some s.key, s.early))] := by
        rw [take_succ_get hs]
        unfold ins
        rw [List.map_append]
        rfl
      rw [← eO] at S4
      have S5 := S4.swap
      obtain ⟨kvs1, y1, y2, y3⟩ := S5.get
      walk_at "go"
      intro z2 hz2
      have S2 := S5.new (o := .lst []) hz2
      have kt2 : KpT H1 (upd H4 z2 (.lst [])) := kt4.trans (.new hz2)
      have zA : z2 ∉ Bs := fun h => by
        obtain ⟨xs, h⟩ := S5.onA z2 h
        rw [hz2] at h
        cases h
      have zB : z2 ∉ As' := fun h => by
        obtain ⟨xs, h⟩ := S5.onB z2 h
        rw [hz2] at h
        cases h
      have zp : z2 ≠ p := fun h => by
        have := S5.ep
        rw [← h, hz2] at this
        cases this
      have z0 := S5.k.none hz2 (by simp)
      refine z_setq (P := fun b H3 => ∃ ws1 Bs', St2 H p ws e2 e1 (ins (L.take i)) (outs (L.take (i + 1))) Bs' As' (i + 1) (i + 1) H3 ∧ PtrAt H3 e2 s.end_ b ws1 ∧ b ∈ Bs' ∧ ws1.length ≤ 2000 ∧ KpT H1 H3) (z_setdq (k := spotKey s.end_) (look_new hz2 y1) (kt2 _ _ hgb) (by rw [sizeLine_eq]; omega) (fun v hv => ?_) (fun hn => ?_)) (fun b H3 hP => ?_)
      · obtain ⟨kvs1', y1', y2', y3'⟩ := S2.get
        rw [look_new hz2 y1] at y1'
        cases y1'
        obtain ⟨b, ws1, rfl, q1, q2, q3⟩ := y3' s.end_ v hv
        refine ⟨b, rfl, ws1, Bs, ⟨⟨?_, S2.t1.fr⟩, S2.t2, S2.dis, S2.pA, S2.pB, S2.onA, S2.onB, S2.ep, S2.k, S2.f1, S2.f2, S2.ne⟩, q2, q1, ?_, kt2⟩
        · obtain ⟨kvs, r1, r2, r3⟩ := S2.t1.tb
          exact ⟨kvs, r1, by omega, r3⟩
        · have : (ins (L.take i)).length ≤ L.length := by simp [ins, List.length_take]; omega
          omega
      · obtain ⟨r1, r2⟩ := S2.set (look_new hz2 y1) hn upd_same zA zB zp z0
        exact ⟨z2, rfl, [], z2 :: Bs, r1, r2, List.mem_cons_self .., by simp, kt2.trans (.of1 (.mut (List.mem_singleton.mpr rfl)) (look_new hz2 y1) fun xs z => by cases z)⟩
      obtain ⟨ws2, Bs', S3, P3, m3, l3, kt3⟩ := hP
      have hb3 : H3 b = some (.lst ws2) := by
        obtain ⟨_, _, _, h⟩ := P3
        exact h
      walk_at "go"
      intro c4 hc4
      have hb3' := look_new (z := .tup [.ref kk, .ref eb]) hc4 hb3
      refine z_nil (z_append hb3' (by rw [sizeLine_eq]; omega) ?_)
      have kt3' : KpT H1 (upd H3 c4 (.tup [.ref kk, .ref eb])) := kt3.trans (.new hc4)
      have S6 := (S3.new (o := .tup [.ref kk, .ref eb]) hc4).app (e := (some s.key, s.early)) (w := .ref c4) (P3.new hc4) m3 ⟨c4, .ref kk, .ref eb, rfl, upd_same, ⟨kk, rfl, kt3' _ _ hk⟩, ⟨eb, rfl, kt3' _ _ heb⟩⟩
      rw [← eI] at S6
      exact ⟨_, _, _, As', Bs', rfl, S6.swap, kt3'.trans (.lst hb3')⟩
    · obtain ⟨_, _, _, As, Bs, rfl, S, kt⟩ := hv
      rw [hw, List.take_length] at S
      have T1 := S.t1.tab (by simp [outs])
      have T2 := S.t2.tab (by simp [ins])
      have kS := S.k
      clear S
      walk_at "go"
      intro u hu
      have n1u : e1 ≠ u := by
        obtain ⟨_, h, _⟩ := T1
        exact ne_of_none h hu
      have n2u : e2 ≠ u := by
        obtain ⟨_, h, _⟩ := T2
        exact ne_of_none h hu
      have T1 := T1.kp (.new (o := .dT []) hu)
      have T2 := T2.kp (.new (o := .dT []) hu)
      have ku : Kp [] H (upd H' u (.dT [])) := kS.trans (.new hu)
      have hu0 : H u = none := kS.none hu (by simp)
      have eu : upd H' u (.dT []) u = some (.dT []) := upd_same
      generalize upd H' u (.dT []) = H5 at *
      walk_at "go"
      refine ⟨L, t, e1, e2, u, [], x, xs, rfl, T1, T2, eu, flow_nil (a := (x, 0)) (b := (y, t)).1, hS, hin, hx, hxl, ht, by omega, fun d fs fkv H6 hd LT C k6 => ?_⟩
      walk_at "go"
      refine loopW (fun w σ H' => ∃ (o8 o9 o10 o14 o15 o16 : Option V) (r : Nat) (d : Addr) (kv : Kvs) (fs : Fnd) (fkv : Kvs), w = 5 - r ∧ σ = [some (.ref n), some (.str x), some (.str y), some (.int t), some (.int m), some (.ref c), some (.ref e1), some (.ref e2), o8, o9, o10, some (.ref u), some (.int r), some (.ref d), o14, o15, o16] ∧
        r ≤ m ∧ H' u = some (.dT kv) ∧ kv.length ≤ 500 * r ∧ Flow L t (x, 0) (y, t) r kv ∧ LitAt L t kv (x, 0) xs H' d fs fkv ∧ (∀ p z, (p, z) ∈ fs → ∀ st g, Arc L t kv p st g → g ∈ fs.map (·.1)) ∧ Tab H' e1 (outs L) ∧ Tab H' e2 (ins L) ∧ d ≠ u ∧ Kp [] H H') 5 ?_ (fun w σ H' hv => ?_)
      · exact ⟨_, _, _, _, _, _, 0, d, [], fs, fkv, rfl, rfl, Nat.zero_le _, k6 _ _ eu (by simp), Nat.zero_le _, flow_nil, LT, C, T1.kp k6, T2.kp k6, (ne_of_none eu hd).symm, ku.trans k6⟩
      · obtain ⟨o8, o9, o10, o14, o15, o16, r, d, kv, fs, fkv, rfl, rfl, hr, hu', hkl, Fl, LT, C, T1, T2, ndu, kk⟩ := hv
        walk_at "go"
        intro p0 h0
        have ed0 := look_new (z := .tup [.str y, .int t]) h0 LT.at_
        have hu0' := look_new (z := .tup [.str y, .int t]) h0 hu'
        have LT0 := LT.kp (S := []) (.new (o := .tup [.str y, .int t]) h0) (.new h0) (by simp)
        have T10 := T1.kp (.new (o := .tup [.str y, .int t]) h0)
        have T20 := T2.kp (.new (o := .tup [.str y, .int t]) h0)
        have kk0 : Kp [] H (upd H' p0 (.tup [.str y, .int t])) := kk.trans (.new h0)
        walk_at "go"
        refine z_dinq (DGet.t (k := spotKey (y, t)) ed0 upd_same) ?_
        rw [val_fnd LT0.row]
        generalize upd H' p0 (.tup [.str y, .int t]) = H7 at *
        have fin : ((y, t) ∈ fs.map (·.1) → r = m) → ∀ q, H7 q = none → Q (.ref q) (upd H7 q (.tup [.int (r : Nat), .ref d])) := fun h q hq =>
          k q d _ r kv fs fkv upd_same Fl (LT0.kp (S := []) (.new hq) (.new hq) (by simp)) C hr h (kk0.none hq (by simp)) (kk0.trans (.new hq))
        by_cases cb : (y, t) ∈ fs.map (·.1)
        · rw [decide_eq_true cb]
          walk_at "go"
          refine i_dec (fun c1 => ?_) (fun c1 => ?_)
          · refine ⟨_, fun _ _ h => h, ?_⟩
            obtain ⟨⟨b0, zb⟩, hb0, eb0⟩ := List.mem_map.mp cb
            have eb0' : b0 = (y, t) := eb0
            subst eb0'
            obtain ⟨i0, hi0⟩ := List.mem_iff_getElem?.mp hb0
            have hi0l := (List.getElem?_eq_some_iff.mp hi0).1
            have hfl := LT.len hxl ht
            walk_at "go"
            intro ha hha
            have kta : KpT H7 (upd H7 ha (.tup [.str y, .int t])) := .new hha
            have LTa := LT0.kp (S := []) (.new (o := .tup [.str y, .int t]) hha) kta (by simp)
            have T1a := T10.kp (.new (o := .tup [.str y, .int t]) hha)
            have T2a := T20.kp (.new (o := .tup [.str y, .int t]) hha)
            have kka : Kp [] H (upd H7 ha (.tup [.str y, .int t])) := kk0.trans (.new hha)
            have hua := look_new (z := .tup [.str y, .int t]) hha hu0'
            have eha : upd H7 ha (.tup [.str y, .int t]) ha = some (.tup [.str y, .int t]) := upd_same
            generalize upd H7 ha (.tup [.str y, .int t]) = H8 at *
            walk_at "go"
            refine loopW (fun w σ H' => ∃ (o15 o16 : Option V) (i : Nat) (p : Spot) (z : Option Step1) (kv' : Kvs) (ha : Addr), w = i ∧ σ = [some (.ref n), some (.str x), some (.str y), some (.int t), some (.int m), some (.ref c), some (.ref e1), some (.ref e2), o8, o9, o10, some (.ref u), some (.int r), some (.ref d), some (.ref ha), o15, o16] ∧
              H' ha = some (.tup [.str p.1, .int p.2]) ∧ fs[i]? = some (p, z) ∧ Way L t kv fs (y, t) i kv' ∧ H' u = some (.dT kv') ∧ kv'.length + i ≤ 500 * r + i0 ∧ LitAt L t kv (x, 0) xs H' d fs fkv ∧ Tab H' e1 (outs L) ∧ Tab H' e2 (ins L) ∧ Kp [] H H') i0 ?_ (fun w σ H' hv => ?_)
            · exact ⟨_, _, i0, (y, t), zb, kv, ha, rfl, rfl, eha, hi0, way_start Fl.1 hi0, hua, by omega, LTa, T1a, T2a, kka⟩
            · clear eha hua kka T1a T2a LTa kta hha fin kk0 T10 T20 LT0 hu0' ed0
              obtain ⟨o15, o16, i, p2, z, kv', ha, hwi, rfl, eha, hfi, W, hua, hkl2, LTa, T1a, T2a, kka⟩ := hv
              walk_at "go"
              intro s0 hs0
              have ehs := look_new (z := .tup [.str x, .int 0]) hs0 eha
              have es0 : upd H' s0 (.tup [.str x, .int 0]) s0 = some (.tup [.str x, .int 0]) := upd_same
              have LTs := LTa.kp (S := []) (.new (o := .tup [.str x, .int 0]) hs0) (.new hs0) (by simp)
              have T1s := T1a.kp (.new (o := .tup [.str x, .int 0]) hs0)
              have T2s := T2a.kp (.new (o := .tup [.str x, .int 0]) hs0)
              have kks : Kp [] H (upd H' s0 (.tup [.str x, .int 0])) := kka.trans (.new hs0)
              have hus := look_new (z := .tup [.str x, .int 0]) hs0 hua
              generalize upd H' s0 (.tup [.str x, .int 0]) = H9 at *
              walk_at "go"
              have hp2 := (LTs.in_ _ (List.mem_of_getElem? hfi)).1
              refine ⟨spotD p2, spotD (x, 0), spot_dp ehs, spot_dp (p := (x, 0)) es0, spot_shaped (hxs _ hp2), spot_shaped (hxs _ hx), ?_⟩
              rw [eqv_spot]
              walk_at "go"
              refine i_ndec (fun cp => ?_) (fun cp => ?_)
              · refine ⟨_, fun _ _ h => h, ?_⟩
                have hi1 : 0 < i := by
                  rcases Nat.eq_zero_or_pos i with c0 | c0
                  · rw [c0, LTs.ok.src] at hfi
                    cases hfi
                    exact absurd rfl cp
                  · exact c0
                obtain ⟨st, p', j, z', ez, hj, hfj, hA, W'⟩ := way_step hS LTs.ok W hfi hi1
                subst ez
                obtain ⟨v, hv, _, c0, sv, qv, ec0, hc0, hst, hb, ehb', ehb⟩ := LTs.val hfi
                have ec0' : v = .ref c0 := ec0
                subst ec0'
                subst ehb'
                have eds := LTs.at_
                walk_at "go"
                refine z_dgetq (v := .ref c0) (by rw [← hv]; exact DGet.t (k := spotKey p2) eds ehs) ?_
                walk_at "go"
                refine ⟨L, t, u, kv', st, p', p2, sv, hb, ha, rfl, hus, hst, ehb, ehs, hS, W.ok, hA, by omega, fun H10 h10 k10 => ?_⟩
                have kt10 : KpT H9 H10 := .of1 k10 hus fun ys e => by cases e
                have ndu' : d ≠ u := ndu
                have e1u : e1 ≠ u := n1u
                have e2u : e2 ≠ u := n2u
                walk_at "go"
                refine ⟨j, by omega, _, _, j, p', z', along kv' st p' p2, hb, rfl, rfl, kt10 _ _ ehb, hfj, W', h10, ?_, LTs.kp k10 kt10 (ni1 ndu'), T1s.kp1 k10 hus e1u, T2s.kp1 k10 hus e2u, kks.fresh k10 fun a h => .inl (by rw [List.mem_singleton.mp h]; exact hu0)⟩
                have := along_len (kv := kv') (st := st) (a := p') (b := p2)
                omega
              · have hi00 : i = 0 := by
                  subst cp
                  exact fnd_inj LTs.ok.nd hfi LTs.ok.src
                subst hi00
                have Fl2 := flow_more Fl LTs.ok W
                walk_at "go"
                refine ⟨L, t, e1, e2, u, kv', x, xs, rfl, T1s, T2s, hus, Fl2.1, hS, hin, hx, hxl, ht, by omega, fun d' fs' fkv' H10 hd' LT' C' k10 => ?_⟩
                walk_at "go"
                refine ⟨5 - (r + 1), by omega, o8, o9, o10, some (.ref ha), o15, o16, r + 1, d', kv', fs', fkv', rfl, ?_, by omega, k10 _ _ hus (by simp), by omega, Fl2, LT', C', T1s.kp k10, T2s.kp k10, (ne_of_none hus hd').symm, kks.trans k10⟩
                show _ = _
                push_cast
                rfl
          · walk_at "go"
            exact fin (fun _ => by omega)
        · rw [decide_eq_false cb]
          walk_at "go"
          exact fin (fun h => absurd h cb)

def sp_reach (K : PySem.W.Frag) : Sp := fun vs H Q _ => ∃ n d1 d2 xs rs rs0 x y, ∃ (t m : Nat) (c : Addr) (ls : List (Nat × Nat)) (as : List V), vs = [.ref n, .str x, .str y, .int t, .int m, .ref c] ∧ NetR K H n d1 d2 xs rs ∧ rs.length ≤ 30 ∧ rs.Perm rs0 ∧ ByMark rs0 ∧ t ≤ 40 ∧
  (∀ r ∈ rs0, 1 ≤ r.lag ∧ r.lag ≤ 4 ∧ r.one ∈ xs ∧ r.other ∈ xs ∧ r.one ≠ r.other) ∧ SqT K H c as ∧ Paired (LostAt H) ls as ∧ (∀ s ∈ ls, s.1 ∈ rs.map Road.mark) ∧ x ∈ xs ∧ y ∈ xs ∧ x ≠ y ∧ xs.length ≤ 12 ∧ (∀ x ∈ xs, GoodName x) ∧ 1 ≤ m ∧ m ≤ 4 ∧
  ∀ r H', IsReach (sndsOf rs0 t ls) t (x, 0) (y, t) m r → Kp [] H H' → Q (.int (r : Nat)) H'
theorem ok_reach (T : Tx K mg) : ∃ fd, FunD K "reach" "reach" (defArgs s_reach) (defBody s_reach) (defScope s_reach) [] [("letters", .int 2), ("lost", .ref (kwAdr ("reach", none) "lost" K))] (He.fAd K ("reach", none)) fd ∧ FnOk P w K mg base CX0 5 (He.fAd K ("reach", none)) fd ["net", "source", "house", "turn", "letters", "lost"] (sp_reach K) := by
  obtain ⟨fd, F⟩ := T.D_reach
  have cl_Net := T.cl_Net
  have n_Net_named := T.n_Net_named
  have n_Net_roads := T.n_Net_roads
  refine ⟨fd, F, F.ok (ps := ["net", "source", "house", "turn", "letters", "lost"]) sc_reach (fun vs H Q E h => ?_) (fun cdv A outer s H vs Q E hr h => ?_)⟩
  · obtain ⟨_, _, _, _, _, _, _, _, _, _, _, _, _, rfl, _⟩ := h
    rfl
  · obtain ⟨n, d1, d2, xs, rs, rs0, x, y, t, m, c, ls, as, rfl, N, hrl, pm, hby, ht, hrs, hc, pl, hls, hx, hy, hxy, hxl, hxs, m1, m4, k⟩ := h
    refine ⟨_, PSs.nox (pss_cons (ps_expr (pe_f (fa_need_asked T) (hr.mono (by decide)) rfl T.g_need_asked pass0 (pa_cons (pv 0) (pa_cons (pv 1) (pa_cons (pv 2) (pa_cons (pv 3) (pa_cons (pv 4) (pa_cons (pv 5) pa_nil))))))))
    (pss_one (ps_ret (pe_ix ix_tup (pe_f (fa_spread_out T) (hr.mono (by decide)) rfl T.g_spread_out pass0 (pa_cons (pv 0) (pa_cons (pv 1) (pa_cons (pv 2) (pa_cons (pv 3) (pa_cons (pv 4) (pa_cons (pv 5) pa_nil))))))) pe_int (fun _ _ => rfl))))), ?_⟩
    walk_at "go"
    refine ⟨n, d1, d2, xs, rs, x, y, t, m, c, ls, as, rfl, N, hx, hy, hxy, ht, m1, m4, hc, pl, hls, ?_⟩
    walk_at "go"
    refine ⟨n, d1, d2, xs, rs, rs0, x, y, t, m, c, ls, as, rfl, N, hrl, pm, hby, ht, hrs, hc, pl, hx, hxy, hxl, hxs, m4, fun q d H' r kv fs fkv eq Fl LT C hr h2 hq kk => ?_⟩
    walk_at "go"
    exact k r H' (reach_of (sndsOk (hby.imp fun z => Nat.ne_of_lt z) fun r hr => (hrs r hr).2.2.2.2) Fl LT.ok C hr h2) kk
theorem fa_reach_letters_lost (T : Tx K mg) : FnA P w K mg base CX0 5 (He.fAd K ("reach", none)) 4 ["letters", "lost"] (fun vs zs => pick [(0, 0), (0, 1), (0, 2), (0, 3), (2, 0), (2, 1)] vs [] zs) (sp_reach K) := by
  obtain ⟨fd, F, G⟩ := ok_reach T
  refine FnA.kw F G 4 _ _ fun _ _ _ _ _ _ us ws h1 h2 => ?_
  match us, ws, h1, h2 with
  | [_, _, _, _], [_, _], _, _ => rfl
theorem fa_reach_letters (T : Tx K mg) : FnA P w K mg base CX0 5 (He.fAd K ("reach", none)) 4 ["letters"] (fun vs zs => pick [(0, 0), (0, 1), (0, 2), (0, 3), (2, 0), (1, 0)] vs [.ref (kwAdr ("reach", none) "lost" K)] zs) (sp_reach K) := by
  obtain ⟨fd, F, G⟩ := ok_reach T
  refine FnA.kd F G 4 ["letters"] [("lost", .ref (kwAdr ("reach", none) "lost" K))] _ (by simp) (by simp) fun D _ _ _ _ _ us mv ws h1 h2 h3 => ?_
  match us, mv, ws, h1, h2, h3 with
  | [_, _, _, _], [_], [_], _, _, _ => exact ⟨_, _, _, _, _, _, rfl, rfl, rfl⟩

/-! ### the law -/
def sp_law (K : PySem.W.Frag) : Sp := fun vs H Q _ => ∃ (a : Addr) (ns : List Int), vs = [.ref a] ∧ SqL K H a (ns.map V.int) ∧ ns.length ≤ 63 ∧ ∀ H', Q (.bl true) H'
theorem goodRoads {xs : List Str} {n m : Nat} {rs : List Road} (g : GoodRoads xs n m rs) : ∀ r ∈ rs, 1 ≤ r.lag ∧ r.lag ≤ 4 ∧ r.one ∈ xs ∧ r.other ∈ xs ∧ r.one ≠ r.other := fun r hr => by
  obtain ⟨a, b, c, d, e, f⟩ := g.ok r hr
  exact ⟨e, f, b, c, d⟩
def EAt (kvs : List (Key × V)) (f : Ear) : Prop := ∀ z, valV kvs (.inr z) = (f z).map fun e => .int (e : Nat)
def ear0 (x : Str) : Ear := fun z => if z = x then some 0 else none
theorem ear0_at {x : Str} : EAt [(.inr x, .int 0)] (ear0 x) := fun z => by
  unfold ear0
  by_cases c : z = x
  · rw [valV_pos (by rw [c]), if_pos c]
    rfl
  · rw [valV_neg (fun e => c (Sum.inr.inj e).symm), if_neg c]
    rfl
theorem ear0_ok {rs : List Road} {x : Str} {xs : List Str} (hx : x ∈ xs) : EarOk rs x xs (ear0 x) where
  snd := fun z e h => by
    unfold ear0 at h
    by_cases c : z = x
    · rw [if_pos c] at h
      cases h
      rw [c]
      exact .base
    · rw [if_neg c] at h
      cases h
  low := fun z e h => by
    unfold ear0 at h
    by_cases c : z = x
    · rw [if_pos c] at h
      cases h
      have : 0 < cntE xs (ear0 x) := List.length_pos_of_mem (List.mem_filter.mpr ⟨hx, by unfold ear0; rw [if_pos rfl]; rfl⟩)
      omega
    · rw [if_neg c] at h
      cases h
  src := ⟨0, if_pos rfl⟩
theorem EAt.put {kvs : List (Key × V)} {f : Ear} {r : Road} {e : Nat} (E : EAt kvs f) (h : f r.one = some e) : EAt (putK kvs (.inr r.other) (.int (min ((f r.other).getD 99) (e + r.lag) : Nat))) (relax f r) := fun z => by
  rw [valV_put]
  unfold relax
  rw [h]
  by_cases c : z = r.other
  · rw [if_pos (by rw [c])]
    simp [c]
  · rw [if_neg (fun e => c (Sum.inr.inj e))]
    simp only [if_neg c]
    exact E z
theorem relax_none {f : Ear} {r : Road} (h : f r.one = none) : relax f r = f := by
  unfold relax
  rw [h]
/-- what the law's loops keep -/
structure LawAt (K : PySem.W.Frag) (b l n d1 d2 c p q lo ed : Addr) (xs xs' : List Str) (rs rs' : List Road) (vs : List V) (ls : List (Nat × Nat)) (as : List V) (kvs : List (Key × V)) (H : Hp) : Prop where
  B : BagAt H b l
  N : NetR K H n d1 d2 xs' rs'
  ec : H c = some (.tup [.ref p, .ref q])
  ep : H p = some (.lst (xs.map .str))
  eq : H q = some (.lst vs)
  pr : Paired (RoadAt H) rs vs
  elo : H lo = some (.tup as)
  pl : Paired (LostAt H) ls as
  hed : H ed = some (.dK kvs)
  nd1 : d1 ≠ ed
  nd2 : d2 ≠ ed
theorem NetR.neb {H : Hp} {b l n d1 d2 : Addr} {xs : List Str} {rs : List Road} (N : NetR K H n d1 d2 xs rs) (B : BagAt H b l) : n ≠ b ∧ d1 ≠ b ∧ d2 ≠ b := by
  obtain ⟨ns, i, r, s, h1, h2, h3, h4⟩ := B
  obtain ⟨kvs, ⟨dx, g1, g2, g3, _⟩, _⟩ := N
  refine ⟨fun z => ?_, fun z => ?_, fun z => ?_⟩
  · rw [z, h1] at g1
    cases g1
  · rw [z, h1] at g2
    cases g2
  · rw [z, h1] at g3
    cases g3
theorem LawAt.kp {b l n d1 d2 c p q lo ed : Addr} {xs xs' : List Str} {rs rs' : List Road} {vs : List V} {ls : List (Nat × Nat)} {as : List V} {kvs : List (Key × V)} {H H' : Hp} (W : LawAt K b l n d1 d2 c p q lo ed xs xs' rs rs' vs ls as kvs H) (npb : p ≠ b) (nqb : q ≠ b) (k : Kp [b] H H') (B' : BagAt H' b l) : LawAt K b l n d1 d2 c p q lo ed xs xs' rs rs' vs ls as kvs H' := by
  have kt := W.B.kpt k
  obtain ⟨g1, g2, g3⟩ := W.N.neb W.B
  have neb : ed ≠ b := fun z => by
    obtain ⟨_, _, _, _, h, _⟩ := W.B
    have := W.hed
    rw [z, h] at this
    cases this
  exact ⟨B', W.N.kp k kt (ni1 g1) (ni1 g2) (ni1 g3), kt _ _ W.ec, k _ _ W.ep (ni1 npb), k _ _ W.eq (ni1 nqb), roads_kp kt W.pr, kt _ _ W.elo, paired_imp (fun _ _ => LostAt.kp kt) W.pl, k _ _ W.hed (ni1 neb), W.nd1, W.nd2⟩
theorem LawAt.put {b l n d1 d2 c p q lo ed : Addr} {xs xs' : List Str} {rs rs' : List Road} {vs : List V} {ls : List (Nat × Nat)} {as : List V} {kvs kvs' : List (Key × V)} {H : Hp} (W : LawAt K b l n d1 d2 c p q lo ed xs xs' rs rs' vs ls as kvs H) :
    LawAt K b l n d1 d2 c p q lo ed xs xs' rs rs' vs ls as kvs' (upd H ed (.dK kvs')) := by
  have k : Kp [ed] H (upd H ed (.dK kvs')) := .mut (by simp)
  have kt : KpT H (upd H ed (.dK kvs')) := .of1 k W.hed fun xs e => by cases e
  have nl : ∀ {a : Addr} {o : HO}, H a = some o → (∀ z, o ≠ .dK z) → a ≠ ed := fun h1 h2 z => by
    have := W.hed
    rw [← z, h1] at this
    exact h2 _ (Option.some.inj this)
  obtain ⟨kv, ⟨dx, g1, g2, g3, g4⟩, g5⟩ := W.N
  have hN : NetR K H n d1 d2 xs' rs' := W.N
  obtain ⟨ns', i, r, s, h1, h2, h3, h4⟩ := W.B
  refine ⟨W.B.kp k (ni1 (nl h1 fun z e => by cases e)) (ni1 (nl h2 fun z e => by cases e)), hN.kp k kt (ni1 (nl g1 fun z e => by cases e)) (ni1 W.nd1) (ni1 W.nd2), kt _ _ W.ec, k _ _ W.ep (ni1 (nl W.ep fun z e => by cases e)), k _ _ W.eq (ni1 (nl W.eq fun z e => by cases e)), roads_kp kt W.pr, kt _ _ W.elo, paired_imp (fun _ _ => LostAt.kp kt) W.pl, upd_same, W.nd1, W.nd2⟩
/-- what the law's loops know -/
structure LawFx (b p q : Addr) (xs xs' : List Str) (rs rs' : List Road) (x y : Str) : Prop where
  pb : p ≠ b
  qb : q ≠ b
  px : xs'.Perm xs
  pr : rs'.Perm rs
  by_ : ByMark rs
  len : rs.length ≤ 10
  good : ∀ r ∈ rs, 1 ≤ r.lag ∧ r.lag ≤ 4 ∧ r.one ∈ xs ∧ r.other ∈ xs ∧ r.one ≠ r.other
  xl : xs.length ≤ 7
  nm : ∀ z ∈ xs, GoodName z
  x_ : x ∈ xs
  y_ : y ∈ xs
  ne : x ≠ y
theorem LawAt.k0 {b l n d1 d2 c p q lo ed : Addr} {xs xs' : List Str} {rs rs' : List Road} {vs : List V} {ls : List (Nat × Nat)} {as : List V} {kvs : List (Key × V)} {H H' : Hp} (W : LawAt K b l n d1 d2 c p q lo ed xs xs' rs rs' vs ls as kvs H) (npb : p ≠ b) (nqb : q ≠ b) (k : Kp [] H H') : LawAt K b l n d1 d2 c p q lo ed xs xs' rs rs' vs ls as kvs H' :=
  W.kp npb nqb (k.mono (by simp)) (W.B.kp k (by simp) (by simp))
theorem reach_go {b l n d1 d2 c p q lo ed cz : Addr} {xs xs' : List Str} {rs rs' : List Road} {vs : List V} {ls lz : List (Nat × Nat)} {as az : List V} {kvs : List (Key × V)} {H : Hp} {x y : Str} {t m : Nat} {Q : VK} {E : XK} (FX : LawFx b p q xs xs' rs rs' x y)
    (W : LawAt K b l n d1 d2 c p q lo ed xs xs' rs rs' vs ls as kvs H) (ht : t ≤ 40) (m1 : 1 ≤ m) (m4 : m ≤ 4) (hc : SqT K H cz az) (pl : Paired (LostAt H) lz az) (hlz : ∀ s ∈ lz, ∃ r ∈ rs, s.1 = r.mark)
    (k : ∀ r H', IsReach (sndsOf rs t lz) t (x, 0) (y, t) m r → LawAt K b l n d1 d2 c p q lo ed xs xs' rs rs' vs ls as kvs H' → Kp [] H H' → Q (.int (r : Nat)) H') : sp_reach K [.ref n, .str x, .str y, .int t, .int m, .ref cz] H Q E :=
  ⟨n, d1, d2, xs', rs', rs, x, y, t, m, cz, lz, az, rfl, W.N, by rw [FX.pr.length_eq]; have := FX.len; omega, FX.pr, FX.by_, ht, fun r hr => by
      obtain ⟨a1, a2, a3, a4, a5⟩ := FX.good r hr
      exact ⟨a1, a2, FX.px.mem_iff.mpr a3, FX.px.mem_iff.mpr a4, a5⟩, hc, pl, fun s hs => by
      obtain ⟨r, hr, e⟩ := hlz s hs
      exact List.mem_map.mpr ⟨r, FX.pr.mem_iff.mpr hr, e.symm⟩, FX.px.mem_iff.mpr FX.x_, FX.px.mem_iff.mpr FX.y_, FX.ne, by rw [FX.px.length_eq]; have := FX.xl; omega, fun z hz => FX.nm z (FX.px.mem_iff.mp hz), m1, m4, fun r H' R kk => k r H' R (W.k0 FX.pb FX.qb kk) kk⟩
theorem z_catA1 {H : Hp} {Q : VK} {a b : Addr} {xs : List V} {w : V} (h1 : SqT K H a xs) (h2 : H b = some (.tup [w])) (l : xs.length < 1000) (q : ∀ z H', H' z = some (.tup (xs ++ [w])) → Kp [] H H' → Q (.ref z) H') : rCatA K (.ref a) (.ref b) H Q :=
  ⟨a, b, xs, [w], rfl, rfl, h1, .of h2, by rw [sizeLine_eq]; simp; omega, fun e => q b H (by rw [e]; exact h2) .refl, fun _ e => (by cases e), fun _ _ p hp => q p _ upd_same (.new hp)⟩
theorem i_nesame {v : V} {A B : Prop} (h : B) : if (!decide (v = v)) = true then A else B := by
  rw [decide_eq_true rfl]
  exact h
theorem ok_law6 (T : Tx K mg) {fd : FuncData} (F : FunD K "law" "law" (defArgs s_law) (defBody s_law) (defScope s_law) [] [] (He.fAd K ("law", none)) fd) : FnOk P w K mg base CX0 6 (He.fAd K ("law", none)) fd ["_law_script"] (sp_law K) := by
  have cl_Net := T.cl_Net
  refine F.ok (ps := ["_law_script"]) sc_law (fun vs H Q E h => ?_) (fun cdv A outer s H vs Q E hr h => ?_)
  · obtain ⟨_, _, rfl, _⟩ := h
    rfl
  · obtain ⟨a, ns, rfl, hS, hl, k⟩ := h
    refine ⟨_, PSs.nox (pss_cons (ps_set (i := 1) sc_law.nd rfl (Or.inl rfl) (pe_f (fa_l_bag T) (hr.mono (by decide)) rfl T.g__law_bag pass0 (pa_cons (pv 0) pa_nil)))
    (pss_cons (ps_set (i := 2) sc_law.nd rfl (Or.inl rfl) (pe_f (fa_l_world T) (hr.mono (by decide)) rfl T.g__law_world pass0 (pa_cons (pv 1) (pa_cons pe_int (pa_cons pe_int (pa_cons pe_bl pa_nil))))))
    (pss_cons (ps_set (i := 3) sc_law.nd rfl (Or.inl rfl) (pe_f (fa_l_net T) (hr.mono (by decide)) rfl T.g__law_net pass0 (pa_cons (pv 1) (pa_cons (pv 2) pa_nil))))
    (pss_cons (ps_asg (pe_f (fa_l_two T) (hr.mono (by decide)) rfl T.g__law_two pass0 (pa_cons (pv 1) (pa_cons (pe_ix ix_tup (pv 2) pe_int (fun _ _ => rfl)) pa_nil))) (pg_tup rfl (pgs_cons (pg_name (i := 4) sc_law.nd rfl (Or.inl rfl)) (pgs_cons (pg_name (i := 5) sc_law.nd rfl (Or.inl rfl)) pgs_nil))))
    (pss_cons (ps_set (i := 6) sc_law.nd rfl (Or.inl rfl) (pe_f (fa_l_lost T) (hr.mono (by decide)) rfl T.g__law_lost pass0 (pa_cons (pv 1) (pa_cons (pe_ix ix_tup (pv 2) pe_int (fun _ _ => rfl)) (pa_cons pe_int (pa_cons pe_int pa_nil))))))
    (pss_cons (ps_set (i := 7) sc_law.nd rfl (Or.inl rfl) (pe_disp (pps_cons (pv 4) pe_int pps_nil) (by rfl) (by rfl) (fun z => by cases z) (by decide)))
    (pss_cons (ps_for PassesOwn.never rfl (pi_range1 rfl T.z_range (pa_cons (pe_callB call_len_seq (by rfl) T.z_len (by decide +kernel) (pa_cons (pe_ix ix_tup (pv 2) pe_int (fun _ _ => rfl)) pa_nil)) pa_nil)) (pg_name (i := 8) sc_law.nd rfl (Or.inl rfl))
    (pss_one (ps_for PassesOwn.never rfl (pi_list (pe_ix ix_tup (pv 2) pe_int (fun _ _ => rfl))) (pg_tup rfl (pgs_cons (pg_name (i := 9) sc_law.nd rfl (Or.inl rfl)) (pgs_cons (pg_name (i := 10) sc_law.nd rfl (Or.inl rfl)) (pgs_cons (pg_name (i := 11) sc_law.nd rfl (Or.inl rfl)) (pgs_cons (pg_name (i := 12) sc_law.nd rfl (Or.inl rfl)) pgs_nil)))))
    (pss_one (ps_if (pt_cmp (pc_din (hu_of hr) (pv 10) (pv 7)) rfl) (pss_one (ps_dput (hu_of hr) (pv 7) (pv 11) (pe_callB (call_min2 rfl) (by rfl) T.z_min (by decide +kernel) (pa_cons (pe_dget2 (hu_of hr) (pv 7) (pv 11) pe_int ⟨by rfl, by rfl, by rfl, by rfl⟩) (pa_cons (pe_op op_add (pe_dget (hu_of hr) (pv 7) (pv 10) (fun _ _ => rfl)) (pv 12)) pa_nil))) rfl)) pss_nil)))))
    (pss_cons (ps_set (i := 13) sc_law.nd rfl (Or.inl rfl) pe_int)
    (pss_cons (ps_for PassesOwn.never rfl (pi_range1 rfl T.z_range (pa_cons (pe_f (fa_l_pull T) (hr.mono (by decide)) rfl T.g__law_pull pass0 (pa_cons (pv 1) (pa_cons pe_int pa_nil))) pa_nil)) (pg_name (i := 14) sc_law.nd rfl (Or.inl rfl))
    (pss_cons (ps_set (i := 15) sc_law.nd rfl (Or.inl rfl) (pe_fk (fa_reach_letters_lost T) (hr.mono (by decide)) rfl T.g_reach pass0 (pa_cons (pv 3) (pa_cons (pv 4) (pa_cons (pv 5) (pa_cons (pv 14) pa_nil)))) (pk_cons pe_int (pk_cons (pv 6) pk_nil))))
    (pss_cons (ps_set (i := 16) sc_law.nd rfl (Or.inl rfl) (pe_fk (fa_reach_letters T) (hr.mono (by decide)) rfl T.g_reach pass0 (pa_cons (pv 3) (pa_cons (pv 4) (pa_cons (pv 5) (pa_cons (pv 14) pa_nil)))) (pk_cons pe_int pk_nil)))
    (pss_cons (ps_if (PW.pt (pw_or (pt_cmpR op_lt (pv 15) (pv 13) (nomark _)) (pw_or (pt_cmpR op_gt (pv 15) (pv 16) (nomark _)) (pw_or1 (pt_cmpR op_ne (pe_cmpR op_gt (pv 16) pe_int (nomark _)) (pe_cmpR op_le (pe_dget2 (hu_of hr) (pv 7) (pv 5) pe_int ⟨by rfl, by rfl, by rfl, by rfl⟩) (pv 14) (nomark _)) (nomark _)))))) (pss_one (ps_ret pe_bl)) pss_nil)
    (pss_cons (ps_set (i := 17) sc_law.nd rfl (Or.inl rfl) (pe_fk (fa_reach_letters_lost T) (hr.mono (by decide)) rfl T.g_reach pass0 (pa_cons (pv 3) (pa_cons (pv 4) (pa_cons (pv 5) (pa_cons (pv 14) pa_nil)))) (pk_cons pe_int (pk_cons (pv 6) pk_nil))))
    (pss_cons (ps_if (PW.pt (pw_or (pt_not (pt_chain op_le op_le (pv 15) (pv 17) (pe_op op_add (pv 15) pe_int))) (pw_or1 (PW.pt (pw_and (pt_cmpR op_gt (pv 17) (pv 15) (nomark _)) (pw_and1 (pt_cmpR op_lt (pv 15) pe_int (nomark _)))))))) (pss_one (ps_ret pe_bl)) pss_nil)
    (pss_cons (ps_if (pt_cmpR (op_neD (hu64 hr)) (pe_ix ix_tup (pv 2) pe_int (fun _ _ => rfl)) (pe_lst pa_nil) (nomark _)) (pss_cons (ps_set (i := 18) sc_law.nd rfl (Or.inl rfl) (pe_op op_catA (pv 6) (pe_tup (pa_cons (pe_tup (pa_cons (pe_ix ix_tup (pe_f (fa_l_pick T) (hr.mono (by decide)) rfl T.g__law_pick pass0 (pa_cons (pv 1) (pa_cons (pe_ix ix_tup (pv 2) pe_int (fun _ _ => rfl)) pa_nil))) pe_int (fun _ _ => rfl)) (pa_cons (pe_f (fa_l_pull T) (hr.mono (by decide)) rfl T.g__law_pull pass0 (pa_cons (pv 1) (pa_cons (pe_op op_add (pv 14) pe_int) pa_nil))) pa_nil))) pa_nil))))
    (pss_one (ps_if (pt_not (pt_chain op_le op_le (pe_op op_sub (pv 15) pe_int) (pe_fk (fa_reach_letters_lost T) (hr.mono (by decide)) rfl T.g_reach pass0 (pa_cons (pv 3) (pa_cons (pv 4) (pa_cons (pv 5) (pa_cons (pv 14) pa_nil)))) (pk_cons pe_int (pk_cons (pv 18) pk_nil))) (pv 15))) (pss_one (ps_ret pe_bl)) pss_nil))) pss_nil)
    (pss_one (ps_set (i := 13) sc_law.nd rfl (Or.inl rfl) (pv 15))))))))))
    (pss_cons (ps_if (PW.pt (pw_and (pt_cmp (pc_din (hu_of hr) (pv 5) (pv 7)) rfl) (pw_and1 (pt_cmpR op_ne (pe_fk (fa_reach_letters T) (hr.mono (by decide)) rfl T.g_reach pass0 (pa_cons (pv 3) (pa_cons (pv 4) (pa_cons (pv 5) (pa_cons (pe_callB (call_min2 rfl) (by rfl) T.z_min (by decide +kernel) (pa_cons pe_int (pa_cons (pe_op op_add (pe_dget (hu_of hr) (pv 7) (pv 5) (fun _ _ => rfl)) pe_int) pa_nil))) pa_nil)))) (pk_cons pe_int pk_nil)) pe_int (nomark _))))) (pss_one (ps_ret pe_bl)) pss_nil)
    (pss_one (ps_ret pe_bl)))))))))))), ?_⟩
    walk_at "go"
    refine ⟨a, ns, rfl, hS, hl, fun b l H1 k1 hb0 hl0 B1 => ?_⟩
    walk_at "go"
    refine ⟨b, l, 7, 10, false, rfl, B1, by omega, by omega, by omega, rfl, fun p q c xs rs vs H2 hx2 hx7 hxn hxg hgr k2 B2 ep eq pr ec hp0 hq0 hc0 => ?_⟩
    obtain ⟨nr, hnr, hgr⟩ := hgr
    have npb : p ≠ b := fun z => by rw [z] at hp0; obtain ⟨_, _, _, _, h, _⟩ := B1; rw [h] at hp0; cases hp0
    have nqb : q ≠ b := fun z => by rw [z] at hq0; obtain ⟨_, _, _, _, h, _⟩ := B1; rw [h] at hq0; cases hq0
    have ncb : c ≠ b := fun z => by rw [z] at hc0; obtain ⟨_, _, _, _, h, _⟩ := B1; rw [h] at hc0; cases hc0
    have hgr9 : GoodRoads xs nr 99 rs := ⟨hgr.len, hgr.inc, fun r hr => Nat.le_trans (hgr.top r hr) (by omega), hgr.ok⟩
    have hrl : rs.length ≤ 10 := by rw [hgr.len]; exact hnr
    walk_at "go"
    refine ⟨b, l, c, p, q, xs, rs, vs, nr, rfl, B2, ec, ep, eq, pr, npb, nqb, hxn, by omega, hxg, hgr9, by omega, fun n d1 d2 xs' rs' H3 N pmx pmr k3 B3 hn0 hd10 hd20 kt3 => ?_⟩
    have ec3 := k3 _ _ ec (ni1 ncb)
    have ep3 := k3 _ _ ep (ni1 npb)
    have eq3 := k3 _ _ eq (ni1 nqb)
    have pr3 := roads_kp kt3 pr
    walk_at "go"
    refine ⟨b, l, p, xs, rfl, B3, .of ep3, npb, hx2, by omega, fun i j x y tw H4 hi hj hij k4 B4 htw etw => ?_⟩
    have hxy : x ≠ y := fun z => by
      subst z
      obtain ⟨a1, b1⟩ := List.getElem?_eq_some_iff.mp hi
      obtain ⟨a2, b2⟩ := List.getElem?_eq_some_iff.mp hj
      exact hij ((List.getElem_inj (h₀ := a1) (h₁ := a2) hxn).mp (b1.trans b2.symm))
    have hxm : x ∈ xs := List.mem_of_getElem? hi
    have hym : y ∈ xs := List.mem_of_getElem? hj
    have nb : ∀ z, H2 z = none → z ≠ b := fun z h e => by rw [e] at h; obtain ⟨_, _, _, _, g, _⟩ := B2; rw [g] at h; cases h
    have kt4 : KpT H3 H4 := B3.kpt k4
    have ec4 := k4 _ _ ec3 (ni1 ncb)
    have ep4 := k4 _ _ ep3 (ni1 npb)
    have eq4 := k4 _ _ eq3 (ni1 nqb)
    have pr4 := roads_kp kt4 pr3
    have N4 := N.kp k4 kt4 (ni1 (nb _ hn0)) (ni1 (nb _ hd10)) (ni1 (nb _ hd20))
    walk_at "go"
    have hgood : ∀ r ∈ rs, GoodName r.one ∧ GoodName r.other := fun r hr => ⟨hxg _ (hgr.ok r hr).2.1, hxg _ (hgr.ok r hr).2.2.1⟩
    refine ⟨b, l, q, rs, vs, 9, 5, rfl, B4, eq4, pr4, nqb, hgood, by omega, by omega, by omega, fun lo ls as H5 elo pl hls hll k5 B5 hlo => ?_⟩
    have kt5 : KpT H4 H5 := B4.kpt k5
    have ec5 := k5 _ _ ec4 (ni1 ncb)
    have ep5 := k5 _ _ ep4 (ni1 npb)
    have eq5 := k5 _ _ eq4 (ni1 nqb)
    have pr5 := roads_kp kt5 pr4
    have N5 := N4.kp k5 kt5 (ni1 (nb _ hn0)) (ni1 (nb _ hd10)) (ni1 (nb _ hd20))
    clear N4 N pr4 pr3 ec4 ec3 ep4 ep3 eq4 eq3 kt5 kt4 kt3 ec ep eq
    walk_at "go"
    intro ed he
    walk_at "go"
    refine z_disp1q (k := .inr x) upd_same rfl ?_
    have k6 : Kp [] H5 (upd (upd H5 ed (.dK [])) ed (.dK [(.inr x, .int 0)])) := (Kp.new he).own he
    have e6 : upd (upd H5 ed (.dK [])) ed (.dK [(.inr x, .int 0)]) ed = some (.dK [(.inr x, .int 0)]) := upd_same
    obtain ⟨nde1, nde2⟩ : d1 ≠ ed ∧ d2 ≠ ed := by
      obtain ⟨_, ⟨_, _, g2, g3, _⟩, _⟩ := N5
      exact ⟨ne_of_none g2 he, ne_of_none g3 he⟩
    have W6 : LawAt K b l n d1 d2 c p q lo ed xs xs' rs rs' vs ls as [(.inr x, .int 0)] (upd (upd H5 ed (.dK [])) ed (.dK [(.inr x, .int 0)])) := by
      have kt6 := KpT.of k6 (by simp)
      exact ⟨B5.kp k6 (by simp) (by simp), N5.kp k6 kt6 (by simp) (by simp) (by simp), kt6 _ _ ec5, k6 _ _ ep5 (by simp), k6 _ _ eq5 (by simp), roads_kp kt6 pr5, kt6 _ _ elo, paired_imp (fun _ _ => LostAt.kp kt6) pl, e6, nde1, nde2⟩
    generalize upd (upd H5 ed (.dK [])) ed (.dK [(.inr x, .int 0)]) = H6 at *
    clear N5 pr5 ec5 ep5 eq5 B5 B4 B3 B2 B1 k6 e6
    have ec6 := W6.ec
    have ep6 := W6.ep
    have lm : (xs.map V.str).length = xs.length := List.length_map ..
    walk_at "go"
    refine ⟨by omega, by omega, ?_⟩
    have hlagin : ∀ r ∈ rs, r ∈ rs ∧ r.other ∈ xs ∧ r.lag ≤ 4 := fun r hr => ⟨hr, (hgr.ok r hr).2.2.1, (hgr.ok r hr).2.2.2.2.2⟩
    refine loopR (fun i σ H' => ∃ (o8 o9 o10 o11 o12 : Option V) (kvs : List (Key × V)), σ = [some (.ref a), some (.ref b), some (.ref c), some (.ref n), some (.str x), some (.str y), some (.ref lo), some (.ref ed), o8, o9, o10, o11, o12, none, none, none, none, none, none] ∧
      LawAt K b l n d1 d2 c p q lo ed xs xs' rs rs' vs ls as kvs H' ∧ EAt kvs (rounds rs i (ear0 x)) ∧ EarOk rs x xs (rounds rs i (ear0 x)) ∧ kvs.length ≤ 1 + 10 * i) ?_ (fun i σ H' hi hv => ?_) (fun σ H' hv => ?_)
    · exact ⟨_, _, _, _, _, _, rfl, W6, ear0_at, ear0_ok hxm, Nat.le_refl _⟩
    · obtain ⟨_, o9, o10, o11, o12, kvs, rfl, W, EA, EO, hkl⟩ := hv
      have ec7 := W.ec
      have eq7 := W.eq
      walk_at "go"
      refine loopL (xs := vs) (fun j σ H4 => ∃ (o9 o10 o11 o12 : Option V) (kvs : List (Key × V)), σ = [some (.ref a), some (.ref b), some (.ref c), some (.ref n), some (.str x), some (.str y), some (.ref lo), some (.ref ed), some (.int (0 + (i : Nat))), o9, o10, o11, o12, none, none, none, none, none, none] ∧
        LawAt K b l n d1 d2 c p q lo ed xs xs' rs rs' vs ls as kvs H4 ∧ EAt kvs ((rs.take j).foldl relax (rounds rs i (ear0 x))) ∧ EarOk rs x xs ((rs.take j).foldl relax (rounds rs i (ear0 x))) ∧ kvs.length ≤ 1 + 10 * i + j) ?_ (fun j σ H4 _ hv4 => ?_) (fun j v σ H4 hj hv4 => ?_) (fun σ H4 hv4 => ?_)
      · exact ⟨_, _, _, _, kvs, rfl, W, EA, EO, hkl⟩
      · obtain ⟨_, _, _, _, kvs, rfl, W4, _⟩ := hv4
        exact .of W4.eq
      · obtain ⟨p9, p10, p11, p12, kvs4, rfl, W4, EA4, EO4, hkl4⟩ := hv4
        obtain ⟨r, hr, av, rfl, ha⟩ := paired_get_r W4.pr hj
        have hjl : j < rs.length := (List.getElem?_eq_some_iff.mp hr).1
        have hrm := List.mem_of_getElem? hr
        have hi' : i < xs.length := by omega
        have ed4 := W4.hed
        walk_at "go"
        refine z_dinq (DGet.k (k := .inr r.one) ed4) ?_
        rw [EA4 r.one]
        cases ce : (rs.take j).foldl relax (rounds rs i (ear0 x)) r.one with
        | none =>
          refine ⟨_, rfl, iteF (z_next ⟨_, _, _, _, kvs4, rfl, W4, ?_, ?_, by omega⟩)⟩
          · rw [take_succ_get hr, List.foldl_append, List.foldl_cons, List.foldl_nil, relax_none ce]
            exact EA4
          · rw [take_succ_get hr, List.foldl_append, List.foldl_cons, List.foldl_nil, relax_none ce]
            exact EO4
        | some e =>
          refine ⟨_, rfl, iteT ?_⟩
          walk_at "go"
          refine z_getdq (DGet.k (k := .inr r.other) ed4) ?_
          rw [EA4 r.other]
          have eg : (((rs.take j).foldl relax (rounds rs i (ear0 x)) r.other).map fun e => V.int (e : Nat)).getD (.int 99) = .int (((rs.take j).foldl relax (rounds rs i (ear0 x)) r.other).getD 99 : Nat) := by
            cases (rs.take j).foldl relax (rounds rs i (ear0 x)) r.other <;> rfl
          rw [eg]
          walk_at "go"
          refine z_dgetq (v := .int (e : Nat)) (by have z := DGet.k (k := .inr r.one) ed4; rw [EA4 r.one, ce] at z; exact z) ?_
          walk_at "go"
          have em : (if (e : Int) + r.lag < ((((rs.take j).foldl relax (rounds rs i (ear0 x)) r.other).getD 99 : Nat) : Int) then (e : Int) + r.lag else ((((rs.take j).foldl relax (rounds rs i (ear0 x)) r.other).getD 99 : Nat) : Int)) = ((min (((rs.take j).foldl relax (rounds rs i (ear0 x)) r.other).getD 99) (e + r.lag) : Nat) : Int) := by
            split <;> omega
          rw [em]
          walk_at "go"
          refine z_dputq (DPut.k (k := .inr r.other) ed4 (by rw [sizeLine_eq]; omega)) ?_
          have hlp := length_putK kvs4 (.inr r.other) (.int (min (((rs.take j).foldl relax (rounds rs i (ear0 x)) r.other).getD 99) (e + r.lag) : Nat))
          refine ⟨_, _, _, _, _, rfl, W4.put, ?_, ?_, Nat.le_trans hlp (by omega)⟩
          · rw [take_succ_get hr, List.foldl_append, List.foldl_cons, List.foldl_nil]
            exact EA4.put ce
          · rw [take_succ_get hr, List.foldl_append, List.foldl_cons, List.foldl_nil]
            exact relax_ok EO4 hrm (hgr.ok r hrm).2.2.1 (hgr.ok r hrm).2.2.2.2.2 (by omega)
      · obtain ⟨p9, p10, p11, p12, kvs4, rfl, W4, EA4, EO4, hkl4⟩ := hv4
        have hw : vs.length = rs.length := W4.pr.length.symm
        rw [hw, List.take_length] at EA4 EO4
        exact ⟨_, _, _, _, _, kvs4, rfl, W4, EA4, EO4, by omega⟩
    · obtain ⟨o8, o9, o10, o11, o12, kvs, rfl, W, EA, EO, hkl⟩ := hv
      have en : ((xs.map V.str).length : Int).toNat = xs.length := by rw [lm]; omega
      rw [en] at EA EO
      have EI : EarIs rs x (rounds rs xs.length (ear0 x)) := ⟨EO.snd, fun z e' => all_settled (fun r hr => (hgr.ok r hr).2.2.2.2.1) (fun r hr => (hgr.ok r hr).2.2.1) hxm (if_pos rfl) z e'⟩
      generalize rounds rs xs.length (ear0 x) = F at *
      have FX : LawFx b p q xs xs' rs rs' x y := ⟨npb, nqb, pmx, pmr, hgr.inc, hrl, goodRoads hgr, hx7, hxg, hxm, hym, hxy⟩
      have hmk : (rs.map Road.mark).Nodup := hgr.inc.imp fun z => Nat.ne_of_lt z
      have hK : ∀ t lz, KeysOk (sndsOf rs t lz) := fun t lz => keysOf hmk
      have hal : as.length ≤ 5 := by rw [← W.pl.length]; exact hll
      clear W6 pl elo etw htw hlo
      walk_at "go"
      refine ⟨b, l, 13, rfl, W.B, by omega, by omega, fun v7 H7 v70 v71 k7 B7 => ?_⟩
      have W7 := W.kp npb nqb k7 B7
      obtain ⟨nm, rfl⟩ : ∃ j : Nat, v7 = (j : Int) := ⟨v7.toNat, by omega⟩
      walk_at "go"
      refine ⟨by omega, by omega, ?_⟩
      refine loopR (fun i σ H' => ∃ (o14 o15 o16 o17 o18 : Option V) (la : Nat), σ = [some (.ref a), some (.ref b), some (.ref c), some (.ref n), some (.str x), some (.str y), some (.ref lo), some (.ref ed), o8, o9, o10, o11, o12, some (.int la), o14, o15, o16, o17, o18] ∧
        LawAt K b l n d1 d2 c p q lo ed xs xs' rs rs' vs ls as kvs H' ∧ (i = 0 → la = 0) ∧ (∀ i', i = i' + 1 → IsReach (sndsOf rs i' ls) i' (x, 0) (y, i') 3 la)) ?_ (fun i σ H' hi hv => ?_) (fun σ H' hv => ?_)
      · exact ⟨_, _, _, _, _, 0, rfl, W7, fun _ => rfl, fun i' h => by omega⟩
      · obtain ⟨o14, o15, o16, o17, o18, la, rfl, W8, z0, zn⟩ := hv
        have hi12 : i < 13 := by omega
        rw [Int.zero_add]
        walk_at "go"
        refine reach_go (t := i) (m := 3) FX W8 (by omega) (by omega) (by omega) (.of W8.elo) W8.pl hls fun r1 H9 R1 W9 k9 => ?_
        walk_at "go"
        refine reach_go (t := i) (m := 3) FX W9 (by omega) (by omega) (by omega) (T.e_reach_lost H9) .nil (fun s hs => by cases hs) fun r2 H10 R2 W10 k10 => ?_
        walk_at "go"
        have h1 : la ≤ r1 := by
          cases i with
          | zero => rw [z0 rfl]; exact Nat.zero_le _
          | succ i' => exact reach_turn (hK _ _) snds_turn (zn i' rfl) R1
        have h2 : r1 ≤ r2 := reach_sub (hK _ _) (snds_less fun z hz => by cases hz) R1 R2
        have ed10 := W10.hed
        refine i_dec (fun c => absurd c (by omega)) (fun _ => ?_)
        walk_at "go"
        refine i_dec (fun c => absurd c (by omega)) (fun _ => ?_)
        walk_at "go"
        obtain ⟨ev, hev, hdec⟩ : ∃ ev : Nat, ((F y).map fun e => V.int (e : Nat)).getD (.int 99) = .int (ev : Nat) ∧ decide ((0 : Int) < (r2 : Nat)) = decide ((ev : Int) ≤ (i : Nat)) := by
          cases ce : F y with
          | none =>
            have r0 := ear_late EI R2 (fun ⟨e, h, _⟩ => by rw [ce] at h; cases h)
            refine ⟨99, rfl, ?_⟩
            rw [decide_eq_false (by omega), decide_eq_false (by omega)]
          | some e =>
            refine ⟨e, rfl, ?_⟩
            by_cases cl : e ≤ i
            · have r0 := ear_soon EI (by omega) R2 ce cl
              rw [decide_eq_true (by omega), decide_eq_true (by omega)]
            · have r0 := ear_late EI R2 (fun ⟨e', h, l⟩ => by rw [ce] at h; cases h; exact cl l)
              rw [decide_eq_false (by omega), decide_eq_false (by omega)]
        refine z_getdq (DGet.k (k := .inr y) ed10) ?_
        rw [EA y, hev, hdec]
        walk_at "go"
        refine i_nesame (z_next ?_)
        walk_at "go"
        refine reach_go (t := i) (m := 4) FX W10 (by omega) (by omega) (by omega) (.of W10.elo) W10.pl hls fun r3 H11 R3 W11 k11 => ?_
        obtain ⟨m1, m2, m3⟩ := reach_more R1 R3
        walk_at "st"
        walk_at "st"
        refine (cutIf (P := fun σ' H' => σ' = [some (.ref a), some (.ref b), some (.ref c), some (.ref n), some (.str x), some (.str y), some (.ref lo), some (.ref ed), o8, o9, o10, o11, o12, some (.int la), some (.int i), some (.int r1), some (.int r2), some (.int r3), o18] ∧ H' = H11) (fun σ' H' hv => ?_) (fun rest => ?_))
        · obtain ⟨rfl, rfl⟩ := hv
          have ec11 := W11.ec
          walk_at "go"
          intro p5 hp5
          have W12 := W11.k0 npb nqb (.new (o := .lst []) hp5)
          have e5 : upd H' p5 (.lst []) p5 = some (.lst []) := upd_same
          generalize upd H' p5 (.lst []) = H12 at *
          refine ⟨_, _, .lst (.of W12.eq) (roads_dp W12.pr), .lst (.of e5) .nil, roads_shaped hgood, rfl, ?_⟩
          rw [eqv_nil]
          by_cases hr0 : rs = []
          · rw [show (rs.map roadD).isEmpty = true by rw [hr0]; rfl]
            refine ⟨_, rfl, iteNF (z_next ?_)⟩
            walk_at "go"
            exact ⟨_, _, _, _, _, r1, rfl, W12, fun z => by omega, fun i' h => by cases h; exact R1⟩
          · have he0 : (rs.map roadD).isEmpty = false := by
              cases rs with
              | nil => exact absurd rfl hr0
              | cons _ _ => rfl
            rw [he0]
            have hvl : rs.length = vs.length := W12.pr.length
            have hv0 : vs ≠ [] := fun z => hr0 (List.length_eq_zero_iff.mp (by rw [hvl, z]; rfl))
            have elo12 := W12.elo
            have ec12 := W12.ec
            refine ⟨_, rfl, iteNT ?_⟩
            walk_at "go"
            refine ⟨b, l, q, vs, rfl, W12.B, .of W12.eq, nqb, hv0, by omega, fun j v H13 hj k13 B13 => ?_⟩
            have W13 := W12.kp npb nqb k13 B13
            obtain ⟨r, hr, av, rfl, hav⟩ := paired_get_r W13.pr hj
            walk_at "go"
            refine ⟨b, l, (i : Int) + 1, rfl, B13, by omega, by omega, fun v14 H14 v140 v141 k14 B14 => ?_⟩
            have W14 := W13.kp npb nqb k14 B14
            obtain ⟨m6, rfl⟩ : ∃ j : Nat, v14 = (j : Int) := ⟨v14.toNat, by omega⟩
            walk_at "go"
            intro c1 hc1
            have W15 := W14.k0 npb nqb (.new (o := .tup [.int r.mark, .int m6]) hc1)
            have e15 : upd H14 c1 (.tup [.int r.mark, .int m6]) c1 = some (.tup [.int r.mark, .int m6]) := upd_same
            generalize upd H14 c1 (.tup [.int r.mark, .int m6]) = H15 at *
            walk_at "go"
            intro c2 hc2
            have W16 := W15.k0 npb nqb (.new (o := .tup [.ref c1]) hc2)
            have e16 := look_new (z := .tup [.ref c1]) hc2 e15
            have f16 : upd H15 c2 (.tup [.ref c1]) c2 = some (.tup [.ref c1]) := upd_same
            generalize upd H15 c2 (.tup [.ref c1]) = H16 at *
            refine z_catA1 (.of W16.elo) f16 (by omega) fun z H17 hz k17 => ?_
            have W17 := W16.k0 npb nqb k17
            have e17 := k17 _ _ e16 (by simp)
            walk_at "go"
            refine reach_go (t := i) (m := 3) (lz := ls ++ [(r.mark, m6)]) FX W17 (by omega) (by omega) (by omega) (.of hz) (paired_snoc ⟨c1, rfl, e17⟩ W17.pl) (fun s hs => ?_) fun r5 H18 R5 W18 k18 => ?_
            · rcases List.mem_append.mp hs with h | h
              · exact hls s h
              · rw [List.mem_singleton.mp h]
                exact ⟨r, List.mem_of_getElem? hr, rfl⟩
            have q1 : r5 ≤ r1 := reach_sub (hK _ _) (snds_less fun z hz => List.mem_append.mpr (.inl hz)) R5 R1
            have q2 : r1 ≤ r5 + 1 := reach_one (hK _ _) _ (snds_one (z := (r.mark, m6))) R1 R5
            walk_at "go"
            refine i_dec (fun _ => ?_) (fun c => absurd c (by omega))
            walk_at "go"
            refine i_ndec (fun c => absurd (by omega) c) (fun _ => z_next ?_)
            walk_at "go"
            exact ⟨_, _, _, _, _, r1, rfl, W18, fun z => by omega, fun i' h => by cases h; exact R1⟩
        · walk_at "go"
          refine i_dec (fun _ => ?_) (fun c => absurd c (by omega))
          walk_at "go"
          refine i_ndec (fun c => absurd (by omega) c) (fun _ => ?_)
          walk_at "go"
          refine i_dec (fun c => ?_) (fun _ => iteF (z_next (rest _ _ ⟨rfl, rfl⟩)))
          walk_at "go"
          refine i_dec (fun c2 => absurd c2 (by omega)) (fun _ => z_next (rest _ _ ⟨rfl, rfl⟩))
      · obtain ⟨o14, o15, o16, o17, o18, la, rfl, W8, z0, zn⟩ := hv
        have ed8 := W8.hed
        walk_at "go"
        refine z_dinq (DGet.k (k := .inr y) ed8) ?_
        rw [EA y]
        cases ce : F y with
        | none =>
          refine ⟨_, rfl, iteF (iteF (z_next ?_))⟩
          walk_at "go"
          exact k _
        | some e =>
          refine ⟨_, rfl, iteT ?_⟩
          have he := EO.low _ _ ce
          have hc7 : cntE xs F ≤ 7 := Nat.le_trans (List.length_filter_le ..) hx7
          walk_at "go"
          refine z_dgetq (v := .int (e : Nat)) (by have z := DGet.k (k := .inr y) ed8; rw [EA y, ce] at z; exact z) ?_
          walk_at "go"
          have em : (if (e : Int) + 3 < 40 then (e : Int) + 3 else 40) = ((e + 3 : Nat) : Int) := by
            rw [if_pos (by omega)]
            push_cast
            rfl
          rw [em]
          walk_at "go"
          refine reach_go (t := e + 3) (m := 4) FX W8 (by omega) (by omega) (by omega) (T.e_reach_lost H') .nil (fun s hs => by cases hs) fun r4 H9 R4 W9 k9 => ?_
          have h4 := ear_four hmk EI R4 ce
          subst h4
          walk_at "go"
          refine i_neI (fun c => absurd rfl c) (fun _ => z_next ?_)
          walk_at "go"
          exact k _
theorem law_end {a : Addr} {ns : List Int} {H : Hp} {E : XK} (hl : ns.length ≤ 63) (hS : SqL K H a (ns.map V.int)) : sp_law K [.ref a] H (fun v _ => v = .bl true) E := ⟨a, ns, rfl, hS, hl, fun _ => rfl⟩
theorem ok_law (T : Tx K mg) {fd : FuncData} (F : FunD K "law" "law" (defArgs s_law) (defBody s_law) (defScope s_law) [] [] (He.fAd K ("law", none)) fd) : FnOk P w K mg base CX0 12 (He.fAd K ("law", none)) fd ["_law_script"] (sp_law K) :=
  (ok_law6 T F).mono (by decide)

end
set_option maxHeartbeats 0
/-! ### the head -/
def fa0 : List (PySem.W.Frag → Bool) := [fun K => (He.Fa.glo "_law_bag").ok K,
  fun K => (He.Fa.glo "_law_lost").ok K,
  fun K => (He.Fa.glo "_law_names").ok K,
  fun K => (He.Fa.glo "_law_net").ok K,
  fun K => (He.Fa.glo "_law_order_drawn").ok K,
  fun K => (He.Fa.glo "_law_pick").ok K,
  fun K => (He.Fa.glo "_law_pull").ok K,
  fun K => (He.Fa.glo "_law_two").ok K,
  fun K => (He.Fa.glo "_law_world").ok K,
  fun K => (He.Fa.glo "law").ok K,
  fun K => (He.Fa.glo "lit").ok K,
  fun K => (He.Fa.glo "need_asked").ok K,
  fun K => (He.Fa.glo "need_letters").ok K,
  fun K => (He.Fa.glo "need_name").ok K,
  fun K => (He.Fa.glo "onward").ok K,
  fun K => (He.Fa.glo "reach").ok K,
  fun K => (He.Fa.glo "sendings").ok K,
  fun K => (He.Fa.glo "spread_out").ok K,
  fun K => (He.Fa.glo "taken_along").ok K,
  fun K => (He.Fa.glo "Net").ok K,
  fun K => (He.Fa.cls "Net").ok K,
  fun K => (He.Fa.noat "Net" "named").ok K,
  fun K => (He.Fa.noat "Net" "roads").ok K,
  fun K => (He.Fa.mkr "Net").ok K,
  fun K => (He.Fa.meth "Net" "house").ok K]
def fa1 : List (PySem.W.Frag → Bool) := [fun K => (He.Fa.meth "Net" "line").ok K,
  fun K => (He.Fa.meth "Net" "lines").ok K,
  fun K => (He.Fa.meth "Net" "need_house").ok K,
  fun K => (He.Fa.meth "Net" "need_line").ok K,
  fun K => (He.Fa.meth "Net" "numbers").ok K,
  fun K => (He.Fa.free "abs").ok K,
  fun K => (He.Fa.free "all").ok K,
  fun K => (He.Fa.free "int").ok K,
  fun K => (He.Fa.free "len").ok K,
  fun K => (He.Fa.free "list").ok K,
  fun K => (He.Fa.free "max").ok K,
  fun K => (He.Fa.free "min").ok K,
  fun K => (He.Fa.free "range").ok K,
  fun K => (He.Fa.free "sorted").ok K,
  fun K => (He.Fa.free "tuple").ok K,
  fun K => (He.Fa.str "LETTERS" "abcdefghijklmnopqrstuvwxyz").ok K,
  fun K => (He.Fa.int "LONGEST" 6).ok K,
  fun K => (He.Fa.int "MOST_HOUSES" 12).ok K,
  fun K => (He.Fa.int "MOST_LETTERS" 4).ok K,
  fun K => (He.Fa.int "MOST_LINES" 30).ok K,
  fun K => (He.Fa.int "MOST_NUMBER" 99).ok K,
  fun K => (He.Fa.int "MOST_SLOW" 4).ok K,
  fun K => (He.Fa.int "MOST_TURN" 40).ok K,
  fun K => tupAtB K (kwAdr ("reach", none) "lost" K) []]
def fa : List (PySem.W.Frag → Bool) := fa0 ++ fa1
def fn : List He.DefD := [d_l_bag, d_l_pull, d_l_names, d_l_order_drawn, d_l_pick, d_l_two, d_l_world, d_need_name, d_Net_init, d_Net_need_house, d_Net_need_line, d_Net_house, d_Net_line, d_l_net, d_l_lost, d_Net_numbers, d_Net_lines, d_need_letters, d_need_asked, d_sendings, d_onward, d_lit, d_taken_along, d_spread_out, d_reach, d_law]
theorem tx_of {K : PySem.W.Frag} {h : Heap} {mg : Str → Option Value} (X : K.In h) (G : h.Ns mainGlobals mg) (c : SaysB fa fn K) : Tx K mg where
  g__law_bag := He.glo_ok X G (c.fact 0 (f := fun K => (He.Fa.glo "_law_bag").ok K) rfl)
  g__law_lost := He.glo_ok X G (c.fact 1 (f := fun K => (He.Fa.glo "_law_lost").ok K) rfl)
  g__law_names := He.glo_ok X G (c.fact 2 (f := fun K => (He.Fa.glo "_law_names").ok K) rfl)
  g__law_net := He.glo_ok X G (c.fact 3 (f := fun K => (He.Fa.glo "_law_net").ok K) rfl)
  g__law_order_drawn := He.glo_ok X G (c.fact 4 (f := fun K => (He.Fa.glo "_law_order_drawn").ok K) rfl)
  g__law_pick := He.glo_ok X G (c.fact 5 (f := fun K => (He.Fa.glo "_law_pick").ok K) rfl)
  g__law_pull := He.glo_ok X G (c.fact 6 (f := fun K => (He.Fa.glo "_law_pull").ok K) rfl)
  g__law_two := He.glo_ok X G (c.fact 7 (f := fun K => (He.Fa.glo "_law_two").ok K) rfl)
  g__law_world := He.glo_ok X G (c.fact 8 (f := fun K => (He.Fa.glo "_law_world").ok K) rfl)
  g_law := He.glo_ok X G (c.fact 9 (f := fun K => (He.Fa.glo "law").ok K) rfl)
  g_lit := He.glo_ok X G (c.fact 10 (f := fun K => (He.Fa.glo "lit").ok K) rfl)
  g_need_asked := He.glo_ok X G (c.fact 11 (f := fun K => (He.Fa.glo "need_asked").ok K) rfl)
  g_need_letters := He.glo_ok X G (c.fact 12 (f := fun K => (He.Fa.glo "need_letters").ok K) rfl)
  g_need_name := He.glo_ok X G (c.fact 13 (f := fun K => (He.Fa.glo "need_name").ok K) rfl)
  g_onward := He.glo_ok X G (c.fact 14 (f := fun K => (He.Fa.glo "onward").ok K) rfl)
  g_reach := He.glo_ok X G (c.fact 15 (f := fun K => (He.Fa.glo "reach").ok K) rfl)
  g_sendings := He.glo_ok X G (c.fact 16 (f := fun K => (He.Fa.glo "sendings").ok K) rfl)
  g_spread_out := He.glo_ok X G (c.fact 17 (f := fun K => (He.Fa.glo "spread_out").ok K) rfl)
  g_taken_along := He.glo_ok X G (c.fact 18 (f := fun K => (He.Fa.glo "taken_along").ok K) rfl)
  g_Net := He.glo_ok X G (c.fact 19 (f := fun K => (He.Fa.glo "Net").ok K) rfl)
  cl_Net := He.cls_ok (c.fact 20 (f := fun K => (He.Fa.cls "Net").ok K) rfl)
  n_Net_named := He.noat_ok (c.fact 21 (f := fun K => (He.Fa.noat "Net" "named").ok K) rfl)
  n_Net_roads := He.noat_ok (c.fact 22 (f := fun K => (He.Fa.noat "Net" "roads").ok K) rfl)
  m_Net := He.mkr_ok (c.fact 23 (f := fun K => (He.Fa.mkr "Net").ok K) rfl)
  m_Net_house := He.meth_ok (c.fact 24 (f := fun K => (He.Fa.meth "Net" "house").ok K) rfl)
  m_Net_line := He.meth_ok (c.fact 25 (f := fun K => (He.Fa.meth "Net" "line").ok K) rfl)
  m_Net_lines := He.meth_ok (c.fact 26 (f := fun K => (He.Fa.meth "Net" "lines").ok K) rfl)
  m_Net_need_house := He.meth_ok (c.fact 27 (f := fun K => (He.Fa.meth "Net" "need_house").ok K) rfl)
  m_Net_need_line := He.meth_ok (c.fact 28 (f := fun K => (He.Fa.meth "Net" "need_line").ok K) rfl)
  m_Net_numbers := He.meth_ok (c.fact 29 (f := fun K => (He.Fa.meth "Net" "numbers").ok K) rfl)
  z_abs := He.free_ok X G (c.fact 30 (f := fun K => (He.Fa.free "abs").ok K) rfl)
  z_all := He.free_ok X G (c.fact 31 (f := fun K => (He.Fa.free "all").ok K) rfl)
  z_int := He.free_ok X G (c.fact 32 (f := fun K => (He.Fa.free "int").ok K) rfl)
  z_len := He.free_ok X G (c.fact 33 (f := fun K => (He.Fa.free "len").ok K) rfl)
  z_list := He.free_ok X G (c.fact 34 (f := fun K => (He.Fa.free "list").ok K) rfl)
  z_max := He.free_ok X G (c.fact 35 (f := fun K => (He.Fa.free "max").ok K) rfl)
  z_min := He.free_ok X G (c.fact 36 (f := fun K => (He.Fa.free "min").ok K) rfl)
  z_range := He.free_ok X G (c.fact 37 (f := fun K => (He.Fa.free "range").ok K) rfl)
  z_sorted := He.free_ok X G (c.fact 38 (f := fun K => (He.Fa.free "sorted").ok K) rfl)
  z_tuple := He.free_ok X G (c.fact 39 (f := fun K => (He.Fa.free "tuple").ok K) rfl)
  c_LETTERS := He.str_ok X G (c.fact 40 (f := fun K => (He.Fa.str "LETTERS" "abcdefghijklmnopqrstuvwxyz").ok K) rfl)
  c_LONGEST := He.int_ok X G (c.fact 41 (f := fun K => (He.Fa.int "LONGEST" 6).ok K) rfl)
  c_MOST_HOUSES := He.int_ok X G (c.fact 42 (f := fun K => (He.Fa.int "MOST_HOUSES" 12).ok K) rfl)
  c_MOST_LETTERS := He.int_ok X G (c.fact 43 (f := fun K => (He.Fa.int "MOST_LETTERS" 4).ok K) rfl)
  c_MOST_LINES := He.int_ok X G (c.fact 44 (f := fun K => (He.Fa.int "MOST_LINES" 30).ok K) rfl)
  c_MOST_NUMBER := He.int_ok X G (c.fact 45 (f := fun K => (He.Fa.int "MOST_NUMBER" 99).ok K) rfl)
  c_MOST_SLOW := He.int_ok X G (c.fact 46 (f := fun K => (He.Fa.int "MOST_SLOW" 4).ok K) rfl)
  c_MOST_TURN := He.int_ok X G (c.fact 47 (f := fun K => (He.Fa.int "MOST_TURN" 40).ok K) rfl)
  e_reach_lost := tupAtB_ok (c.fact 48 (f := fun K => tupAtB K (kwAdr ("reach", none) "lost" K) []) rfl)
  D_l_bag := c.def_ 0 (d := d_l_bag) rfl
  D_l_pull := c.def_ 1 (d := d_l_pull) rfl
  D_l_names := c.def_ 2 (d := d_l_names) rfl
  D_l_order_drawn := c.def_ 3 (d := d_l_order_drawn) rfl
  D_l_pick := c.def_ 4 (d := d_l_pick) rfl
  D_l_two := c.def_ 5 (d := d_l_two) rfl
  D_l_world := c.def_ 6 (d := d_l_world) rfl
  D_need_name := c.def_ 7 (d := d_need_name) rfl
  D_Net_init := c.def_ 8 (d := d_Net_init) rfl
  D_Net_need_house := c.def_ 9 (d := d_Net_need_house) rfl
  D_Net_need_line := c.def_ 10 (d := d_Net_need_line) rfl
  D_Net_house := c.def_ 11 (d := d_Net_house) rfl
  D_Net_line := c.def_ 12 (d := d_Net_line) rfl
  D_l_net := c.def_ 13 (d := d_l_net) rfl
  D_l_lost := c.def_ 14 (d := d_l_lost) rfl
  D_Net_numbers := c.def_ 15 (d := d_Net_numbers) rfl
  D_Net_lines := c.def_ 16 (d := d_Net_lines) rfl
  D_need_letters := c.def_ 17 (d := d_need_letters) rfl
  D_need_asked := c.def_ 18 (d := d_need_asked) rfl
  D_sendings := c.def_ 19 (d := d_sendings) rfl
  D_onward := c.def_ 20 (d := d_onward) rfl
  D_lit := c.def_ 21 (d := d_lit) rfl
  D_taken_along := c.def_ 22 (d := d_taken_along) rfl
  D_spread_out := c.def_ 23 (d := d_spread_out) rfl
  D_reach := c.def_ 24 (d := d_reach) rfl
  D_law := c.def_ 25 (d := d_law) rfl
def loose : List PySem.Str := (["_wall", "MingleError", "BadNumber", "BadName", "BadLine", "BadHearers", "Missing", "NoHouse", "NoLine", "Busy", "Taken", "Full", "MOST_LETTERS", "need_letters", "MOST_TURN", "need_asked", "sendings", "onward", "lit", "taken_along", "spread_out", "reach", "LETTERS", "LONGEST", "MOST_HOUSES", "MOST_LINES", "MOST_NUMBER", "MOST_SLOW", "need_name", "Net"] : List PySem.Str) ++ (["_law_bag", "_law_lost", "_law_names", "_law_net", "_law_order_drawn", "_law_pick", "_law_pull", "_law_two", "_law_world"] : List PySem.Str)
abbrev R : PySem.W.OpenRow := PySem.W.OpenLaw.row PySem.Challenge.rw_mingleway_k38_whole_reach_grows_and_fall
abbrev hk : PySem.W.Hook := hookB 4 fa fn
def ob (s : PySem.W.SharedT) : He.AlD := obsBG 4 fa fn (HandSHeadRun.getT s)
theorem ob_eq (s : PySem.W.SharedT) : ob s = hk.obs s.abs := obsBG_eq (HandSHeadRun.getT_eq s)
theorem run (w : World) : HandSHeadRun.RunEq R (PySem.W.view R.prog [44]) hk ob 4500 loose w := by
  intro os
  kernel_rfl
theorem facts {P : Program} {w : World} {K : PySem.W.Frag} {h : Heap} {mg : Str → Option Value} {f : Addr} (X : K.In h) (G : h.Ns mainGlobals mg) (hfa : mg ("law" : Str) = some (.ref f)) (c : SaysB fa fn K) :
    ∃ fd : FuncData, (∀ (s : Shared) (v : Value), BindsTo s fd ⟨[v], []⟩ [("_law_script", v)]) ∧ ∀ base : Heap, K.In base → base.Ns mainGlobals mg → FnOk P w K mg base CX0 12 f fd ["_law_script"] (sp_law K) := by
  have T := tx_of X G c
  obtain ⟨fd, F⟩ := T.D_law
  have e := hfa.symm.trans T.g_law
  cases e
  have b := FunD.bindsA (ps := ["_law_script"]) F fun _ _ _ _ _ _ us hl => match us, hl with | [_], _ => rfl
  exact ⟨fd, fun s v => b s [v] rfl, fun base _ _ => ok_law T F⟩
end L2.Ng
open PySem PySem.W PySem.Calls PyProof.Rows
theorem PySem.Challenge.cw_mingleway_k38_whole_reach_grows_and_fall_holds : PySem.Challenge.rw_mingleway_k38_whole_reach_grows_and_fall.Holds := by
  w_on; o_law
  refine HandSHeadRun.head_any (r := OpenLaw.row PySem.Challenge.rw_mingleway_k38_whole_reach_grows_and_fall) (q := view (OpenLaw.row PySem.Challenge.rw_mingleway_k38_whole_reach_grows_and_fall).prog [44]) (H := L2.Ng.hk) (ob := L2.Ng.ob) (M := 4500) (loose := L2.Ng.loose) (d := HandSHeadRun.topDef (OpenLaw.row PySem.Challenge.rw_mingleway_k38_whole_reach_grows_and_fall).prog 44) (kwd := []) L2.Ng.ob_eq
    (by kernel_rfl) (fun s => by kernel_rfl) L2.Ng.run (by kernel_rfl) (by kernel_rfl) (by kernel_rfl) (by rfl) (by first | assumption | decide +kernel) (by decide +kernel) ⟨rfl, rfl, rfl, rfl, rfl, by decide +kernel⟩ ?hw ?hc
  case hw => w_witness2
  case hc =>
    refine L2.walk_ofE (l := PySem.Challenge.rw_mingleway_k38_whole_reach_grows_and_fall) (n := 63) (k := 12) (x := "_law_script") (CX := L2.CX0) rfl (by decide) (by kernel_rfl) ⟨rfl, by decide, by decide⟩ ?F (fun _ _ _ _ z => z)
    intro w mg fa h Y G hmg0
    obtain ⟨K, KX, c⟩ := Y
    have hmg : mg ("law" : PySem.Str) = some (.ref fa) := by
      have e : (HandSHeadRun.topDef (OpenLaw.row PySem.Challenge.rw_mingleway_k38_whole_reach_grows_and_fall).prog 44).name = ("law" : PySem.Str) := by kernel_rfl
      rw [← e]
      exact hmg0
    obtain ⟨fd, hb, hF⟩ := L2.Ng.facts (P := (PySem.Challenge.rw_mingleway_k38_whole_reach_grows_and_fall).prog) (w := w) KX G hmg c
    exact ⟨K, fd, L2.Ng.sp_law K, KX, hb, fun H a ns hl _ hS => L2.Ng.law_end hl hS, hF⟩
#print axioms PySem.Challenge.cw_mingleway_k38_whole_reach_grows_and_fall_holds
