import PyProof.Rows.All
import Wide.All
import OpenK.AllK
import Wide.FinOn
import HandS.ForMost
import HandS.Evl
import HandS.Wide
import HandS.Star
import HandS.IsInst
import HandS.Exc
import HandS.Defaults
import HandS.Flow
import HandS.EndBits
import PySem.Challenge.RW_wordorder_k23_letters_of_names
set_option Elab.async false
set_option linter.all false
set_option maxRecDepth 100000
set_option maxHeartbeats 4000000
namespace Mb
open PySem PySem.Spec PyProof.Rows L2
/-- a promise that is kept where no repr is under way -/
structure FnG (P : Program) (w : World) (K : PySem.W.Frag) (mg : Str → Option Value) (base : Heap) (CX : CXT) (k : Nat) (f : Addr)
    (fd : FuncData) (ps : List Str) (sp : Sp) : Prop where
  lenG : ∀ vs H Q E, sp vs H Q E → vs.length = ps.length
  runG : ∀ (A : Around) (outer : List Env) (s : Shared) (H : Hp) (args : Args) (us : List Value) (vs : List V) (Q : VK) (E : XK),
    A.guards = some [] → Room k A → Env0 P w K mg base A outer s H → BindsTo s fd args (ps.zip us) → Vals vs us → sp vs H Q E →
    codeAny (model P w) A (.call (.ref f) args) (CR CX outer P w H s Q E) s
theorem FnG.of {P : Program} {w : World} {K : PySem.W.Frag} {mg : Str → Option Value} {base : Heap} {CX : CXT} {k : Nat} {f : Addr}
    {fd : FuncData} {ps : List Str} {sp : Sp} (F : FnOk P w K mg base CX k f fd ps sp) : FnG P w K mg base CX k f fd ps sp :=
  ⟨F.len, fun A o s H a us vs Q E _ r e b v h => F.run A o s H a us vs Q E r e b v h⟩
theorem FnG.okX {P : Program} {w : World} {K : PySem.W.Frag} {mg : Str → Option Value} {base : Heap} {x qual : Str} {st : Stmt} {f : Addr}
    {fd : FuncData} {N ps : List Str} {k : Nat} {sp : Sp} {CX : CXT} (F : Fun K x qual st f fd) (S : FnScope N ps (defScope st))
    (len : ∀ vs H Q E, sp vs H Q E → vs.length = ps.length)
    (hbody : ∀ (cdv : Value) (A : Around) (outer : List Env) (s : Shared) (H : Hp) (vs : List V) (Q : VK) (E : XK), A.guards = some [] →
      Room k (A.deeper (envOfC qual (defScope st) s.heap.objs.size f cdv)) → sp vs H Q E →
      ∃ t, PSs (cxOf CX P w K mg base N qual (defScope st) f cdv A outer s H E) (defBody st) t ∧
        t { nx := fun _ H' => Q .non H', rt := Q } (start N vs) H) : FnG P w K mg base CX (k + 1) f fd ps sp := by
  obtain ⟨oc, od, kV, doc, pm, an, cdv, ct, osl, rfl, lk, hcd⟩ := F.ex
  constructor
  · exact len
  intro A outer s H args us vs Q E hG hr e0 hb r hsp
  have nlim := e0.mod.nolimit.keeps fun b o e => (e0.bs b o e).left
  have inK := e0.mod.kin.keeps fun b o e => (e0.bs b o e).left
  have kinds : ∀ y ∈ ps.zip us, (defScope st).names.lookup y.1 = some NameKind.local ∨
      ((defScope st).names.lookup y.1 = some NameKind.cell ∧
        ((cellsFrom (s.heap.objs.size + 1) (defScope st).names []).lookup y.1).isSome = true) := by
    intro y hy
    obtain ⟨n, v⟩ := y
    have hn := S.par n (List.of_mem_zip hy).1
    rcases hn with hn | hn
    · exact Or.inl hn
    · refine Or.inr ⟨hn, ?_⟩
      exact PySem.W.cellsFrom_some _ _ _ (Or.inl hn)
  have room := hr.depth
  apply codeAny_call_function room (inK _ _ lk) rfl S.co S.gen rfl (PySem.W.codeRec_of inK hcd)
  apply hb
  apply wpAny_newFunctionEnv_cells S.kind kinds
  intro env he s1 xc
  subst he
  refine ⟨nlim.keeps xc.toInCall.keep, codeAny_func ?_⟩
  obtain ⟨t, ht, hq⟩ := hbody cdv A outer s H vs Q E hG (hr.deeper _) hsp
  have I0 := inv_start (CX := CX) (E := E) S hr.hd e0 (len _ _ _ _ hsp) r xc
  apply wpAny_mono (ht.run [] s1 (start N vs) H _ I0 hq)
  · intro fl s' hs
    cases fl with
    | brk => exact hs.elim fun _ h => h.elim fun _ h => h.2.elim
    | cont => exact hs.elim fun _ h => h.elim fun _ h => h.2.elim
    | next =>
      obtain ⟨σ', H', J, q⟩ := hs
      exact ⟨V.non, H', J.os, J.bare, J.base, J.hok, rfl, q⟩
    | ret u =>
      obtain ⟨v, σ', H', J, rv, q⟩ := hs
      exact ⟨v, H', J.os, J.bare, J.base, J.hok, rv, q⟩
  · intro e s' hs
    exact hs
end Mb

namespace Mb
open PySem PySem.Spec PyProof.Rows L2
section
variable {X : Cx} {CX : CXT} {k : Nat} {f : Addr} {fd : FuncData} {ps : List Str} {sp : Sp} {E : XK} {x : Str} {p pos : Pos} {e : Expr} {es : List Expr} {t tk : TA}
/-- how arguments by place (n of them) and by name (ks) come to the parameters -/
def KwB (fd : FuncData) (ps ks : List Str) (n : Nat) (gV : List V → List V → List V) : Prop :=
  ∃ g : List Value → List Value → List Value, (∀ (s : Shared) (us ws : List Value), us.length = n → ws.length = ks.length → BindsTo s fd ⟨us, ks.zip ws⟩ (ps.zip (g us ws))) ∧
    (∀ (us ws : List Value) (vs zs : List V), us.length = n → ws.length = ks.length → Vals vs us → Vals zs ws → Vals (gV vs zs) (g us ws))
theorem runG {pins : List (Addr × Obj)} {σ : List (Option V)} {H : Hp} {s : Shared} {Q : VK} {us ws : List Value} {vs zs : List V} {ks : List Str} {n : Nat} {gV : List V → List V → List V}
    (F : FnG X.prog X.w X.K X.mg X.base CX k f fd ps sp) (hG : X.A.guards = some []) (hr : Room k X.A) (hb : KwB fd ps ks n gV) (hx : Passes CX X E)
    (I : L2.Inv X pins σ H s) (r : Vals vs us) (rz : Vals zs ws) (hn : us.length = n) (hk : ws.length = ks.length) (h : sp (gV vs zs) H Q E) :
    wpAny (model X.prog X.w) X.A (call (.ref f) us (ks.zip ws)) (EP X pins σ Q) X.xe s := by
  obtain ⟨g, b1, b2⟩ := hb
  refine wpAny_call (codeAny_mono (F.runG X.A X.stack s H ⟨us, ks.zip ws⟩ (g us ws) (gV vs zs) Q E hG hr I.env0 (b1 s us ws hn hk) (b2 us ws vs zs hn hk r rz) h) ?_)
  intro res s' hq
  cases res with
  | error e => exact hx pins σ H s e s' I hq
  | ok fl =>
    cases fl with
    | ret u => exact I.after hq
    | next => exact hq.elim
    | brk => exact hq.elim
    | cont => exact hq.elim
/-- f(a, .., k = v, ..) -/
def tCallW (sp : Sp) (gV : List V → List V → List V) (E : XK) (n m : Nat) (t tk : TA) : TE := fun σ H Q => t σ H fun vs H1 => tk σ H1 fun zs H2 => vs.length = n ∧ zs.length = m ∧ sp (gV vs zs) H2 Q E
theorem pe_callW {kws : List Keyword} {ks : List Str} {n : Nat} {gV : List V → List V → List V} (F : FnG X.prog X.w X.K X.mg X.base CX k f fd ps sp) (hG : X.A.guards = some []) (hr : Room k X.A) (hg : Gl X x) (hm : X.mg x = some (.ref f))
    (hk : PySem.W.keepIn X.K (.ref f) = true) (hb : KwB fd ps ks n gV) (hx : Passes CX X E) (ha : PA X (e :: es) t) (hkw : PK X kws tk)
    (hall : (backToKw pos (keywordEach kws X.env)).all (·.1.isSome) = true := by rfl) (hks : (backToKw pos (keywordEach kws X.env)).filterMap (·.1) = ks := by rfl)
    (hdb : (x == ("__debug__" : Str)) = false := by decide) (he : starEach (e :: es) X.env = (false, eval e X.env) :: starEach es X.env := by rfl)
    (hpl : ((backTo pos (starEach (e :: es) X.env)).any (·.1) || (backToKw pos (keywordEach kws X.env)).any (·.1.isNone)) = false := by rfl) :
    PE X (.Call (.Name x p) (e :: es) kws pos) (tCallW sp gV E n ks.length t tk) := by
  refine ⟨fun pins s σ H Q I h => ?_⟩
  refine wpAny_Call_Name_kw (ld_glob I hg hm ?_ hdb)
  refine PySem.W.callWith_KW (h₀ := X.base) I.ok.mod.kin hk hall (thn (ha.run pos pins s σ H _ I h) fun us s1 z1 => ?_) hpl he
  obtain ⟨vs, H1, I1, r, q⟩ := z1
  refine thn (hkw.run pos pins s1 σ H1 _ I1 q) fun ws s2 z2 => ?_
  obtain ⟨zs, H2, I2, rz, l1, l2, q2⟩ := z2
  refine ⟨I2.kIn, ?_⟩
  rw [hks]
  exact runG F hG hr hb hx I2 r rz (r.length.symm.trans l1) (rz.length.symm.trans l2) q2
theorem pe_callW0 {kws : List Keyword} {ks : List Str} {gV : List V → List V → List V} (F : FnG X.prog X.w X.K X.mg X.base CX k f fd ps sp) (hG : X.A.guards = some []) (hr : Room k X.A) (hg : Gl X x) (hm : X.mg x = some (.ref f))
    (hk : PySem.W.keepIn X.K (.ref f) = true) (hb : KwB fd ps ks 0 gV) (hx : Passes CX X E) (hkw : PK X kws tk)
    (hall : (backToKw pos (keywordEach kws X.env)).all (·.1.isSome) = true := by rfl) (hks : (backToKw pos (keywordEach kws X.env)).filterMap (·.1) = ks := by rfl)
    (hdb : (x == ("__debug__" : Str)) = false := by decide)
    (hpl : ((backTo pos (starEach [] X.env)).any (·.1) || (backToKw pos (keywordEach kws X.env)).any (·.1.isNone)) = false := by rfl) :
    PE X (.Call (.Name x p) [] kws pos) (tCallW sp gV E 0 ks.length tNil tk) := by
  refine ⟨fun pins s σ H Q I h => ?_⟩
  refine wpAny_Call_Name_kw (ld_glob I hg hm ?_ hdb)
  refine PySem.W.callWith_KW0 (h₀ := X.base) I.ok.mod.kin hk hall (thn (hkw.run pos pins s σ H _ I h) fun ws s2 z2 => ?_) hpl
  obtain ⟨zs, H2, I2, rz, l1, l2, q2⟩ := z2
  refine ⟨I2.kIn, ?_⟩
  rw [hks]
  exact runG (us := []) (vs := []) F hG hr hb hx I2 .nil rz rfl (rz.length.symm.trans l2) q2
/-- a keyword-free call of a def that is promised where no repr is under way -/
theorem pe_callG {ds : List Value} {dvs : List V} (F : FnG X.prog X.w X.K X.mg X.base CX k f fd ps sp) (hG : X.A.guards = some []) (hr : Room k X.A) (hg : Gl X x) (hm : X.mg x = some (.ref f))
    (hk : PySem.W.keepIn X.K (.ref f) = true) (hb : Binds X.K fd ps ds) (hd : Vals dvs ds) (hx : Passes CX X E) (ha : PA X (e :: es) t) (hdb : (x == ("__debug__" : Str)) = false := by decide)
    (he : starEach (e :: es) X.env = (false, eval e X.env) :: starEach es X.env := by rfl) (hpl : (backTo pos (starEach es X.env)).any (·.1) = false := by rfl) :
    PE X (.Call (.Name x p) (e :: es) [] pos) (tCall sp dvs E t) := by
  refine ⟨fun pins s σ H Q I h => ?_⟩
  refine wpAny_Call_Name_kw (ld_glob I hg hm ?_ hdb)
  refine PySem.W.callWith_K (h₀ := X.base) I.ok.mod.kin hk (thn (ha.run pos pins s σ H _ I h) fun us s1 z => ?_) he hpl
  obtain ⟨vs, H1, I1, r, q⟩ := z
  refine ⟨I1.kIn, ?_⟩
  have r2 : Vals (vs ++ dvs) (us ++ ds) := r.append hd
  have hl : (us ++ ds).length = ps.length := r2.length.symm.trans (F.lenG _ _ _ _ q)
  refine wpAny_call (codeAny_mono (F.runG X.A X.stack s1 H1 ⟨us, []⟩ (us ++ ds) (vs ++ dvs) Q E hG hr I1.env0 (hb s1 us I1.kIn hl) r2 q) ?_)
  intro res s' hq
  cases res with
  | error e => exact hx pins σ H1 s1 e s' I1 hq
  | ok fl =>
    cases fl with
    | ret u => exact I1.after hq
    | next => exact hq.elim
    | brk => exact hq.elim
    | cont => exact hq.elim

/-! ### repr of data -/
/-- repr(x), x a list or a tuple of data -/
abbrev rRepr (K : PySem.W.Frag) : List V → Hp → VK → Prop := fun xs H Q => ∃ (a : Addr) (d : PyData), xs = [.ref a] ∧ Dp K H (.ref a) d ∧ d.showable = true ∧ d.hasDict = false ∧ d.depth ≤ 60 ∧ d.shown.length ≤ sizeLine ∧ Q (.str d.shown) H
theorem cr_repr (hG : X.A.guards = some []) (hu : X.A.units + 64 < cLine) : CallR X (.builtin "repr") (rRepr X.K) := by
  intro pins s σ H xs us Q I r h
  obtain ⟨a, d, rfl, hd, h1, h2, h3, h4, q⟩ := h
  cases r with
  | cons rv rn =>
    rename_i u us'
    cases rn
    obtain rfl : u = Value.ref a := rv
    obtain ⟨as, hr⟩ := Dp.reads I d (.ref a) (.ref a) hd rfl
    refine repr_of_reads' hr h1 (PyData.noDict_hsm h2) hG (by omega) (fun _ _ z => z) (fun h' u tk hk => ?_) h4
    exact ⟨.str d.shown, H, I.kept hk, ⟨u, rfl⟩, q⟩
end
end Mb

namespace Mb
open PySem PySem.Spec PyProof.Rows L2
/-- the law's call, from a promise that may ask that no repr is under way: H tells of nothing but the script -/
theorem lawG_core {P : Program} {w : World} {K : PySem.W.Frag} {mg mb : Str → Option Value} {CX : CXT} {k : Nat} {fa a : Addr} {fd : FuncData} {x : Str} {sp : Sp} {s₁ : Shared} {vs : List Value}
    (inK : K.In s₁.heap) (gl : s₁.heap.Ns mainGlobals mg) (bt : s₁.heap.Ns builtinsNs mb) (bb : ∀ x : Str, x ≠ "__name__" → mb x = bootBuiltins x) (nl : s₁.heap.NoLimit) (hg : s₁.gens = #[])
    (at_a : s₁.heap.get? a = some { cls := .type "list", data := .seq vs.toArray }) (hr : Room k callerA)
    (F : ∀ base : Heap, K.In base → base.Ns mainGlobals mg → FnG P w K mg base CX k fa fd [x] sp) (hbind : ∀ (s : Shared) (u : Value), BindsTo s fd ⟨[u], []⟩ [(x, u)])
    (H : Hp) (only : Only H) (hsp : sp [.ref a] H (fun v _ => v = .bl true) fun _ _ _ => False) (ok : HOk P w H s₁.heap) (at1 : ∀ b, H b ≠ none → b = a) (off : H a ≠ none → K.lookup a = none)
    (noX : ∀ e s', CX [] H s₁ (fun _ _ _ => False) e s' → False) :
    codeAny (model P w) callerA (.call (.ref fa) ⟨[.ref a], []⟩) (fun r s' => r = .ok (.ret (.bool true)) ∧ OldK s₁.heap s'.heap ∧ s'.os = s₁.os ∧ AllBare s'.gens) s₁ := by
  have keep : ∀ {b : Addr} {o : Obj}, s₁.heap.get? b = some o → H b = none → (hidT s₁.heap H).get? b = some o := fun u v => hidT_get u v
  have isA : ∀ {b : Addr} {u : HO}, H b = some u → b = a := fun {b u} q => at1 b (fun z => by rw [z] at q; cases q)
  have dict_free : ∀ {b : Addr} {o : Obj} {es : Array DictEntry} {ep : Nat}, s₁.heap.get? b = some o → o.data = .dict es ep → H b = none := by
    intro b o es ep e d
    cases q : H b with
    | none => rfl
    | some u =>
      rw [isA q, at_a] at e
      injection e with e
      rw [← e] at d
      cases d
  have nss : ∀ {b : Addr} {m : Str → Option Value}, s₁.heap.Ns b m → (hidT s₁.heap H).Ns b m := by
    intro b m hn
    obtain ⟨o, es, ep, e, d, r⟩ := hn
    exact ⟨o, es, ep, keep e (dict_free e d), d, r⟩
  have kb : K.In (hidT s₁.heap H) := by
    intro b o e
    refine keep (inK b o e) ?_
    cases q : H b with
    | none => rfl
    | some u =>
      have eb := isA q
      rw [eb] at e q
      rw [off (by rw [q]; simp)] at e
      cases e
  obtain ⟨ml, l1, l2⟩ := nl
  have modul : Mod K mg (hidT s₁.heap H) := ⟨kb, nss gl, ⟨mb, nss bt, bb⟩, ⟨ml, nss l1, l2⟩⟩
  have env : Env0 P w K mg (hidT s₁.heap H) callerA [] s₁ H := by
    refine ⟨rfl, modul, fun b o e => of_hidT e, Nat.le_of_eq (hidT_size _ _), trivial, fun b hb => ?_, ok, .of_eq hg⟩
    cases hb
  have run := (F _ kb (nss gl)).runG callerA [] s₁ H ⟨[.ref a], []⟩ [.ref a] [.ref a] _ _ rfl hr env (hbind s₁ (.ref a)) (.cons rfl .nil) hsp
  refine codeAny_mono run ?_
  intro r s' h
  cases r with
  | error e => exact absurd h (noX e s')
  | ok fl =>
    cases fl with
    | next => exact h.elim
    | brk => exact h.elim
    | cont => exact h.elim
    | ret u =>
      obtain ⟨v, H', os, bare, un, ok', rv, q⟩ := h
      have ev : v = .bl true := q
      rw [ev] at rv
      have eu : u = Value.bool true := rv
      rw [eu]
      refine ⟨rfl, OldK.of_keep ?_, os, bare⟩
      intro b o e
      cases q : H b with
      | none => exact un.keep b o e q (fun z => by cases z) (fun z => by cases z)
      | some u =>
        obtain z | z := only b
        · rw [q] at z
          cases z
        · obtain ⟨ob, xs, z⟩ := z
          have g1 := (ok b _ z).1
          have g2 := (ok' b _ (un.frzs b ob _ z)).1
          rw [e] at g1
          injection g1 with g1
          rw [g1]
          exact g2
theorem lawG_call {P : Program} {w : World} {K : PySem.W.Frag} {mg mb : Str → Option Value} {CX : CXT} {k : Nat} {fa a : Addr} {fd : FuncData} {x : Str} {sp : Sp} {s₁ : Shared} {vs : List Value} {ns : List Int}
    (inK : K.In s₁.heap) (gl : s₁.heap.Ns mainGlobals mg) (bt : s₁.heap.Ns builtinsNs mb) (bb : ∀ x : Str, x ≠ "__name__" → mb x = bootBuiltins x) (nl : s₁.heap.NoLimit) (hg : s₁.gens = #[])
    (at_a : s₁.heap.get? a = some { cls := .type "list", data := .seq vs.toArray }) (hin : IntsAre vs ns) (fits : ns.length ≤ sizeLine) (hr : Room k callerA)
    (F : ∀ base : Heap, K.In base → base.Ns mainGlobals mg → FnG P w K mg base CX k fa fd [x] sp) (hbind : ∀ (s : Shared) (u : Value), BindsTo s fd ⟨[u], []⟩ [(x, u)])
    (hsp : ∀ H : Hp, Only H → SqL K H a (ns.map V.int) → sp [.ref a] H (fun v _ => v = .bl true) fun _ _ _ => False)
    (noX : ∀ H e s', CX [] H s₁ (fun _ _ _ => False) e s' → False) :
    codeAny (model P w) callerA (.call (.ref fa) ⟨[.ref a], []⟩) (fun r s' => r = .ok (.ret (.bool true)) ∧ OldK s₁.heap s'.heap ∧ s'.os = s₁.os ∧ AllBare s'.gens) s₁ := by
  have rv := vals_ints hin
  have len := hin.length
  cases hk : K.lookup a with
  | some o =>
    have e := inK a o hk
    rw [at_a] at e
    injection e with e
    rw [← e] at hk
    have hS : SqL K (fun _ => none) a (ns.map V.int) := by
      refine Or.inr ⟨_, vs.toArray, _, hk, rfl, rfl, rfl, ?_, ?_⟩
      · rw [List.size_toArray, len]
        exact fits
      · simpa using rv
    refine lawG_core inK gl bt bb nl hg at_a hr F hbind (fun _ => none) (fun _ => Or.inl rfl) (hsp _ (fun _ => Or.inl rfl) hS) ?_ ?_ ?_ (noX _)
    · intro b u z
      cases z
    · intro b z
      exact (z rfl).elim
    · intro z
      exact (z rfl).elim
  | none =>
    have there : (fun b => if b = a then some (HO.frz { cls := .type "list", data := .seq vs.toArray } (.lst (ns.map V.int))) else none : Hp) a = some (HO.frz { cls := .type "list", data := .seq vs.toArray } (.lst (ns.map V.int))) := by
      show (if a = a then _ else none) = _
      rw [if_pos rfl]
    have off : ∀ b, b ≠ a → (fun b => if b = a then some (HO.frz { cls := .type "list", data := .seq vs.toArray } (.lst (ns.map V.int))) else none : Hp) b = none := by
      intro b hb
      show (if b = a then _ else none) = _
      rw [if_neg hb]
    have only : Only (fun b => if b = a then some (HO.frz { cls := .type "list", data := .seq vs.toArray } (.lst (ns.map V.int))) else none) := by
      intro b
      by_cases hb : b = a
      · rw [hb]
        exact Or.inr ⟨_, _, there⟩
      · exact Or.inl (off b hb)
    refine lawG_core inK gl bt bb nl hg at_a hr F hbind _ only (hsp _ only (Or.inl (Or.inr ⟨_, there⟩))) ?_ ?_ (fun _ => hk) (noX _)
    · intro b u z
      by_cases hb : b = a
      · rw [hb] at z ⊢
        rw [there] at z
        injection z with z
        rw [← z]
        refine ⟨at_a, ?_, vs, _, rv, at_a⟩
        rw [List.length_map]
        exact fits
      · rw [off b hb] at z
        cases z
    · intro b z
      by_cases hb : b = a
      · exact hb
      · exact (z (off b hb)).elim
theorem walkG {l : PySem.W.OpenLaw} {n k : Nat} {q : Program} {loose : List Str} {XP : (Str → Option Value) → Heap → Prop} {YP : World → Heap → Prop} {d : DefRec} {K : Params → PySem.W.Frag} {CX : World → CXT} {sp : World → Sp} {x : Str}
    (hn : l.most = some n) (hn2 : n ≤ sizeLine) (hdf : d.params.defaults = []) (hr : Room k callerA)
    (hY : ∀ (w : World) (h : Heap), YP w h → (K w.params).In h)
    (F : ∀ (w : World) (mg : Str → Option Value) (fa : Addr) (h : Heap), (K w.params).In h → h.Ns mainGlobals mg → mg d.name = some (.ref fa) →
      ∃ fd : FuncData, (∀ (s : Shared) (u : Value), BindsTo s fd ⟨[u], []⟩ [(x, u)]) ∧
        ∀ base : Heap, (K w.params).In base → base.Ns mainGlobals mg → FnG l.prog w (K w.params) mg base (CX w) k fa fd [x] (sp w))
    (hsp : ∀ (w : World) (H : Hp) (a : Addr) (ns : List Int), ns.length ≤ n → (∀ z ∈ ns, Builtin.Int.intBits z ≤ 1048576) → Only H → SqL (K w.params) H a (ns.map V.int) → sp w [.ref a] H (fun v _ => v = .bl true) fun _ _ _ => False)
    (noX : ∀ (w : World) (H : Hp) (s : Shared) (e : Value) (s' : Shared), CX w [] H s (fun _ _ _ => False) e s' → False) :
    PySem.W.WalkO q loose XP YP l.row.toRowW d [] (fun f vs => PySem.call f vs) := by
  refine Att.attach_callB hn hdf ?_
  intro w s₀ s₁ mg mb fa o pm cd doc a vs ns G Y ho hd hcd hmg hobj hints hlen hbits hg
  obtain ⟨fd, hb, hF⟩ := F w mg fa _ (hY w _ Y) G.T.g hmg
  exact lawG_call (hY w _ Y) G.T.g G.T.b G.T.builtins G.T.nolimit hg hobj hints (Nat.le_trans hlen hn2) hr hF hb (fun H hO hS => hsp w H a ns hlen hbits hO hS) fun H e s' => noX w H s₁ e s'
end Mb

namespace Mb
open PySem L2
open Evl (Ex)
abbrev Sg := L2.St
theorem Ex.rf {H : Hp} : Ex H H := Evl.Ex.refl H
theorem ex_upd {H H1 : Hp} {p : Addr} {o : HO} (e : Ex H H1) : Ex (upd H p o) (upd H1 p o) := fun a u h => by
  by_cases ha : a = p
  · rw [ha, upd_same] at h ⊢
    exact h
  · rw [upd_ne ha] at h ⊢
    exact e a u h
theorem ex_new {H : Hp} {p : Addr} {o : HO} (h : H p = none) : Ex H (upd H p o) := Evl.Ex.new h
theorem ex_free {H H1 : Hp} {p : Addr} (e : Ex H H1) (h : H1 p = none) : H p = none := Evl.fresh_back e h

/-! ### readings over what is known of the heap: K asks of a heap that holds at least what is told -/
abbrev KV := V → Hp → Prop
abbrev KB := Bool → Hp → Prop
abbrev KA := List V → Hp → Prop
abbrev KS := Sg → Hp → Prop
def W (t : TE) (σ : Sg) (H : Hp) (K : KV) : Prop := ∀ H1, Ex H H1 → ∀ Q : VK, (∀ v H2 H3, K v H2 → Ex H2 H3 → Q v H3) → t σ H1 Q
def WT (t : TT) (σ : Sg) (H : Hp) (K : KB) : Prop := ∀ H1, Ex H H1 → ∀ Q : Bool → Hp → Prop, (∀ v H2 H3, K v H2 → Ex H2 H3 → Q v H3) → t σ H1 Q
def WA (t : TA) (σ : Sg) (H : Hp) (K : KA) : Prop := ∀ H1, Ex H H1 → ∀ Q : List V → Hp → Prop, (∀ v H2 H3, K v H2 → Ex H2 H3 → Q v H3) → t σ H1 Q
def WO (t : TO) (σ : Sg) (H : Hp) (K : Option Int → Hp → Prop) : Prop := ∀ H1, Ex H H1 → ∀ Q : Option Int → Hp → Prop, (∀ v H2 H3, K v H2 → Ex H2 H3 → Q v H3) → t σ H1 Q
def WR (r : R2) (x y : V) (H : Hp) (K : KV) : Prop := ∀ H1, Ex H H1 → ∀ Q : VK, (∀ v H2 H3, K v H2 → Ex H2 H3 → Q v H3) → r x y H1 Q
def WU (r : V → Hp → VK → Prop) (x : V) (H : Hp) (K : KV) : Prop := ∀ H1, Ex H H1 → ∀ Q : VK, (∀ v H2 H3, K v H2 → Ex H2 H3 → Q v H3) → r x H1 Q
def WC (r : List V → Hp → VK → Prop) (x : List V) (H : Hp) (K : KV) : Prop := ∀ H1, Ex H H1 → ∀ Q : VK, (∀ v H2 H3, K v H2 → Ex H2 H3 → Q v H3) → r x H1 Q
def WM (r : V → List V → Hp → VK → Prop) (x : V) (ys : List V) (H : Hp) (K : KV) : Prop := ∀ H1, Ex H H1 → ∀ Q : VK, (∀ v H2 H3, K v H2 → Ex H2 H3 → Q v H3) → r x ys H1 Q
def WG (g : TG) (v : V) (σ : Sg) (H : Hp) (K : KS) : Prop := ∀ H1, Ex H H1 → ∀ Q : Sg → Hp → Prop, (∀ σ2 H2 H3, K σ2 H2 → Ex H2 H3 → Q σ2 H3) → g v σ H1 Q
def WGs (g : TGs) (v : List V) (σ : Sg) (H : Hp) (K : KS) : Prop := ∀ H1, Ex H H1 → ∀ Q : Sg → Hp → Prop, (∀ σ2 H2 H3, K σ2 H2 → Ex H2 H3 → Q σ2 H3) → g v σ H1 Q
/-- what is wanted at a block's ends -/
structure KE where
  nx : KS
  rt : KV
  bk : KS
  ct : KS
structure Le (D : KE) (D1 : Ends) : Prop where
  nx : ∀ σ H2 H3, D.nx σ H2 → Ex H2 H3 → D1.nx σ H3
  rt : ∀ v H2 H3, D.rt v H2 → Ex H2 H3 → D1.rt v H3
  bk : ∀ σ H2 H3, D.bk σ H2 → Ex H2 H3 → D1.bk σ H3
  ct : ∀ σ H2 H3, D.ct σ H2 → Ex H2 H3 → D1.ct σ H3
def S (t : TS) (D : KE) (σ : Sg) (H : Hp) : Prop := ∀ H1, Ex H H1 → ∀ D1 : Ends, Le D D1 → t D1 σ H1

section
variable {K : KV} {σ : Sg} {H H' : Hp} {ta tb te tc : TE} {v x y : V} {tt tu : TT} {KB' : KB}
/-- what a rule hands on stands in a heap that knows at least this -/
theorem W.mono {K' : KV} (h : W te σ H K) (k : ∀ v H, K v H → K' v H) : W te σ H K' := fun H1 e Q q => h H1 e Q fun v H2 H3 z e2 => q v H2 H3 (k v H2 z) e2
theorem W.ext (e : Ex H H') (h : W te σ H K) : W te σ H' K := fun H1 e1 Q q => h H1 (e.trans e1) Q q
theorem S.ext {t : TS} {D : KE} (e : Ex H H') (h : S t D σ H) : S t D σ H' := fun H1 e1 Q q => h H1 (e.trans e1) Q q
theorem WT.ext (e : Ex H H') (h : WT tt σ H KB') : WT tt σ H' KB' := fun H1 e1 Q q => h H1 (e.trans e1) Q q
theorem S.mono {t : TS} {D D' : KE} (h : S t D σ H) (n : ∀ σ H, D.nx σ H → D'.nx σ H) (r : ∀ v H, D.rt v H → D'.rt v H) (b : ∀ σ H, D.bk σ H → D'.bk σ H) (c : ∀ σ H, D.ct σ H → D'.ct σ H) : S t D' σ H :=
  fun H1 e D1 l => h H1 e D1 ⟨fun _ _ _ z => l.nx _ _ _ (n _ _ z), fun _ _ _ z => l.rt _ _ _ (r _ _ z), fun _ _ _ z => l.bk _ _ _ (b _ _ z), fun _ _ _ z => l.ct _ _ _ (c _ _ z)⟩

/-! ### expressions -/
theorem w_var {i : Nat} (h : σ[i]? = some (some v)) (k : K v H) : W (tVar i) σ H K := fun H1 e Q q => ⟨v, h, q v H H1 k e⟩
theorem w_c (k : K v H) : W (tC v) σ H K := fun H1 e Q q => q v H H1 k e
theorem w_op {r : R2} (h : W ta σ H fun x H1 => W tb σ H1 fun y H2 => WR r x y H2 K) : W (tOp r ta tb) σ H K := fun H1 e Q q =>
  h H1 e _ fun x H2 H3 h2 e2 => h2 H3 e2 _ fun y H4 H5 h4 e4 => h4 H5 e4 Q q
theorem w_un {r : V → Hp → VK → Prop} (h : W ta σ H fun x H1 => WU r x H1 K) : W (tUn r ta) σ H K := fun H1 e Q q => h H1 e _ fun x H2 H3 h2 e2 => h2 H3 e2 Q q
theorem w_cb {r : List V → Hp → VK → Prop} {t : TA} (h : WA t σ H fun vs H1 => WC r vs H1 K) : W (tCB r t) σ H K := fun H1 e Q q => h H1 e _ fun x H2 H3 h2 e2 => h2 H3 e2 Q q
theorem if_up {p q : Prop} {b : Bool} (h : if b = true then p else q) {p' q' : Prop} (hp : p → p') (hq : q → q') : if b = true then p' else q' := by
  cases b with
  | true =>
    rw [if_pos rfl] at h ⊢
    exact hp h
  | false =>
    rw [if_neg Bool.false_ne_true] at h ⊢
    exact hq h
theorem w_if (h : WT tt σ H fun b H1 => if b = true then W ta σ H1 K else W tb σ H1 K) : W (tIf tt ta tb) σ H K := fun H1 e Q q => h H1 e _ fun b H2 H3 h2 e2 =>
  if_up h2 (fun z => z H3 e2 Q q) (fun z => z H3 e2 Q q)
theorem wa_nil {K : KA} (k : K [] H) : WA tNil σ H K := fun H1 e Q q => q [] H H1 k e
theorem wa_cons {K : KA} {t : TA} (h : W te σ H fun x H1 => WA t σ H1 fun xs H2 => K (x :: xs) H2) : WA (tCons te t) σ H K := fun H1 e Q q =>
  h H1 e _ fun x H2 H3 h2 e2 => h2 H3 e2 _ fun xs H4 H5 h4 e4 => q (x :: xs) H4 H5 h4 e4
theorem w_tup {t : TA} (h : WA t σ H fun xs H1 => xs.length ≤ sizeLine ∧ ∀ p, H1 p = none → K (.ref p) (upd H1 p (.tup xs))) : W (tTup t) σ H K := fun H1 e Q q =>
  h H1 e _ fun xs H2 H3 h2 e2 => ⟨h2.1, fun p hp => q _ _ _ (h2.2 p (ex_free e2 hp)) (ex_upd e2)⟩
theorem w_lst {t : TA} (h : WA t σ H fun xs H1 => xs.length ≤ sizeLine ∧ ∀ p, H1 p = none → K (.ref p) (upd H1 p (.lst xs))) : W (tLst t) σ H K := fun H1 e Q q =>
  h H1 e _ fun xs H2 H3 h2 e2 => ⟨h2.1, fun p hp => q _ _ _ (h2.2 p (ex_free e2 hp)) (ex_upd e2)⟩
theorem w_dnew (h : ∀ p, H p = none → K (.ref p) (upd H p (.dK []))) : W tDNewK σ H K := fun H1 e Q q p hp => q _ _ _ (h p (ex_free e hp)) (ex_upd e)
theorem wa_star {Kf : PySem.W.Frag} {K : KA} {t : TA} (h : W te σ H fun x H1 => ∃ p xs, x = V.ref p ∧ (SqT Kf H1 p xs ∨ SqL Kf H1 p xs) ∧ WA t σ H1 fun ys H2 => K (xs ++ ys) H2) : WA (StX.tStar Kf te t) σ H K := fun H1 e Q q =>
  h H1 e _ fun x H2 H3 h2 e2 => by
    obtain ⟨p, xs, rfl, hs, h3⟩ := h2
    refine ⟨p, xs, rfl, ?_, h3 H3 e2 _ fun ys H4 H5 h4 e4 => q _ H4 H5 h4 e4⟩
    rcases hs with hs | hs
    · exact Or.inl (Evl.ex_t e2 hs)
    · exact Or.inr (Evl.ex_l e2 hs)
/-! ### tests -/
theorem wt_test (h : W te σ H fun x H1 => ∃ k, x = .bl k ∧ KB' k H1) : WT (tTest te) σ H KB' := fun H1 e Q q => h H1 e _ fun x H2 H3 h2 e2 => by
  obtain ⟨k, hk, z⟩ := h2
  exact ⟨k, hk, q k H2 H3 z e2⟩
theorem wt_b (h : W te σ H fun x H1 => ∃ k, x = .bl k ∧ KB' k H1) : WT (tB te) σ H KB' := fun H1 e Q q => h H1 e _ fun x H2 H3 h2 e2 => by
  obtain ⟨k, hk, z⟩ := h2
  exact ⟨k, hk, q k H2 H3 z e2⟩
theorem wt_yes (k : KB' true H) : WT tYes σ H KB' := fun H1 e Q q => q true H H1 k e
theorem wt_not (h : WT tt σ H fun b H1 => KB' (!b) H1) : WT (tNot tt) σ H KB' := fun H1 e Q q => h H1 e _ fun b H2 H3 h2 e2 => q _ H2 H3 h2 e2
theorem wt_and (h : WT tt σ H fun b H1 => if b = true then WT tu σ H1 KB' else KB' false H1) : WT (tAnd tt tu) σ H KB' := fun H1 e Q q => h H1 e _ fun b H2 H3 h2 e2 => by
  cases b with
  | true =>
    have z : WT tu σ H2 KB' := by rw [if_pos rfl] at h2; exact h2
    show (if true = true then tu σ H3 Q else Q false H3)
    rw [if_pos rfl]
    exact z H3 e2 Q q
  | false =>
    have z : KB' false H2 := by rw [if_neg Bool.false_ne_true] at h2; exact h2
    show (if false = true then tu σ H3 Q else Q false H3)
    rw [if_neg Bool.false_ne_true]
    exact q false H2 H3 z e2
theorem wt_or (h : WT tt σ H fun b H1 => if b = true then KB' true H1 else WT tu σ H1 KB') : WT (tOr tt tu) σ H KB' := fun H1 e Q q => h H1 e _ fun b H2 H3 h2 e2 => by
  cases b with
  | true =>
    have z : KB' true H2 := by rw [if_pos rfl] at h2; exact h2
    show (if true = true then Q true H3 else tu σ H3 Q)
    rw [if_pos rfl]
    exact q true H2 H3 z e2
  | false =>
    have z : WT tu σ H2 KB' := by rw [if_neg Bool.false_ne_true] at h2; exact h2
    show (if false = true then Q true H3 else tu σ H3 Q)
    rw [if_neg Bool.false_ne_true]
    exact z H3 e2 Q q
theorem w_andV (h : W ta σ H fun x H1 => ∃ c, x = .bl c ∧ if c = true then W tb σ H1 K else K (.bl false) H1) : W (tAndV ta tb) σ H K := fun H1 e Q q => h H1 e _ fun x H2 H3 h2 e2 => by
  obtain ⟨c, rfl, z⟩ := h2
  refine ⟨c, rfl, ?_⟩
  cases c with
  | true =>
    rw [if_pos rfl] at z ⊢
    exact z H3 e2 Q q
  | false =>
    rw [if_neg Bool.false_ne_true] at z ⊢
    exact q _ H2 H3 z e2
theorem w_orV (h : W ta σ H fun x H1 => ∃ c, x = .bl c ∧ if c = true then K (.bl true) H1 else W tb σ H1 K) : W (tOrV ta tb) σ H K := fun H1 e Q q => h H1 e _ fun x H2 H3 h2 e2 => by
  obtain ⟨c, rfl, z⟩ := h2
  refine ⟨c, rfl, ?_⟩
  cases c with
  | true =>
    rw [if_pos rfl] at z ⊢
    exact q _ H2 H3 z e2
  | false =>
    rw [if_neg Bool.false_ne_true] at z ⊢
    exact z H3 e2 Q q
theorem w_notV (h : W ta σ H fun x H1 => ∃ c, x = .bl c ∧ K (.bl (!c)) H1) : W (tNotV ta) σ H K := fun H1 e Q q => h H1 e _ fun x H2 H3 h2 e2 => by
  obtain ⟨c, rfl, z⟩ := h2
  exact ⟨c, rfl, q _ H2 H3 z e2⟩
theorem w_isN (h : W ta σ H fun x H1 => K (.bl (decide (x = .non))) H1) : W (tIsN ta) σ H K := fun H1 e Q q => h H1 e _ fun x H2 H3 h2 e2 => q _ H2 H3 h2 e2
theorem w_chain {r r' : R2} (h : W ta σ H fun x H1 => W tb σ H1 fun y H2 => WR r x y H2 fun z H3 => ∃ k, z = .bl k ∧ (if k = true then W tc σ H3 fun w' H4 => WR r' y w' H4 K else K (.bl false) H3)) : W (tChain r r' ta tb tc) σ H K := fun H1 e Q q =>
  h H1 e _ fun x H2 H3 h2 e2 => h2 H3 e2 _ fun y H4 H5 h4 e4 => h4 H5 e4 _ fun z H6 H7 h6 e6 => by
    obtain ⟨k, rfl, z⟩ := h6
    refine ⟨k, rfl, ?_⟩
    cases k with
    | true =>
      rw [if_pos rfl] at z ⊢
      exact z H7 e6 _ fun w' H8 H9 h8 e8 => h8 H9 e8 Q q
    | false =>
      rw [if_neg Bool.false_ne_true] at z ⊢
      exact q _ H6 H7 z e6
/-! ### slices' parts -/
theorem wo_none {K : Option Int → Hp → Prop} (k : K none H) : WO tNoPart σ H K := fun H1 e Q q => q none H H1 k e
theorem wo_some {K : Option Int → Hp → Prop} (h : W te σ H fun x H1 => ∃ i, x = .int i ∧ K (some i) H1) : WO (tPart te) σ H K := fun H1 e Q q => h H1 e _ fun x H2 H3 h2 e2 => by
  obtain ⟨i, rfl, z⟩ := h2
  exact ⟨i, rfl, q _ H2 H3 z e2⟩
def WL (r : V → Option Int → Option Int → Hp → VK → Prop) (x : V) (lo hi : Option Int) (H : Hp) (K : KV) : Prop := ∀ H1, Ex H H1 → ∀ Q : VK, (∀ v H2 H3, K v H2 → Ex H2 H3 → Q v H3) → r x lo hi H1 Q
theorem w_sl {r : V → Option Int → Option Int → Hp → VK → Prop} {tl th : TO} (h : W te σ H fun x H1 => WO tl σ H1 fun lo H2 => WO th σ H2 fun hi H3 => WL r x lo hi H3 K) : W (tSl r te tl th) σ H K := fun H1 e Q q =>
  h H1 e _ fun x H2 H3 h2 e2 => h2 H3 e2 _ fun lo H4 H5 h4 e4 => h4 H5 e4 _ fun hi H6 H7 h6 e6 => h6 H7 e6 Q q
/-! ### methods, calls -/
theorem w_bm {Kf : PySem.W.Frag} {T : String} {r : V → List V → Hp → VK → Prop} {t : TA} (h : W te σ H fun x H1 => tyV Kf T x H1 ∧ WA t σ H1 fun ys H2 => WM r x ys H2 K) (tyE : ∀ x H H', Ex H H' → tyV Kf T x H → tyV Kf T x H') : W (tBM Kf T r te t) σ H K := fun H1 e Q q =>
  h H1 e _ fun x H2 H3 h2 e2 => ⟨tyE x _ _ e2 h2.1, h2.2 H3 e2 _ fun ys H4 H5 h4 e4 => h4 H5 e4 Q q⟩
theorem w_bm0 {Kf : PySem.W.Frag} {T : String} {r : V → List V → Hp → VK → Prop} (h : W te σ H fun x H1 => tyV Kf T x H1 ∧ WM r x [] H1 K) (tyE : ∀ x H H', Ex H H' → tyV Kf T x H → tyV Kf T x H') : W (tBM0 Kf T r te) σ H K := fun H1 e Q q =>
  h H1 e _ fun x H2 H3 h2 e2 => ⟨tyE x _ _ e2 h2.1, h2.2 H3 e2 Q q⟩
theorem w_m0 {r : V → List V → Hp → VK → Prop} (h : W te σ H fun x H1 => (∃ a, x = .str a) ∧ WM r x [] H1 K) : W (tM0 r te) σ H K := fun H1 e Q q =>
  h H1 e _ fun x H2 H3 h2 e2 => ⟨h2.1, h2.2 H3 e2 Q q⟩
theorem w_m1 {r : V → List V → Hp → VK → Prop} (h : W te σ H fun x H1 => (∃ a, x = .str a) ∧ W ta σ H1 fun y H2 => WM r x [y] H2 K) : W (tM1 r te ta) σ H K := fun H1 e Q q =>
  h H1 e _ fun x H2 H3 h2 e2 => ⟨h2.1, h2.2 H3 e2 _ fun y H4 H5 h4 e4 => h4 H5 e4 Q q⟩
/-- a promise: for a the arguments and the heap are so (pre); what comes back and what is then known of the heap (post) -/
def Pr {α : Type} (pre : α → List V → Hp → Prop) (post : α → Hp → V → Hp → Prop) : Sp := fun vs H Q _ => ∃ (a : α) (H0 : Hp), Ex H0 H ∧ pre a vs H0 ∧ ∀ v H1 H2, post a H0 v H1 → Ex H1 H2 → Q v H2
theorem w_call {α : Type} {pre : α → List V → Hp → Prop} {post : α → Hp → V → Hp → Prop} {dvs : List V} {E : XK} {t : TA} (h : WA t σ H fun vs H1 => ∃ a, pre a (vs ++ dvs) H1 ∧ ∀ v H2, post a H1 v H2 → K v H2) : W (tCall (Pr pre post) dvs E t) σ H K := fun H1 e Q q =>
  h H1 e _ fun vs H2 H3 h2 e2 => by
    obtain ⟨a, p, k⟩ := h2
    exact ⟨a, H2, e2, p, fun v H4 H5 z e5 => q v H4 H5 (k v H4 z) e5⟩
theorem w_callW {α : Type} {pre : α → List V → Hp → Prop} {post : α → Hp → V → Hp → Prop} {gV : List V → List V → List V} {n m : Nat} {E : XK} {t tk : TA} (h : WA t σ H fun vs H1 => WA tk σ H1 fun zs H2 => vs.length = n ∧ zs.length = m ∧ ∃ a, pre a (gV vs zs) H2 ∧ ∀ v H3, post a H2 v H3 → K v H3) : W (tCallW (Pr pre post) gV E n m t tk) σ H K := fun H1 e Q q =>
  h H1 e _ fun vs H2 H3 h2 e2 => h2 H3 e2 _ fun zs H4 H5 h4 e4 => by
    obtain ⟨l1, l2, a, p, k⟩ := h4
    exact ⟨l1, l2, a, H4, e4, p, fun v H6 H7 z e7 => q v H6 H7 (k v H6 z) e7⟩
end
end Mb

namespace Mb
open PySem L2
open Evl (Ex)
theorem tyV_ext {Kf : PySem.W.Frag} {T : String} : ∀ x H H', Ex H H' → tyV Kf T x H → tyV Kf T x H' := fun x H H' e h => by
  cases x with
  | ref p =>
    rcases h with ⟨a, xs, b⟩ | h | ⟨a, ⟨k, b⟩ | ⟨k, b⟩⟩ | ⟨a, S, n, b⟩
    · exact Or.inl ⟨a, xs, Evl.ex_l e b⟩
    · exact Or.inr (Or.inl h)
    · exact Or.inr (Or.inr (Or.inl ⟨a, Or.inl ⟨k, e _ _ b⟩⟩))
    · exact Or.inr (Or.inr (Or.inl ⟨a, Or.inr ⟨k, e _ _ b⟩⟩))
    · exact Or.inr (Or.inr (Or.inr ⟨a, S, n, e _ _ b⟩))
  | str _ => exact h
  | int _ => exact h
  | non => exact h
  | bl _ => exact h
  | byt _ => exact h
  | flt _ => exact h
  | ty _ => exact h
section
variable {K : KV} {σ : Sg} {H H' : Hp} {ta tb te tc : TE} {v x y : V} {tt tu : TT} {D : KE} {t u : TS} {g : TG}
/-! ### statements -/
theorem s_seq (h : S t { D with nx := fun σ1 H1 => S u D σ1 H1 } σ H) : S (tSeq t u) D σ H := fun H1 e D1 l =>
  h H1 e { D1 with nx := u D1 } ⟨fun σ2 H2 H3 z e3 => z H3 e3 D1 l, l.rt, l.bk, l.ct⟩
theorem s_next (k : D.nx σ H) : S tNext D σ H := fun H1 e D1 l => l.nx _ _ _ k e
theorem s_brk (k : D.bk σ H) : S tBreak D σ H := fun H1 e D1 l => l.bk _ _ _ k e
theorem s_cont (k : D.ct σ H) : S tCont D σ H := fun H1 e D1 l => l.ct _ _ _ k e
theorem s_drop (h : W te σ H fun _ H1 => D.nx σ H1) : S (tDrop te) D σ H := fun H1 e D1 l => h H1 e _ fun v H2 H3 k e2 => l.nx _ _ _ k e2
theorem s_ret (h : W te σ H D.rt) : S (tRet te) D σ H := fun H1 e D1 l => h H1 e _ fun v H2 H3 k e2 => l.rt _ _ _ k e2
theorem s_retN (h : D.rt .non H) : S tRetN D σ H := fun H1 e D1 l => l.rt _ _ _ h e
theorem s_if (h : WT tt σ H fun b H1 => if b = true then S t D σ H1 else S u D σ H1) : S (tIfS tt t u) D σ H := fun H1 e D1 l => h H1 e _ fun b H2 H3 h2 e2 =>
  if_up h2 (fun z => z H3 e2 D1 l) (fun z => z H3 e2 D1 l)
theorem s_asg (h : W te σ H fun x H1 => WG g x σ H1 D.nx) : S (tAsg te g) D σ H := fun H1 e D1 l => h H1 e _ fun v H2 H3 k e2 => k H3 e2 _ fun σ2 H4 H5 k4 e4 => l.nx _ _ _ k4 e4
theorem s_aug {i : Nat} {ti : TIp} (hx : σ[i]? = some (some x)) (h : W te σ H fun y H1 => WR ti x y H1 fun z H2 => D.nx (σ.set i (some z)) H2) : S (tAug i te ti) D σ H := fun H1 e D1 l =>
  ⟨x, hx, h H1 e _ fun v H2 H3 k e2 => k H3 e2 _ fun z H4 H5 k4 e4 => l.nx _ _ _ k4 e4⟩
theorem s_par {i j : Nat} {ta : TA} (h : WA ta σ H fun vs H1 => ∃ v w, vs = [v, w] ∧ D.nx ((σ.set i (some v)).set j (some w)) H1) : S (tPar i j ta) D σ H := fun H1 e D1 l =>
  h H1 e _ fun vs H2 H3 h2 e2 => by
    obtain ⟨v, w, rfl, k⟩ := h2
    exact ⟨v, w, rfl, l.nx _ _ _ k e2⟩
theorem s_cut {M : KS} (h : S t { D with nx := M } σ H) (k : ∀ σ1 H1, M σ1 H1 → S u D σ1 H1) : S (tSeq t u) D σ H := s_seq (h.mono (fun σ1 H1 m => k σ1 H1 m) (fun _ _ z => z) (fun _ _ z => z) (fun _ _ z => z))
/-! ### targets -/
theorem g_name {i : Nat} {K : KS} (k : K (σ.set i (some v)) H) : WG (gName i) v σ H K := fun H1 e Q q => q _ H H1 k e
theorem gs_nil {K : KS} (k : K σ H) : WGs gNil [] σ H K := fun H1 e Q q => ⟨rfl, q _ H H1 k e⟩
theorem gs_cons {gs : TGs} {vs : List V} {K : KS} (h : WG g v σ H fun σ1 H1 => WGs gs vs σ1 H1 K) : WGs (gCons g gs) (v :: vs) σ H K := fun H1 e Q q =>
  ⟨v, vs, rfl, h H1 e _ fun σ2 H2 H3 k e2 => k H3 e2 Q q⟩
theorem g_tup {Kf : PySem.W.Frag} {a : Addr} {xs : List V} {n : Nat} {gs : TGs} {K : KS} (h : SqT Kf H a xs) (hn : xs.length = n) (k : WGs gs xs σ H K) : WG (gTup Kf n gs) (.ref a) σ H K := fun H1 e Q q =>
  ⟨a, xs, rfl, Evl.ex_t e h, hn, k H1 e Q q⟩
theorem g_setL {l : Addr} {xs : List V} {i : Int} {j : Nat} {K : KS} (h : W ta σ H fun o H1 => W tb σ H1 fun z H2 => ∃ xs i j, o = .ref l ∧ z = .int i ∧ H2 l = some (.lst xs) ∧ ixN xs.length i = some j ∧ K σ (upd H2 l (.lst (xs.set j v)))) : WG (gSub ta tb rSetL) v σ H K := fun H1 e Q q =>
  h H1 e _ fun o H2 H3 h2 e2 => h2 H3 e2 _ fun z H4 H5 h4 e4 => by
    obtain ⟨xs, i, j, rfl, rfl, a1, a2, k⟩ := h4
    exact ⟨l, xs, i, j, rfl, rfl, e4 _ _ a1, a2, q _ _ _ k (ex_upd e4)⟩
/-! ### operators -/
theorem r_I0 {g : Int → Int → V} {i j : Int} (k : K (g i j) H) : WR (rI0 g) (.int i) (.int j) H K := fun H1 e Q q => ⟨i, j, rfl, rfl, q _ _ _ k e⟩
theorem r_I {C : Int → Int → Prop} {g : Int → Int → V} {i j : Int} (c : C i j) (k : K (g i j) H) : WR (rI C g) (.int i) (.int j) H K := fun H1 e Q q => ⟨i, j, rfl, rfl, c, q _ _ _ k e⟩
theorem r_U {g : Int → V} {i : Int} (k : K (g i) H) : WU (rU g) (.int i) H K := fun H1 e Q q => ⟨i, rfl, q _ _ _ k e⟩
theorem r_eq (hs : scal x y = true) (k : K (.bl (decide (x = y))) H) : WR rEq x y H K := fun H1 e Q q => ⟨hs, q _ _ _ k e⟩
theorem r_ne (hs : scal x y = true) (k : K (.bl (!decide (x = y))) H) : WR rNe x y H K := fun H1 e Q q => ⟨hs, q _ _ _ k e⟩
theorem r_ixL {Kf : PySem.W.Frag} {p : Addr} {xs : List V} {i : Int} (h : SqL Kf H p xs) (a : atI xs i = some v) (k : K v H) : WR (rIxL Kf) (.ref p) (.int i) H K := fun H1 e Q q => ⟨p, xs, i, v, rfl, rfl, Evl.ex_l e h, a, q _ _ _ k e⟩
theorem r_ixT {Kf : PySem.W.Frag} {p : Addr} {xs : List V} {i : Int} (h : SqT Kf H p xs) (a : atI xs i = some v) (k : K v H) : WR (rIxT Kf) (.ref p) (.int i) H K := fun H1 e Q q => ⟨p, xs, i, v, rfl, rfl, Evl.ex_t e h, a, q _ _ _ k e⟩
theorem r_ixS {z : Str} {i : Int} {c : Nat} (h : z.length ≤ sizeLine) (a : atI z.cps.toList i = some c) (k : K (.str ⟨#[c]⟩) H) : WR rIxS (.str z) (.int i) H K := fun H1 e Q q => ⟨z, i, c, rfl, rfl, h, a, q _ _ _ k e⟩
theorem r_in {Kf : PySem.W.Frag} {neg : Bool} {p : Addr} {xs : List V} (h : SqL Kf H p xs ∨ SqT Kf H p xs) (f1 : flatV x = true) (f2 : xs.all flatV = true) (k : K (.bl (if neg then !inV x xs else inV x xs)) H) : WR (rIn Kf neg) x (.ref p) H K := fun H1 e Q q =>
  ⟨p, xs, rfl, h.elim (fun z => Or.inl (Evl.ex_l e z)) (fun z => Or.inr (Evl.ex_t e z)), f1, f2, q _ _ _ k e⟩
theorem r_cat {l b : Addr} {xs zs : List V} (h1 : H l = some (.lst xs)) (h2 : H b = some (.lst zs)) (hz : xs.length + zs.length ≤ sizeLine) (k : ∀ p, H p = none → K (.ref p) (upd H p (.lst (xs ++ zs)))) : WR rCat (.ref l) (.ref b) H K := fun H1 e Q q =>
  ⟨l, b, xs, zs, rfl, rfl, e _ _ h1, e _ _ h2, hz, fun p hp => q _ _ _ (k p (ex_free e hp)) (ex_upd e)⟩
theorem r_addS {i j : Str} (h : i.length + j.length ≤ sizeLine) (k : K (.str (i ++ j)) H) : WR (fun x y H Q => ∃ i j, x = .str i ∧ y = .str j ∧ i.length + j.length ≤ sizeLine ∧ Q (.str (i ++ j)) H) (.str i) (.str j) H K := fun H1 e Q q => ⟨i, j, rfl, rfl, h, q _ _ _ k e⟩
theorem r_eqD {Kf : PySem.W.Frag} {d e : PyData} (h1 : Dp Kf H x d) (h2 : Dp Kf H y e) (s1 : SeqAt.shaped d = true) (s2 : SeqAt.shaped e = true) (k : K (.bl (PyData.eqv d e)) H) (dx : ∀ H' v d, Ex H H' → Dp Kf H v d → Dp Kf H' v d) : WR (rEqD Kf) x y H K := fun H1 ee Q q => ⟨d, e, dx _ _ _ ee h1, dx _ _ _ ee h2, s1, s2, q _ _ _ k ee⟩
theorem r_neD {Kf : PySem.W.Frag} {d e : PyData} (h1 : Dp Kf H x d) (h2 : Dp Kf H y e) (s1 : SeqAt.shaped d = true) (s2 : SeqAt.shaped e = true) (k : K (.bl (!PyData.eqv d e)) H) (dx : ∀ H' v d, Ex H H' → Dp Kf H v d → Dp Kf H' v d) : WR (rNeD Kf) x y H K := fun H1 ee Q q => ⟨d, e, dx _ _ _ ee h1, dx _ _ _ ee h2, s1, s2, q _ _ _ k ee⟩
theorem r_slL {Kf : PySem.W.Frag} {a : Addr} {xs : List V} {lo hi : Option Int} (h : SqL Kf H a xs) (k : ∀ p, H p = none → K (.ref p) (upd H p (.lst (cutV xs lo hi)))) : WL (rSlL Kf) (.ref a) lo hi H K := fun H1 e Q q =>
  ⟨a, xs, rfl, Evl.ex_l e h, fun p hp => q _ _ _ (k p (ex_free e hp)) (ex_upd e)⟩
theorem r_slT {Kf : PySem.W.Frag} {a : Addr} {xs : List V} {lo hi : Option Int} (h : SqT Kf H a xs) (hw : ¬ (HT.sIx xs.length 0 lo = 0 ∧ HT.sIx xs.length xs.length hi = xs.length)) (k : ∀ p, H p = none → K (.ref p) (upd H p (.tup (cutV xs lo hi)))) : WL (rSlT Kf) (.ref a) lo hi H K := fun H1 e Q q =>
  ⟨a, xs, rfl, Evl.ex_t e h, hw, fun p hp => q _ _ _ (k p (ex_free e hp)) (ex_upd e)⟩
/-! ### methods -/
theorem m_append {l : Addr} {xs : List V} (h : H l = some (.lst xs)) (hz : xs.length < sizeLine) (k : K .non (upd H l (.lst (xs ++ [y])))) : WM rAppend (.ref l) [y] H K := fun H1 e Q q => ⟨l, xs, y, rfl, rfl, e _ _ h, hz, q _ _ _ k (ex_upd e)⟩
theorem m_extend {l b : Addr} {xs zs : List V} (h : H l = some (.lst xs)) (h2 : H b = some (.lst zs)) (hz : xs.length + zs.length ≤ sizeLine) (k : K .non (upd H l (.lst (xs ++ zs)))) : WM rExtend (.ref l) [.ref b] H K := fun H1 e Q q =>
  ⟨l, b, xs, zs, rfl, rfl, e _ _ h, e _ _ h2, hz, q _ _ _ k (ex_upd e)⟩
theorem m_popAt {l : Addr} {xs : List V} {i : Int} {j : Nat} (h : H l = some (.lst xs)) (h1 : -(2 ^ 63) ≤ i) (h2 : i < 2 ^ 63) (hi : seqIndex? i xs.length = some j) (hj : xs[j]? = some y) (k : K y (upd H l (.lst (xs.eraseIdx j)))) : WM rPopAt (.ref l) [.int i] H K := fun H1 e Q q =>
  ⟨l, xs, i, j, y, rfl, rfl, e _ _ h, h1, h2, hi, hj, q _ _ _ k (ex_upd e)⟩
theorem m_insert {l : Addr} {xs : List V} {i : Int} (h : H l = some (.lst xs)) (hz : xs.length < sizeLine) (h1 : 0 ≤ i) (h2 : i < 2 ^ 63) (k : K .non (upd H l (.lst (xs.take i.toNat ++ [y] ++ xs.drop i.toNat)))) :
    WM (fun x vs H Q => ∃ (l : Addr) (xs : List V) (i : Int) (y : V), x = .ref l ∧ vs = [.int i, y] ∧ H l = some (.lst xs) ∧ xs.length < sizeLine ∧ 0 ≤ i ∧ i < 2 ^ 63 ∧ Q .non (upd H l (.lst (xs.take i.toNat ++ [y] ++ xs.drop i.toNat)))) (.ref l) [.int i, y] H K := fun H1 e Q q =>
  ⟨l, xs, i, y, rfl, rfl, e _ _ h, hz, h1, h2, q _ _ _ k (ex_upd e)⟩
end
/-! ### heaps: facts carried over what is laid -/
theorem sl_new {Kf : PySem.W.Frag} {H : Hp} {a p : Addr} {o : HO} {xs : List V} (hp : H p = none) (h : SqL Kf H a xs) : SqL Kf (upd H p o) a xs := Evl.ex_l (ex_new hp) h
theorem st_new {Kf : PySem.W.Frag} {H : Hp} {a p : Addr} {o : HO} {xs : List V} (hp : H p = none) (h : SqT Kf H a xs) : SqT Kf (upd H p o) a xs := Evl.ex_t (ex_new hp) h
theorem sl_same {Kf : PySem.W.Frag} {H : Hp} {a : Addr} {xs : List V} : SqL Kf (upd H a (.lst xs)) a xs := Or.inl (Or.inl upd_same)
theorem st_same {Kf : PySem.W.Frag} {H : Hp} {a : Addr} {xs : List V} : SqT Kf (upd H a (.tup xs)) a xs := Or.inl (Or.inl upd_same)
theorem up_ne {H : Hp} {a p : Addr} {o u : HO} (hp : a ≠ p) (h : H a = some u) : upd H p o a = some u := (upd_ne hp).trans h
theorem up_new {H : Hp} {a p : Addr} {o u : HO} (hp : H p = none) (h : H a = some u) : upd H p o a = some u := up_ne (ne_of_none h hp) h
theorem up_free {H : Hp} {a p : Addr} {o : HO} (hp : a ≠ p) (h : H a = none) : upd H p o a = none := (upd_ne hp).trans h
theorem free_of {H : Hp} {a p : Addr} {o : HO} (h : upd H p o a = none) : H a = none ∧ a ≠ p := by
  by_cases e : a = p
  · rw [e, upd_same] at h
    cases h
  · rw [upd_ne e] at h
    exact ⟨h, e⟩
end Mb

namespace Mb
open PySem L2
open Evl (Ex)
/-- what is known holds of some heap that this one extends -/
def Up (P : Sg → Hp → Prop) : Sg → Hp → Prop := fun σ H => ∃ H0, P σ H0 ∧ Ex H0 H
theorem Up.in' {P : Sg → Hp → Prop} {σ : Sg} {H : Hp} (h : P σ H) : Up P σ H := ⟨H, h, Ex.rf⟩
section
variable {K : KV} {σ : Sg} {H H' : Hp} {ta tb te tc : TE} {v x y : V} {tt tu : TT} {D : KE} {t u : TS} {g : TG} {Kf : PySem.W.Frag}
theorem Up.ext {P : Sg → Hp → Prop} {σ : Sg} {H H' : Hp} (h : Up P σ H) (e : Ex H H') : Up P σ H' := by
  obtain ⟨H0, p, e0⟩ := h
  exact ⟨H0, p, e0.trans e⟩
theorem le_loop {D : KE} {D1 : Ends} (l : Le D D1) (P : Sg → Hp → Prop) : Le { D with nx := Up P, ct := Up P, bk := D.nx } { D1 with nx := Up P, ct := Up P, bk := D1.nx } :=
  ⟨fun σ H2 H3 z e => z.ext e, l.rt, l.nx, fun σ H2 H3 z e => z.ext e⟩
def UpH (P : Hp → Prop) : Hp → Prop := fun H => ∃ H0, P H0 ∧ Ex H0 H
theorem UpH.ext {P : Hp → Prop} {H H' : Hp} (h : UpH P H) (e : Ex H H') : UpH P H' := by
  obtain ⟨H0, p, e0⟩ := h
  exact ⟨H0, p, e0.trans e⟩
/-- for over a list -/
theorem s_forL {tl : TE} (h : W tl σ H fun v H1 => ∃ (a : Addr) (xs : List V) (Pv : Nat → Sg → Hp → Prop), v = .ref a ∧ SqL Kf H1 a xs ∧ Pv 0 σ H1 ∧ (∀ i σ' H', i ≤ xs.length → Pv i σ' H' → SqL Kf H' a xs) ∧
      (∀ i x σ' H', xs[i]? = some x → Pv i σ' H' → WG g x σ' H' fun σ2 H2 => S t { D with nx := Up (Pv (i + 1)), ct := Up (Pv (i + 1)), bk := D.nx } σ2 H2) ∧ (∀ σ' H', Pv xs.length σ' H' → D.nx σ' H')) : S (tFor (iList Kf tl) g t) D σ H := fun H1 e D1 l =>
  h H1 e _ fun v H2 H3 h2 e2 => by
    obtain ⟨a, xs, Pv, rfl, hs, p0, pl, ps, pd⟩ := h2
    refine ⟨a, rfl, ⟨xs, Evl.ex_l e2 hs⟩, for_list (K := Kf) (xs := xs) (fun i => Up (Pv i)) ⟨H2, p0, e2⟩ (fun i σ' H' hi q => ?_) (fun i x σ' H' hi q => ?_) (fun σ' H' q => ?_)⟩
    · obtain ⟨H0, p, e0⟩ := q
      exact Evl.ex_l e0 (pl i σ' H0 hi p)
    · obtain ⟨H0, p, e0⟩ := q
      exact ps i x σ' H0 hi p H' e0 _ fun σ2 H4 H5 z e5 => z H5 e5 _ (le_loop l _)
    · obtain ⟨H0, p, e0⟩ := q
      exact l.nx _ _ _ (pd σ' H0 p) e0
theorem s_forT {tl : TE} (h : W tl σ H fun v H1 => ∃ (a : Addr) (xs : List V) (Pv : Nat → Sg → Hp → Prop), v = .ref a ∧ SqT Kf H1 a xs ∧ Pv 0 σ H1 ∧ (∀ i σ' H', i ≤ xs.length → Pv i σ' H' → SqT Kf H' a xs) ∧
      (∀ i x σ' H', xs[i]? = some x → Pv i σ' H' → WG g x σ' H' fun σ2 H2 => S t { D with nx := Up (Pv (i + 1)), ct := Up (Pv (i + 1)), bk := D.nx } σ2 H2) ∧ (∀ σ' H', Pv xs.length σ' H' → D.nx σ' H')) : S (tFor (iTup Kf tl) g t) D σ H := fun H1 e D1 l =>
  h H1 e _ fun v H2 H3 h2 e2 => by
    obtain ⟨a, xs, Pv, rfl, hs, p0, pl, ps, pd⟩ := h2
    refine ⟨a, rfl, ⟨xs, Evl.ex_t e2 hs⟩, for_tup (K := Kf) (xs := xs) (fun i => Up (Pv i)) ⟨H2, p0, e2⟩ (fun i σ' H' hi q => ?_) (fun i x σ' H' hi q => ?_) (fun σ' H' q => ?_)⟩
    · obtain ⟨H0, p, e0⟩ := q
      exact Evl.ex_t e0 (pl i σ' H0 hi p)
    · obtain ⟨H0, p, e0⟩ := q
      exact ps i x σ' H0 hi p H' e0 _ fun σ2 H4 H5 z e5 => z H5 e5 _ (le_loop l _)
    · obtain ⟨H0, p, e0⟩ := q
      exact l.nx _ _ _ (pd σ' H0 p) e0
/-- for i in range(n) -/
theorem s_forR1 {tn : TA} (h : WA tn σ H fun vs H1 => ∃ (n : Int) (Pv : Nat → Sg → Hp → Prop), vs = [.int n] ∧ -(2 ^ 62) ≤ n ∧ n < 2 ^ 62 ∧ Pv 0 σ H1 ∧
      (∀ (i : Nat) σ' H', i < n.toNat → Pv i σ' H' → WG g (.int (i : Int)) σ' H' fun σ2 H2 => S t { D with nx := Up (Pv (i + 1)), ct := Up (Pv (i + 1)), bk := D.nx } σ2 H2) ∧ (∀ σ' H', Pv n.toNat σ' H' → D.nx σ' H')) : S (tFor (iRng1 tn) g t) D σ H := fun H1 e D1 l =>
  h H1 e _ fun vs H2 H3 h2 e2 => by
    obtain ⟨n, Pv, rfl, b1, b2, p0, ps, pd⟩ := h2
    refine ⟨n, rfl, b1, b2, for_range (lo := 0) (n := n.toNat) (fun i => Up (Pv i)) ⟨H2, p0, e2⟩ (fun i σ' H' hi q => ?_) (fun σ' H' q => ?_)⟩
    · obtain ⟨H0, p, e0⟩ := q
      rw [Int.zero_add]
      exact ps i σ' H0 hi p H' e0 _ fun σ2 H4 H5 z e5 => z H5 e5 _ (le_loop l _)
    · obtain ⟨H0, p, e0⟩ := q
      exact l.nx _ _ _ (pd σ' H0 p) e0
theorem s_forR2 {tn : TA} (h : WA tn σ H fun vs H1 => ∃ (lo n : Int) (Pv : Nat → Sg → Hp → Prop), vs = [.int lo, .int n] ∧ (-(2 ^ 62) ≤ lo ∧ lo < 2 ^ 62 ∧ -(2 ^ 62) ≤ n ∧ n < 2 ^ 62) ∧ Pv 0 σ H1 ∧
      (∀ (i : Nat) σ' H', i < (n - lo).toNat → Pv i σ' H' → WG g (.int (lo + (i : Int))) σ' H' fun σ2 H2 => S t { D with nx := Up (Pv (i + 1)), ct := Up (Pv (i + 1)), bk := D.nx } σ2 H2) ∧ (∀ σ' H', Pv (n - lo).toNat σ' H' → D.nx σ' H')) : S (tFor (iRng2 tn) g t) D σ H := fun H1 e D1 l =>
  h H1 e _ fun vs H2 H3 h2 e2 => by
    obtain ⟨lo, n, Pv, rfl, b1, p0, ps, pd⟩ := h2
    refine ⟨lo, n, rfl, b1, for_range (lo := lo) (n := (n - lo).toNat) (fun i => Up (Pv i)) ⟨H2, p0, e2⟩ (fun i σ' H' hi q => ?_) (fun σ' H' q => ?_)⟩
    · obtain ⟨H0, p, e0⟩ := q
      exact ps i σ' H0 hi p H' e0 _ fun σ2 H4 H5 z e5 => z H5 e5 _ (le_loop l _)
    · obtain ⟨H0, p, e0⟩ := q
      exact l.nx _ _ _ (pd σ' H0 p) e0
theorem s_forR3 {tn : TA} (h : WA tn σ H fun vs H1 => ∃ (i0 j0 c : Int) (n : Nat) (Pv : Nat → Sg → Hp → Prop), vs = [.int i0, .int j0, .int c] ∧ RgC i0 j0 c n ∧ Pv 0 σ H1 ∧
      (∀ (i : Nat) σ' H', i < n → Pv i σ' H' → WG g (.int (i0 + (i : Nat) * c)) σ' H' fun σ2 H2 => S t { D with nx := Up (Pv (i + 1)), ct := Up (Pv (i + 1)), bk := D.nx } σ2 H2) ∧ (∀ σ' H', Pv n σ' H' → D.nx σ' H')) : S (tFor (iRng3 tn) g t) D σ H := fun H1 e D1 l =>
  h H1 e _ fun vs H2 H3 h2 e2 => by
    obtain ⟨i0, j0, c, n, Pv, rfl, b1, p0, ps, pd⟩ := h2
    refine ⟨i0, j0, c, n, rfl, b1, for_rangeC (lo := i0) (c := c) (n := n) (fun i => Up (Pv i)) ⟨H2, p0, e2⟩ (fun i σ' H' hi q => ?_) (fun σ' H' q => ?_)⟩
    · obtain ⟨H0, p, e0⟩ := q
      exact ps i σ' H0 hi p H' e0 _ fun σ2 H4 H5 z e5 => z H5 e5 _ (le_loop l _)
    · obtain ⟨H0, p, e0⟩ := q
      exact l.nx _ _ _ (pd σ' H0 p) e0
/-- while, by a word that falls -/
theorem s_while (Pv : Nat → Sg → Hp → Prop) (m0 : Nat) (p0 : Pv m0 σ H)
    (ps : ∀ m σ' H', Pv m σ' H' → WT tt σ' H' fun b H1 => if b = true then S t { D with nx := fun σ2 H2 => ∃ m', m' < m ∧ Up (Pv m') σ2 H2, ct := fun σ2 H2 => ∃ m', m' < m ∧ Up (Pv m') σ2 H2, bk := D.nx } σ' H1 else D.nx σ' H1) : S (tWhile tt t) D σ H := fun H1 e D1 l => by
  refine ⟨fun m => Up (Pv m), ⟨m0, H, p0, e⟩, fun m σ' H' q => ?_⟩
  obtain ⟨H0, p, e0⟩ := q
  refine ps m σ' H0 p H' e0 _ fun b H2 H3 h2 e2 => ?_
  refine if_up h2 (fun z => ?_) (fun z => l.nx _ _ _ z e2)
  refine ⟨fun σ2 H4 => ∃ m', m' < m ∧ Up (Pv m') σ2 H4, fun _ _ z => z, ?_⟩
  refine z H3 e2 _ ⟨fun σ2 H4 H5 y e5 => ?_, l.rt, l.nx, fun σ2 H4 H5 y e5 => ?_⟩
  · obtain ⟨m', hm, y⟩ := y
    exact ⟨m', hm, y.ext e5⟩
  · obtain ⟨m', hm, y⟩ := y
    exact ⟨m', hm, y.ext e5⟩
/-! ### comprehensions -/
/-- what a turn of a comprehension asks: the element is appended to the list at D, or nothing -/
def Trn (tt : TT) (te : TE) (vs : List Nat) (σ0 : Sg) (D : Addr) (N : Hp → Prop) : KS := fun σ2 H2 => wipe σ2 vs = wipe σ0 vs ∧ WT tt σ2 H2 fun b H3 => if b = true then W te σ2 H3 fun y H4 => ∃ acc, H4 D = some (.lst acc) ∧ acc.length < sizeLine ∧ N (upd H4 D (.lst (acc ++ [y]))) else N H3
theorem trn_up {vs : List Nat} {σ0 σ2 : Sg} {D : Addr} {N : Hp → Prop} {H2 H3 : Hp} (h : Trn tt te vs σ0 D N σ2 H2) (e : Ex H2 H3) (N1 : Hp → Prop) (hN : ∀ H4 H5, N H4 → Ex H4 H5 → N1 H5) :
    wipe σ2 vs = wipe σ0 vs ∧ tt σ2 H3 fun b H3 => if b = true then te σ2 H3 fun y H4 => ∃ acc, H4 D = some (.lst acc) ∧ acc.length < sizeLine ∧ N1 (upd H4 D (.lst (acc ++ [y]))) else N1 H3 := by
  refine ⟨h.1, h.2 H3 e _ fun b H4 H5 z e5 => ?_⟩
  refine if_up z (fun z => ?_) (fun z => hN _ _ z e5)
  refine z H5 e5 _ fun y H6 H7 z e7 => ?_
  obtain ⟨acc, a1, a2, a3⟩ := z
  exact ⟨acc, e7 _ _ a1, a2, hN _ _ a3 (ex_upd e7)⟩
theorem w_lcL {vs : List Nat} {tl : TE} (h : W tl σ H fun v H1 => ∃ (a : Addr) (xs : List V), v = .ref a ∧ SqL Kf H1 a xs ∧ ∀ Dl, H1 Dl = none → ∃ Pv : Nat → Hp → Prop, Pv 0 (upd H1 Dl (.lst [])) ∧ (∀ i H', i ≤ xs.length → Pv i H' → SqL Kf H' a xs) ∧
      (∀ i x H', xs[i]? = some x → Pv i H' → WG g x (wipe σ vs) H' (Trn tt te vs σ Dl (UpH (Pv (i + 1))))) ∧ (∀ H', Pv xs.length H' → K (.ref Dl) H')) : W (tLc (iList Kf tl) g tt te vs) σ H K := fun H1 e Q q =>
  h H1 e _ fun v H2 H3 h2 e2 => by
    obtain ⟨a, xs, rfl, hs, h3⟩ := h2
    refine ⟨a, rfl, ⟨xs, Evl.ex_l e2 hs⟩, fun Dl hD => ?_⟩
    obtain ⟨Pv, p0, pl, ps, pd⟩ := h3 Dl (ex_free e2 hD)
    refine lc_list (K := Kf) (xs := xs) (fun i H' => ∃ H0, Pv i H0 ∧ Ex H0 H') ⟨_, p0, ex_upd e2⟩ (fun i H' hi z => ?_) (fun i x H' hi z => ?_) (fun H' z => ?_)
    · obtain ⟨H0, p, e0⟩ := z
      exact Evl.ex_l e0 (pl i H0 hi p)
    · obtain ⟨H0, p, e0⟩ := z
      exact ps i x H0 hi p H' e0 _ fun σ2 H4 H5 z e5 => trn_up z e5 _ fun H6 H7 n e7 => n.ext e7
    · obtain ⟨H0, p, e0⟩ := z
      exact q _ _ _ (pd H0 p) e0
theorem w_lcT {vs : List Nat} {tl : TE} (h : W tl σ H fun v H1 => ∃ (a : Addr) (xs : List V), v = .ref a ∧ SqT Kf H1 a xs ∧ ∀ Dl, H1 Dl = none → ∃ Pv : Nat → Hp → Prop, Pv 0 (upd H1 Dl (.lst [])) ∧ (∀ i H', i ≤ xs.length → Pv i H' → SqT Kf H' a xs) ∧
      (∀ i x H', xs[i]? = some x → Pv i H' → WG g x (wipe σ vs) H' (Trn tt te vs σ Dl (UpH (Pv (i + 1))))) ∧ (∀ H', Pv xs.length H' → K (.ref Dl) H')) : W (tLc (iTup Kf tl) g tt te vs) σ H K := fun H1 e Q q =>
  h H1 e _ fun v H2 H3 h2 e2 => by
    obtain ⟨a, xs, rfl, hs, h3⟩ := h2
    refine ⟨a, rfl, ⟨xs, Evl.ex_t e2 hs⟩, fun Dl hD => ?_⟩
    obtain ⟨Pv, p0, pl, ps, pd⟩ := h3 Dl (ex_free e2 hD)
    refine lc_tup (K := Kf) (xs := xs) (fun i H' => ∃ H0, Pv i H0 ∧ Ex H0 H') ⟨_, p0, ex_upd e2⟩ (fun i H' hi z => ?_) (fun i x H' hi z => ?_) (fun H' z => ?_)
    · obtain ⟨H0, p, e0⟩ := z
      exact Evl.ex_t e0 (pl i H0 hi p)
    · obtain ⟨H0, p, e0⟩ := z
      exact ps i x H0 hi p H' e0 _ fun σ2 H4 H5 z e5 => trn_up z e5 _ fun H6 H7 n e7 => n.ext e7
    · obtain ⟨H0, p, e0⟩ := z
      exact q _ _ _ (pd H0 p) e0
theorem w_lcR1 {vs : List Nat} {tn : TA} (h : WA tn σ H fun ws H1 => ∃ n : Int, ws = [.int n] ∧ -(2 ^ 62) ≤ n ∧ n < 2 ^ 62 ∧ ∀ Dl, H1 Dl = none → ∃ Pv : Nat → Hp → Prop, Pv 0 (upd H1 Dl (.lst [])) ∧
      (∀ (i : Nat) H', i < n.toNat → Pv i H' → WG g (.int (i : Int)) (wipe σ vs) H' (Trn tt te vs σ Dl (UpH (Pv (i + 1))))) ∧ (∀ H', Pv n.toNat H' → K (.ref Dl) H')) : W (tLc (iRng1 tn) g tt te vs) σ H K := fun H1 e Q q =>
  h H1 e _ fun ws H2 H3 h2 e2 => by
    obtain ⟨n, rfl, b1, b2, h3⟩ := h2
    refine ⟨n, rfl, b1, b2, fun Dl hD => ?_⟩
    obtain ⟨Pv, p0, ps, pd⟩ := h3 Dl (ex_free e2 hD)
    refine lc_range (lo := 0) (n := n.toNat) (fun i H' => ∃ H0, Pv i H0 ∧ Ex H0 H') ⟨_, p0, ex_upd e2⟩ (fun i H' hi z => ?_) (fun H' z => ?_)
    · obtain ⟨H0, p, e0⟩ := z
      rw [Int.zero_add]
      exact ps i H0 hi p H' e0 _ fun σ2 H4 H5 z e5 => trn_up z e5 _ fun H6 H7 n e7 => n.ext e7
    · obtain ⟨H0, p, e0⟩ := z
      exact q _ _ _ (pd H0 p) e0
theorem w_lcR2 {vs : List Nat} {tn : TA} (h : WA tn σ H fun ws H1 => ∃ lo n : Int, ws = [.int lo, .int n] ∧ (-(2 ^ 62) ≤ lo ∧ lo < 2 ^ 62 ∧ -(2 ^ 62) ≤ n ∧ n < 2 ^ 62) ∧ ∀ Dl, H1 Dl = none → ∃ Pv : Nat → Hp → Prop, Pv 0 (upd H1 Dl (.lst [])) ∧
      (∀ (i : Nat) H', i < (n - lo).toNat → Pv i H' → WG g (.int (lo + (i : Int))) (wipe σ vs) H' (Trn tt te vs σ Dl (UpH (Pv (i + 1))))) ∧ (∀ H', Pv (n - lo).toNat H' → K (.ref Dl) H')) : W (tLc (iRng2 tn) g tt te vs) σ H K := fun H1 e Q q =>
  h H1 e _ fun ws H2 H3 h2 e2 => by
    obtain ⟨lo, n, rfl, b1, h3⟩ := h2
    refine ⟨lo, n, rfl, b1, fun Dl hD => ?_⟩
    obtain ⟨Pv, p0, ps, pd⟩ := h3 Dl (ex_free e2 hD)
    refine lc_range (lo := lo) (n := (n - lo).toNat) (fun i H' => ∃ H0, Pv i H0 ∧ Ex H0 H') ⟨_, p0, ex_upd e2⟩ (fun i H' hi z => ?_) (fun H' z => ?_)
    · obtain ⟨H0, p, e0⟩ := z
      exact ps i H0 hi p H' e0 _ fun σ2 H4 H5 z e5 => trn_up z e5 _ fun H6 H7 n e7 => n.ext e7
    · obtain ⟨H0, p, e0⟩ := z
      exact q _ _ _ (pd H0 p) e0
/-! ### comprehensions whose elements change nothing -/
theorem take_map_some {α β : Type} {f : α → β} {xs : List α} {i : Nat} {x : α} (h : xs[i]? = some x) : (xs.take (i + 1)).map f = (xs.take i).map f ++ [f x] := by
  rw [List.take_add_one, h, List.map_append]
  rfl
/-- [e for x in xs], e a value of x alone -/
theorem w_lcL_map {j : Nat} {vs : List Nat} {tl : TE} {a : Addr} {xs : List V} (f : V → V) (hw : ∀ x, wipe ((wipe σ vs).set j (some x)) vs = wipe σ vs)
    (h : W tl σ H fun v H1 => v = .ref a ∧ SqL Kf H1 a xs ∧ xs.length < sizeLine ∧ (∀ x ∈ xs, ∀ (H' : Hp) (K' : KV), Ex H1 H' → K' (f x) H' → W te ((wipe σ vs).set j (some x)) H' K') ∧
      ∀ p, H1 p = none → K (.ref p) (upd H1 p (.lst (xs.map f)))) : W (tLc (iList Kf tl) (gName j) tYes te vs) σ H K :=
  w_lcL (h.mono fun v H1 z => by
    obtain ⟨rfl, hs, hz, he, k⟩ := z
    refine ⟨a, xs, rfl, hs, fun Dl hD => ⟨fun i H' => H' = upd H1 Dl (.lst ((xs.take i).map f)), rfl, fun i H' _ p => ?_, fun i x H' hi p => ?_, fun H' p => ?_⟩⟩
    · rw [p]
      exact sl_new hD hs
    · have hx : x ∈ xs := List.mem_of_getElem? hi
      refine g_name ⟨hw x, wt_yes ?_⟩
      rw [if_pos rfl]
      refine he x hx H' _ (by rw [p]; exact ex_new hD) ⟨(xs.take i).map f, by rw [p]; exact upd_same, ?_, ?_⟩
      · rw [List.length_map, List.length_take]
        exact Nat.lt_of_le_of_lt (Nat.min_le_right _ _) hz
      · refine ⟨_, ?_, Ex.rf⟩
        show upd H' Dl (.lst ((xs.take i).map f ++ [f x])) = upd H1 Dl (.lst ((xs.take (i + 1)).map f))
        rw [p, upd_upd, take_map_some hi]
    · have p' : H' = upd H1 Dl (.lst ((xs.take xs.length).map f)) := p
      rw [List.take_length] at p'
      rw [p']
      exact k Dl hD)
end
end Mb

namespace Mb
open PySem L2
open Evl (Ex)
section
variable {X : Cx}
abbrev rLenS (K : PySem.W.Frag) : List V → Hp → VK → Prop := fun xs H Q => ∃ p ys, xs = [.ref p] ∧ (SqL K H p ys ∨ SqT K H p ys) ∧ Q (.int ys.length) H
theorem cr_lenS : CallR X (.builtin "len") (rLenS X.K) := call_len_seq
abbrev rLenZ : List V → Hp → VK → Prop := fun xs H Q => ∃ z, xs = [.str z] ∧ z.length ≤ sizeLine ∧ Q (.int z.length) H
theorem cr_lenZ : CallR X (.builtin "len") rLenZ := call_len_str
abbrev rLenD : List V → Hp → VK → Prop := fun xs H Q => ∃ a kvs, xs = [V.ref a] ∧ H a = some (.dK kvs) ∧ Q (.int kvs.length) H
theorem cr_lenD : CallR X (.builtin "len") rLenD := call_lenD
abbrev rMax2 : List V → Hp → VK → Prop := fun xs H Q => ∃ i j, xs = [.int i, .int j] ∧ Q (.int (if j > i then j else i)) H
theorem cr_max2 (hc : X.calm = true) : CallR X (.builtin "max") rMax2 := call_max2 hc
abbrev rMin2 : List V → Hp → VK → Prop := fun xs H Q => ∃ i j, xs = [.int i, .int j] ∧ Q (.int (if j < i then j else i)) H
theorem cr_min2 (hc : X.calm = true) : CallR X (.builtin "min") rMin2 := call_min2 hc
abbrev rAbs : List V → Hp → VK → Prop := fun xs H Q => ∃ i, xs = [.int i] ∧ Q (.int (if i < 0 then -i else i)) H
theorem cr_abs : CallR X (.builtin "abs") rAbs := call_abs
abbrev rDivm : List V → Hp → VK → Prop := fun xs H Q => ∃ i j, xs = [.int i, .int j] ∧ CDiv i j ∧ ∀ p, H p = none → Q (.ref p) (upd H p (.tup [.int (i / j), .int (i % j)]))
theorem cr_divm : CallR X (.builtin "divmod") rDivm := call_divmod
abbrev rInt1 : List V → Hp → VK → Prop := fun xs H Q => (∃ i, xs = [.int i] ∧ Q (.int i) H) ∨ ∃ k, xs = [.bl k] ∧ Q (.int (if k then 1 else 0)) H
theorem cr_int1 : CallR X (.type "int") rInt1 := call_int1
abbrev rJoin (K : PySem.W.Frag) : V → List V → Hp → VK → Prop := fun x xs H Q => ∃ a p, ∃ ys : List Str, x = .str a ∧ xs = [.ref p] ∧ (SqL K H p (ys.map V.str) ∨ SqT K H p (ys.map V.str)) ∧ (ys.map (·.length)).sum + ys.length * a.length ≤ 16777216 ∧ Q (.str (Txt.join a ys)) H
abbrev rSplit : V → List V → Hp → VK → Prop := fun x xs H Q => ∃ a b, x = .str a ∧ xs = [.str b] ∧ (b.length == 0) = false ∧ a.length + 2 ≤ sizeLine ∧ rNewStrs (Txt.split a b) H Q
abbrev rWords : V → List V → Hp → VK → Prop := fun x xs H Q => ∃ a, x = .str a ∧ xs = [] ∧ a.length + 2 ≤ sizeLine ∧ rNewStrs (Txt.words a) H Q
abbrev rInZ : R2 := fun x y H Q => ∃ (c : Nat) (z : Str), x = .str ⟨#[c]⟩ ∧ y = .str z ∧ Q (.bl (decide (c ∈ z.cps.toList))) H
theorem op_inZ : OpR X (compareOp .In) rInZ := op_in_sign
abbrev rNotInZ : R2 := fun x y H Q => ∃ (c : Nat) (z : Str), x = .str ⟨#[c]⟩ ∧ y = .str z ∧ Q (.bl (!decide (c ∈ z.cps.toList))) H
theorem op_notInZ : OpR X (compareOp .NotIn) rNotInZ := op_notIn_sign
abbrev rAddS : R2 := fun x y H Q => ∃ i j, x = .str i ∧ y = .str j ∧ i.length + j.length ≤ sizeLine ∧ Q (.str (i ++ j)) H
theorem op_addS : OpR X (binaryOp .Add) rAddS := op_add_str
abbrev rIsN2 : R2 := fun x y H Q => y = .non ∧ Q (.bl (decide (x = .non))) H
theorem op_isN2 : OpR X (compareOp .Is) rIsN2 := op_isN
abbrev rNotN2 : R2 := fun x y H Q => y = .non ∧ Q (.bl (!decide (x = .non))) H
theorem op_notN2 : OpR X (compareOp .IsNot) rNotN2 := op_notN
abbrev rIns : V → List V → Hp → VK → Prop := fun x vs H Q => ∃ (l : Addr) (xs : List V) (i : Int) (y : V), x = .ref l ∧ vs = [.int i, y] ∧ H l = some (.lst xs) ∧ xs.length < sizeLine ∧ 0 ≤ i ∧ i < 2 ^ 63 ∧ Q .non (upd H l (.lst (xs.take i.toNat ++ [y] ++ xs.drop i.toNat)))
theorem mt_ins : MtR X "list.insert" rIns := mt_insert
end
section
variable {K : KV} {σ : Sg} {H H' : Hp} {ta tb te tc : TE} {v x y : V} {Kf : PySem.W.Frag}
theorem c_lenL {p : Addr} {ys : List V} (h : SqL Kf H p ys) (k : K (.int ys.length) H) : WC (rLenS Kf) [.ref p] H K := fun H1 e Q q => ⟨p, ys, rfl, Or.inl (Evl.ex_l e h), q _ _ _ k e⟩
theorem c_lenT {p : Addr} {ys : List V} (h : SqT Kf H p ys) (k : K (.int ys.length) H) : WC (rLenS Kf) [.ref p] H K := fun H1 e Q q => ⟨p, ys, rfl, Or.inr (Evl.ex_t e h), q _ _ _ k e⟩
theorem c_lenZ {z : Str} (h : z.length ≤ sizeLine) (k : K (.int z.length) H) : WC rLenZ [.str z] H K := fun H1 e Q q => ⟨z, rfl, h, q _ _ _ k e⟩
theorem c_lenD {p : Addr} {kvs : List (Key × V)} (h : H p = some (.dK kvs)) (k : K (.int kvs.length) H) : WC rLenD [.ref p] H K := fun H1 e Q q => ⟨p, kvs, rfl, e _ _ h, q _ _ _ k e⟩
theorem c_max2 {i j : Int} (k : K (.int (if j > i then j else i)) H) : WC rMax2 [.int i, .int j] H K := fun H1 e Q q => ⟨i, j, rfl, q _ _ _ k e⟩
theorem c_min2 {i j : Int} (k : K (.int (if j < i then j else i)) H) : WC rMin2 [.int i, .int j] H K := fun H1 e Q q => ⟨i, j, rfl, q _ _ _ k e⟩
theorem c_abs {i : Int} (k : K (.int (if i < 0 then -i else i)) H) : WC rAbs [.int i] H K := fun H1 e Q q => ⟨i, rfl, q _ _ _ k e⟩
theorem c_divm {i j : Int} (h1 : 0 < j) (h2 : j < 1073741824) (k : ∀ p, H p = none → K (.ref p) (upd H p (.tup [.int (i / j), .int (i % j)]))) : WC rDivm [.int i, .int j] H K := fun H1 e Q q =>
  ⟨i, j, rfl, ⟨h1, h2⟩, fun p hp => q _ _ _ (k p (ex_free e hp)) (ex_upd e)⟩
theorem c_intI {i : Int} (k : K (.int i) H) : WC rInt1 [.int i] H K := fun H1 e Q q => Or.inl ⟨i, rfl, q _ _ _ k e⟩
theorem c_intB {b : Bool} (k : K (.int (if b then 1 else 0)) H) : WC rInt1 [.bl b] H K := fun H1 e Q q => Or.inr ⟨b, rfl, q _ _ _ k e⟩
theorem c_sum {a : Addr} {ns : List Int} (h : SqL Kf H a (ns.map V.int)) (k : K (.int ns.sum) H) : WC (rSum Kf) [.ref a] H K := fun H1 e Q q => ⟨a, ns, rfl, Evl.ex_l e h, q _ _ _ k e⟩
theorem c_all {a : Addr} {bs : List Bool} (h : SqL Kf H a (bs.map V.bl)) (k : K (.bl (bs.all id)) H) : WC (rAll Kf) [.ref a] H K := fun H1 e Q q => ⟨a, bs, rfl, Evl.ex_l e h, q _ _ _ k e⟩
theorem c_any {a : Addr} {bs : List Bool} (h : SqL Kf H a (bs.map V.bl)) (k : K (.bl (bs.any id)) H) : WC (rAny Kf) [.ref a] H K := fun H1 e Q q => ⟨a, bs, rfl, Evl.ex_l e h, q _ _ _ k e⟩
theorem c_max {a : Addr} {ns : List Int} (h : SqL Kf H a (ns.map V.int)) (hn : 0 < ns.length) (k : ∀ m, m ∈ ns → (∀ y, y ∈ ns → y ≤ m) → K (.int m) H) : WC (rMax Kf) [.ref a] H K := fun H1 e Q q => ⟨a, ns, rfl, Evl.ex_l e h, hn, fun m h1 h2 => q _ _ _ (k m h1 h2) e⟩
theorem c_min {a : Addr} {ns : List Int} (h : SqL Kf H a (ns.map V.int)) (hn : 0 < ns.length) (k : ∀ m, m ∈ ns → (∀ y, y ∈ ns → m ≤ y) → K (.int m) H) : WC (rMin Kf) [.ref a] H K := fun H1 e Q q => ⟨a, ns, rfl, Evl.ex_l e h, hn, fun m h1 h2 => q _ _ _ (k m h1 h2) e⟩
theorem tyX_ext {t : Value} (e : Ex H H') (h : TyX Kf H x t) : TyX Kf H' x t := by
  cases h with
  | base b =>
    refine .base ?_
    cases b with
    | non => exact .non
    | bl _ => exact .bl _
    | int _ => exact .int _
    | str _ => exact .str _
    | flt _ => exact .flt _
    | lst z => exact .lst (e _ _ z)
    | frz z => exact .frz (e _ _ z)
    | tup z => exact .tup (e _ _ z)
    | dK z => exact .dK (e _ _ z)
    | dT z => exact .dT (e _ _ z)
    | ins z a b c d f => exact .ins (e _ _ z) a b c d f
  | byt b => exact .byt b
  | set z => exact .set (e _ _ z)
  | kList a b => exact .kList a b
  | kTuple a b => exact .kTuple a b
  | kDict a b => exact .kDict a b
  | fTuple z => exact .fTuple (e _ _ z)
  | fDict z => exact .fDict (e _ _ z)
theorem c_isi {n m : String} {b : Bool} (h : TyX Kf H x (.type m)) (hk : kitB m n = some b) (k : K (.bl b) H) : WC (rIsi Kf) [x, .ty n] H K := fun H1 e Q q => ⟨x, .ty n, .type m, .type n, b, rfl, .ty n, tyX_ext e h, kit_ty hk, q _ _ _ k e⟩
theorem dpAll_ext (e : Ex H H') : ∀ (ds : List PyData) (vs : List V), (∀ d ∈ ds, ∀ v, Dp Kf H v d → Dp Kf H' v d) → DpAll Kf H vs ds → DpAll Kf H' vs ds
  | _, _, _, .nil => .nil
  | d :: ds, v :: vs, h, .cons a b => .cons (h d List.mem_cons_self v a) (dpAll_ext e ds vs (fun d' hd => h d' (List.mem_cons_of_mem _ hd)) b)
theorem dp_ext (e : Ex H H') : ∀ (n : Nat) (d : PyData) (v : V), sizeOf d ≤ n → Dp Kf H v d → Dp Kf H' v d := by
  intro n
  induction n with
  | zero => intro d v hn h; cases d <;> simp at hn
  | succ n ih =>
    intro d v hn h
    cases h with
    | non => exact .non
    | bl b => exact .bl b
    | int i => exact .int i
    | str x => exact .str x
    | @lst a xs ds hs ha =>
      refine .lst (Evl.ex_l e hs) (dpAll_ext e ds xs (fun d hd v hv => ih d v ?_ hv) ha)
      have h1 : sizeOf (PyData.list ds) = 1 + sizeOf ds := by simp
      have h2 := List.sizeOf_lt_of_mem hd
      omega
    | @tup a xs ds hs ha =>
      refine .tup (Evl.ex_t e hs) (dpAll_ext e ds xs (fun d hd v hv => ih d v ?_ hv) ha)
      have h1 : sizeOf (PyData.tuple ds) = 1 + sizeOf ds := by simp
      have h2 := List.sizeOf_lt_of_mem hd
      omega
theorem dp_up (e : Ex H H') {d : PyData} (h : Dp Kf H v d) : Dp Kf H' v d := dp_ext e _ d v (Nat.le_refl _) h
theorem r_eqd {d e : PyData} (h1 : Dp Kf H x d) (h2 : Dp Kf H y e) (s1 : SeqAt.shaped d = true) (s2 : SeqAt.shaped e = true) (k : K (.bl (PyData.eqv d e)) H) : WR (rEqD Kf) x y H K := r_eqD h1 h2 s1 s2 k fun H' v d e h => dp_up e h
theorem r_ned {d e : PyData} (h1 : Dp Kf H x d) (h2 : Dp Kf H y e) (s1 : SeqAt.shaped d = true) (s2 : SeqAt.shaped e = true) (k : K (.bl (!PyData.eqv d e)) H) : WR (rNeD Kf) x y H K := r_neD h1 h2 s1 s2 k fun H' v d e h => dp_up e h
theorem c_repr {a : Addr} {d : PyData} (h : Dp Kf H (.ref a) d) (h1 : d.showable = true) (h2 : d.hasDict = false) (h3 : d.depth ≤ 60) (h4 : d.shown.length ≤ sizeLine) (k : K (.str d.shown) H) : WC (rRepr Kf) [.ref a] H K := fun H1 e Q q =>
  ⟨a, d, rfl, dp_up e h, h1, h2, h3, h4, q _ _ _ k e⟩
theorem m_join {a : Str} {p : Addr} {ys : List Str} (h : SqL Kf H p (ys.map V.str)) (hz : (ys.map (·.length)).sum + ys.length * a.length ≤ 16777216) (k : K (.str (Txt.join a ys)) H) : WM (rJoin Kf) (.str a) [.ref p] H K := fun H1 e Q q =>
  ⟨a, p, ys, rfl, rfl, Or.inl (Evl.ex_l e h), hz, q _ _ _ k e⟩
theorem m_split {a b : Str} (h1 : (b.length == 0) = false) (h2 : a.length + 2 ≤ sizeLine) (k : ∀ p, H p = none → K (.ref p) (upd H p (.lst ((Txt.split a b).map V.str)))) : WM rSplit (.str a) [.str b] H K := fun H1 e Q q =>
  ⟨a, b, rfl, rfl, h1, h2, fun p hp => q _ _ _ (k p (ex_free e hp)) (ex_upd e)⟩
theorem m_words {a : Str} (h2 : a.length + 2 ≤ sizeLine) (k : ∀ p, H p = none → K (.ref p) (upd H p (.lst ((Txt.words a).map V.str)))) : WM rWords (.str a) [] H K := fun H1 e Q q =>
  ⟨a, rfl, rfl, h2, fun p hp => q _ _ _ (k p (ex_free e hp)) (ex_upd e)⟩
theorem r_inZ {c : Nat} {z : Str} (k : K (.bl (decide (c ∈ z.cps.toList))) H) : WR rInZ (.str ⟨#[c]⟩) (.str z) H K := fun H1 e Q q => ⟨c, z, rfl, rfl, q _ _ _ k e⟩
theorem r_notInZ {c : Nat} {z : Str} (k : K (.bl (!decide (c ∈ z.cps.toList))) H) : WR rNotInZ (.str ⟨#[c]⟩) (.str z) H K := fun H1 e Q q => ⟨c, z, rfl, rfl, q _ _ _ k e⟩
theorem r_addZ {i j : Str} (h : i.length + j.length ≤ sizeLine) (k : K (.str (i ++ j)) H) : WR rAddS (.str i) (.str j) H K := fun H1 e Q q => ⟨i, j, rfl, rfl, h, q _ _ _ k e⟩
theorem r_isN2 (k : K (.bl (decide (x = .non))) H) : WR rIsN2 x .non H K := fun H1 e Q q => ⟨rfl, q _ _ _ k e⟩
theorem r_notN2 (k : K (.bl (!decide (x = .non))) H) : WR rNotN2 x .non H K := fun H1 e Q q => ⟨rfl, q _ _ _ k e⟩
theorem m_ins {l : Addr} {xs : List V} {i : Int} (h : H l = some (.lst xs)) (hz : xs.length < sizeLine) (h1 : 0 ≤ i) (h2 : i < 2 ^ 63) (k : K .non (upd H l (.lst (xs.take i.toNat ++ [y] ++ xs.drop i.toNat)))) : WM rIns (.ref l) [.int i, y] H K := fun H1 e Q q =>
  ⟨l, xs, i, y, rfl, rfl, e _ _ h, hz, h1, h2, q _ _ _ k (ex_upd e)⟩
/-! ### dicts with whole-number or text keys -/
theorem w_dget (h : W ta σ H fun x H1 => W tb σ H1 fun y H2 => ∃ a kvs k v, x = .ref a ∧ H2 a = some (.dK kvs) ∧ y = kV k ∧ valV kvs k = some v ∧ K v H2) : W (tDGet ta tb) σ H K := fun H1 e Q q =>
  h H1 e _ fun x H2 H3 h2 e2 => h2 H3 e2 _ fun y H4 H5 h4 e4 => by
    obtain ⟨a, kvs, k, v, rfl, hd, rfl, hv, z⟩ := h4
    exact ⟨a, v, rfl, hv ▸ DGet.k (e4 _ _ hd), q _ _ _ z e4⟩
theorem w_din (h : W ta σ H fun y H1 => W tb σ H1 fun x H2 => ∃ a kvs k, x = .ref a ∧ H2 a = some (.dK kvs) ∧ y = kV k ∧ K (.bl (valV kvs k).isSome) H2) : W (tDIn ta tb) σ H K := fun H1 e Q q =>
  h H1 e _ fun x H2 H3 h2 e2 => h2 H3 e2 _ fun y H4 H5 h4 e4 => by
    obtain ⟨a, kvs, k, rfl, hd, rfl, z⟩ := h4
    exact ⟨a, _, rfl, DGet.k (e4 _ _ hd), q _ _ _ z e4⟩
theorem w_dnin (h : W ta σ H fun y H1 => W tb σ H1 fun x H2 => ∃ a kvs k, x = .ref a ∧ H2 a = some (.dK kvs) ∧ y = kV k ∧ K (.bl (!(valV kvs k).isSome)) H2) : W (tDNotIn ta tb) σ H K := fun H1 e Q q =>
  h H1 e _ fun x H2 H3 h2 e2 => h2 H3 e2 _ fun y H4 H5 h4 e4 => by
    obtain ⟨a, kvs, k, rfl, hd, rfl, z⟩ := h4
    exact ⟨a, _, rfl, DGet.k (e4 _ _ hd), q _ _ _ z e4⟩
theorem s_dput {D : KE} (h : W tc σ H fun v H1 => W ta σ H1 fun x H2 => W tb σ H2 fun y H3 => ∃ a kvs k, x = .ref a ∧ H3 a = some (.dK kvs) ∧ y = kV k ∧ kvs.length < sizeLine ∧ D.nx σ (upd H3 a (.dK (putK kvs k v)))) : S (sDPut ta tb tc) D σ H := fun H1 e D1 l =>
  h H1 e _ fun v H2 H3 h2 e2 => h2 H3 e2 _ fun x H4 H5 h4 e4 => h4 H5 e4 _ fun y H6 H7 h6 e6 => by
    obtain ⟨a, kvs, k, rfl, hd, rfl, hz, z⟩ := h6
    exact ⟨a, _, rfl, DPut.k (e6 _ _ hd) hz, l.nx _ _ _ z (ex_upd e6)⟩
end
end Mb

namespace Mb
open PySem PyProof.Rows L2
open Evl (Ex)
/-- a def that stands under its name: its promise, by level -/
structure Cal (P : Program) (w : World) (K : PySem.W.Frag) (mg : Str → Option Value) (base : Heap) (CX : CXT) (k : Nat) (x : Str) (ps : List Str) (sp : Sp) : Prop where
  ex : ∃ (f : Addr) (fd : FuncData), FnOk P w K mg base CX k f fd ps sp ∧ mg x = some (.ref f) ∧ PySem.W.keepIn K (.ref f) = true ∧ Binds K fd ps []
/-- the same where no repr may be under way -/
structure CalG (P : Program) (w : World) (K : PySem.W.Frag) (mg : Str → Option Value) (base : Heap) (CX : CXT) (k : Nat) (x : Str) (ps : List Str) (sp : Sp) : Prop where
  ex : ∃ (f : Addr) (fd : FuncData), FnG P w K mg base CX k f fd ps sp ∧ mg x = some (.ref f) ∧ PySem.W.keepIn K (.ref f) = true ∧ Binds K fd ps []
/-- the same, called with keywords ks behind n arguments by place -/
structure CalW (P : Program) (w : World) (K : PySem.W.Frag) (mg : Str → Option Value) (base : Heap) (CX : CXT) (k : Nat) (x : Str) (ks : List Str) (n : Nat) (gV : List V → List V → List V) (sp : Sp) : Prop where
  ex : ∃ (f : Addr) (fd : FuncData) (ps : List Str), FnG P w K mg base CX k f fd ps sp ∧ mg x = some (.ref f) ∧ PySem.W.keepIn K (.ref f) = true ∧ KwB fd ps ks n gV
section
variable {X : Cx} {CX : CXT} {k j : Nat} {x : Str} {ps ks : List Str} {sp : Sp} {E : XK} {p pos : Pos} {e : Expr} {es : List Expr} {t tk : TA} {n : Nat} {gV : List V → List V → List V}
theorem pe_cal (c : Cal X.prog X.w X.K X.mg X.base CX k x ps sp) (hr : Room k X.A) (hg : Gl X x) (hx : Passes CX X E)
    (ha : PA X (e :: es) t) (hdb : (x == ("__debug__" : Str)) = false := by decide) (he : starEach (e :: es) X.env = (false, eval e X.env) :: starEach es X.env := by rfl) (hpl : (backTo pos (starEach es X.env)).any (·.1) = false := by rfl) :
    PE X (.Call (.Name x p) (e :: es) [] pos) (tCall sp [] E t) := by
  obtain ⟨f, fd, F, hm, hk, hb⟩ := c.ex
  exact pe_call F hr hg hm hk hb .nil hx ha hdb he hpl
theorem pe_cal0 (c : Cal X.prog X.w X.K X.mg X.base CX k x ps sp) (hr : Room k X.A) (hg : Gl X x) (hx : Passes CX X E) (hdb : (x == ("__debug__" : Str)) = false := by decide) :
    PE X (.Call (.Name x p) [] [] pos) (tCall sp [] E tNil) := by
  obtain ⟨f, fd, F, hm, hk, hb⟩ := c.ex
  exact pe_call0 F hr hg hm hk hb .nil hx hdb
theorem pe_calG (c : CalG X.prog X.w X.K X.mg X.base CX k x ps sp) (hG : X.A.guards = some []) (hr : Room k X.A) (hg : Gl X x) (hx : Passes CX X E)
    (ha : PA X (e :: es) t) (hdb : (x == ("__debug__" : Str)) = false := by decide) (he : starEach (e :: es) X.env = (false, eval e X.env) :: starEach es X.env := by rfl) (hpl : (backTo pos (starEach es X.env)).any (·.1) = false := by rfl) :
    PE X (.Call (.Name x p) (e :: es) [] pos) (tCall sp [] E t) := by
  obtain ⟨f, fd, F, hm, hk, hb⟩ := c.ex
  exact pe_callG F hG hr hg hm hk hb .nil hx ha hdb he hpl
theorem pe_calW {kws : List Keyword} (c : CalW X.prog X.w X.K X.mg X.base CX k x ks n gV sp) (hG : X.A.guards = some []) (hr : Room k X.A) (hg : Gl X x) (hx : Passes CX X E) (ha : PA X (e :: es) t) (hkw : PK X kws tk)
    (hall : (backToKw pos (keywordEach kws X.env)).all (·.1.isSome) = true := by rfl) (hks : (backToKw pos (keywordEach kws X.env)).filterMap (·.1) = ks := by rfl)
    (hdb : (x == ("__debug__" : Str)) = false := by decide) (he : starEach (e :: es) X.env = (false, eval e X.env) :: starEach es X.env := by rfl)
    (hpl : ((backTo pos (starEach (e :: es) X.env)).any (·.1) || (backToKw pos (keywordEach kws X.env)).any (·.1.isNone)) = false := by rfl) :
    PE X (.Call (.Name x p) (e :: es) kws pos) (tCallW sp gV E n ks.length t tk) := by
  obtain ⟨f, fd, ps, F, hm, hk, hb⟩ := c.ex
  exact pe_callW F hG hr hg hm hk hb hx ha hkw hall hks hdb he hpl
theorem pe_calW0 {kws : List Keyword} (c : CalW X.prog X.w X.K X.mg X.base CX k x ks 0 gV sp) (hG : X.A.guards = some []) (hr : Room k X.A) (hg : Gl X x) (hx : Passes CX X E) (hkw : PK X kws tk)
    (hall : (backToKw pos (keywordEach kws X.env)).all (·.1.isSome) = true := by rfl) (hks : (backToKw pos (keywordEach kws X.env)).filterMap (·.1) = ks := by rfl)
    (hdb : (x == ("__debug__" : Str)) = false := by decide)
    (hpl : ((backTo pos (starEach [] X.env)).any (·.1) || (backToKw pos (keywordEach kws X.env)).any (·.1.isNone)) = false := by rfl) :
    PE X (.Call (.Name x p) [] kws pos) (tCallW sp gV E 0 ks.length tNil tk) := by
  obtain ⟨f, fd, ps, F, hm, hk, hb⟩ := c.ex
  exact pe_callW0 F hG hr hg hm hk hb hx hkw hall hks hdb hpl
/-- what the module's name x holds -/
def Con (mg : Str → Option Value) (x : Str) (v : V) : Prop := ∃ u, mg x = some u ∧ RelV v u
theorem pe_con {v : V} (hg : Gl X x) (h : Con X.mg x v) (hd : (x == ("__debug__" : Str)) = false := by decide) : PE X (.Name x pos) (tC v) := by
  obtain ⟨u, hm, r⟩ := h
  exact pe_glob hg hm r hd
end
/-- no def of the text bears a built-in's name -/
structure Bi (mg : Str → Option Value) : Prop where
  len_ : mg "len" = none
  sum_ : mg "sum" = none
  all_ : mg "all" = none
  any_ : mg "any" = none
  max_ : mg "max" = none
  min_ : mg "min" = none
  abs_ : mg "abs" = none
  divmod_ : mg "divmod" = none
  range_ : mg "range" = none
  isinstance_ : mg "isinstance" = none
  repr_ : mg "repr" = none
  sorted_ : mg "sorted" = none
  list_ : mg "list" = none
  int_ : mg "int" = none
  str_ : mg "str" = none
  bool_ : mg "bool" = none
  tuple_ : mg "tuple" = none
  enumerate_ : mg "enumerate" = none
  zip_ : mg "zip" = none
  set_ : mg "set" = none
  reversed_ : mg "reversed" = none
section
variable {P : Program} {w : World} {K : PySem.W.Frag} {mg : Str → Option Value} {base : Heap}
/-- THE RULE: a def by its body, its promise over what is known -/
theorem okP {x qual : Str} {st : Stmt} {f : Addr} {fd : FuncData} {N ps : List Str} {k : Nat} {α : Type} {pre : α → List V → Hp → Prop} {post : α → Hp → V → Hp → Prop} (F : Fun K x qual st f fd) (Sc : FnScope N ps (defScope st))
    (len : ∀ a vs H, pre a vs H → vs.length = ps.length)
    (hbody : ∀ (cdv : Value) (A : Around) (outer : List Env) (s : Shared) (H : Hp) (E : XK) (a : α) (vs : List V) (H0 : Hp), Room k (A.deeper (envOfC qual (defScope st) s.heap.objs.size f cdv)) → pre a vs H0 →
      ∃ t, PSs (cxOf CX0 P w K mg base N qual (defScope st) f cdv A outer s H E).nox (defBody st) t ∧ S t ⟨fun _ H1 => UpH (post a H0 .non) H1, fun v H1 => UpH (post a H0 v) H1, fun _ _ => False, fun _ _ => False⟩ (start N vs) H0) :
    FnOk P w K mg base CX0 (k + 1) f fd ps (Pr pre post) := by
  refine F.ok Sc (fun vs H Q E h => ?_) (fun cdv A outer s H vs Q E hr h => ?_)
  · obtain ⟨a, H0, e, p, q⟩ := h
    exact len a vs H0 p
  · obtain ⟨a, H0, e, p, q⟩ := h
    obtain ⟨t, ht, hs⟩ := hbody cdv A outer s H E a vs H0 hr p
    refine ⟨t, ht, hs H e _ ⟨fun σ H2 H3 z e3 => ?_, fun v H2 H3 z e3 => ?_, fun _ _ _ z _ => z, fun _ _ _ z _ => z⟩⟩
    · obtain ⟨H4, z, e4⟩ := z
      exact q _ _ _ z (e4.trans e3)
    · obtain ⟨H4, z, e4⟩ := z
      exact q _ _ _ z (e4.trans e3)
/-- the same where no repr may be under way -/
theorem okG {x qual : Str} {st : Stmt} {f : Addr} {fd : FuncData} {N ps : List Str} {k : Nat} {α : Type} {pre : α → List V → Hp → Prop} {post : α → Hp → V → Hp → Prop} (F : Fun K x qual st f fd) (Sc : FnScope N ps (defScope st))
    (len : ∀ a vs H, pre a vs H → vs.length = ps.length)
    (hbody : ∀ (cdv : Value) (A : Around) (outer : List Env) (s : Shared) (H : Hp) (E : XK) (a : α) (vs : List V) (H0 : Hp), A.guards = some [] → Room k (A.deeper (envOfC qual (defScope st) s.heap.objs.size f cdv)) → pre a vs H0 →
      ∃ t, PSs (cxOf CX0 P w K mg base N qual (defScope st) f cdv A outer s H E).nox (defBody st) t ∧ S t ⟨fun _ H1 => UpH (post a H0 .non) H1, fun v H1 => UpH (post a H0 v) H1, fun _ _ => False, fun _ _ => False⟩ (start N vs) H0) :
    FnG P w K mg base CX0 (k + 1) f fd ps (Pr pre post) := by
  refine FnG.okX F Sc (fun vs H Q E h => ?_) (fun cdv A outer s H vs Q E hG hr h => ?_)
  · obtain ⟨a, H0, e, p, q⟩ := h
    exact len a vs H0 p
  · obtain ⟨a, H0, e, p, q⟩ := h
    obtain ⟨t, ht, hs⟩ := hbody cdv A outer s H E a vs H0 hG hr p
    refine ⟨t, ht.nox, hs H e _ ⟨fun σ H2 H3 z e3 => ?_, fun v H2 H3 z e3 => ?_, fun _ _ _ z _ => z, fun _ _ _ z _ => z⟩⟩
    · obtain ⟨H4, z, e4⟩ := z
      exact q _ _ _ z (e4.trans e3)
    · obtain ⟨H4, z, e4⟩ := z
      exact q _ _ _ z (e4.trans e3)
theorem Fun.cal {x : Str} {st : Stmt} {f : Addr} {fd : FuncData} {ps : List Str} {k : Nat} {sp : Sp} {CX : CXT} {q : Str} (F : Fun K x q st f fd) (G : FnOk P w K mg base CX k f fd ps sp) (hm : mg x = some (.ref f))
    (h : ∀ (kV doc pm : Value) (an : Option Addr) (cdv ct : Value) (us : List Value), us.length = ps.length → bindArgs (PySem.W.fnOf x q (defArgs st) (defBody st) (defScope st) .none kV doc pm an cdv ct) ⟨us, []⟩ = pure (ps.zip us)) : Cal P w K mg base CX k x ps sp :=
  ⟨f, fd, G, hm, F.kp, F.binds h⟩
theorem Fun.calG {x : Str} {st : Stmt} {f : Addr} {fd : FuncData} {ps : List Str} {k : Nat} {sp : Sp} {CX : CXT} {q : Str} (F : Fun K x q st f fd) (G : FnG P w K mg base CX k f fd ps sp) (hm : mg x = some (.ref f))
    (h : ∀ (kV doc pm : Value) (an : Option Addr) (cdv ct : Value) (us : List Value), us.length = ps.length → bindArgs (PySem.W.fnOf x q (defArgs st) (defBody st) (defScope st) .none kV doc pm an cdv ct) ⟨us, []⟩ = pure (ps.zip us)) : CalG P w K mg base CX k x ps sp :=
  ⟨f, fd, G, hm, F.kp, F.binds h⟩
end
end Mb

namespace Mb
open PySem PyProof.Rows L2
open Evl (Ex)
theorem r_ip {K : KV} {H : Hp} {f : Int → Int → Int} {i j : Int} (k : K (.int (f i j)) H) : WR (ipI f) (.int i) (.int j) H K := fun H1 e Q q => ⟨i, j, rfl, rfl, q _ _ _ k e⟩
theorem ite_t {b : Bool} {p q : Prop} (h : b = true) (k : p) : if b = true then p else q := by
  rw [if_pos h]
  exact k
theorem ite_f {b : Bool} {p q : Prop} (h : b = false) (k : q) : if b = true then p else q := by
  rw [h, if_neg Bool.false_ne_true]
  exact k
theorem upd_self {H : Hp} {a : Addr} {o : HO} (h : H a = some o) : upd H a o = H := by
  funext b
  unfold upd
  by_cases e : b = a
  · rw [if_pos e, e, h]
  · rw [if_neg e]
theorem upd_comm {H : Hp} {a b : Addr} {o u : HO} (h : a ≠ b) : upd (upd H a o) b u = upd (upd H b u) a o := by
  funext c
  unfold upd
  by_cases e : c = b
  · rw [if_pos e, if_neg (fun z => h (z.symm.trans e)), if_pos e]
  · rw [if_neg e]
    by_cases e2 : c = a
    · rw [if_pos e2, if_pos e2]
    · rw [if_neg e2, if_neg e2, if_neg e]
/-- a heap and what was laid beside it -/
def plus (H N : Hp) : Hp := fun b => match H b with
  | some o => some o
  | none => N b
theorem plus_l {H N : Hp} {b : Addr} {o : HO} (h : H b = some o) : plus H N b = some o := by
  unfold plus
  rw [h]
theorem plus_r {H N : Hp} {b : Addr} (h : H b = none) : plus H N b = N b := by
  unfold plus
  rw [h]
/-- N tells of nothing that H tells of -/
def Apart (H N : Hp) : Prop := ∀ b o, N b = some o → H b = none
theorem ex_plus {H N : Hp} : Ex H (plus H N) := fun _ _ h => plus_l h
theorem ex_plusR {H N : Hp} (a : Apart H N) : Ex N (plus H N) := fun b o h => by rw [plus_r (a b o h)]; exact h
theorem plus_upd {H N : Hp} {a : Addr} {o : HO} : plus (upd H a o) N = upd (plus H N) a o := by
  funext b
  by_cases e : b = a
  · rw [e, upd_same, plus_l upd_same]
  · rw [upd_ne e]
    unfold plus
    rw [upd_ne e]
theorem plus_none {H N : Hp} {b : Addr} (h : H b = none) (h2 : N b = none) : plus H N b = none := by rw [plus_r h, h2]
theorem Apart.clear {H N : Hp} {b : Addr} {o : HO} (a : Apart H N) (h : H b = some o) : N b = none := by
  cases e : N b with
  | none => rfl
  | some u =>
    rw [a b u e] at h
    cases h
theorem Apart.mono {H H' N : Hp} (e : Ex H H') (a : Apart H' N) : Apart H N := fun b o h => ex_free e (a b o h)
def emp : Hp := fun _ => none
theorem emp_none {b : Addr} : emp b = none := rfl
theorem ex_plus_of {H H' N : Hp} (e : Ex H H') (e2 : Ex N H') : Ex (plus H N) H' := fun b o h => by
  unfold plus at h
  cases q : H b with
  | some u =>
    rw [q] at h
    rw [← h]
    exact e b u q
  | none =>
    rw [q] at h
    exact e2 b o h
theorem ip_mul {X : Cx} : PIp X .Mult (rI CMul fun i j => .int (i * j)) := fun pins s σ H x y v u Q I rx ry h => iop_mul pins s σ H x y v u Q I rx ry h
theorem ip_fdiv {X : Cx} : PIp X .FloorDiv (rI CDiv fun i j => .int (i / j)) := fun pins s σ H x y v u Q I rx ry h => iop_fdiv pins s σ H x y v u Q I rx ry h
theorem ip_or {X : Cx} : PIp X .BitOr (rI0 fun i j => .int (Builtin.bitOr i j)) := fun pins s σ H x y v u Q I rx ry h => iop_or pins s σ H x y v u Q I rx ry h
/-- a heap that was grown, then changed at an address that the first one does not know -/
theorem ex_mut {H H' : Hp} {p : Addr} {o : HO} (e : Ex H H') (h : H p = none) : Ex H (upd H' p o) := Evl.Ex.mut e h
section
variable {K : KV} {σ : Sg} {H H' : Hp} {ta tb te tc : TE} {v x y : V} {tt tu : TT} {D : KE} {t u : TS} {g : TG} {Kf : PySem.W.Frag}
theorem w_lcS {vs : List Nat} {tl : TE} (h : W tl σ H fun v H1 => ∃ z : Str, v = .str z ∧ ∀ Dl, H1 Dl = none → ∃ Pv : Nat → Hp → Prop, Pv 0 (upd H1 Dl (.lst [])) ∧
      (∀ i c H', z.cps.toList[i]? = some c → Pv i H' → WG g (.str ⟨#[c]⟩) (wipe σ vs) H' (Trn tt te vs σ Dl (UpH (Pv (i + 1))))) ∧ (∀ H', Pv z.cps.toList.length H' → K (.ref Dl) H')) : W (tLc (iStr tl) g tt te vs) σ H K := fun H1 e Q q =>
  h H1 e _ fun v H2 H3 h2 e2 => by
    obtain ⟨z, rfl, h3⟩ := h2
    refine ⟨z, rfl, fun Dl hD => ?_⟩
    obtain ⟨Pv, p0, ps, pd⟩ := h3 Dl (ex_free e2 hD)
    refine ⟨fun i m H' => m = z.cps.size - i ∧ i ≤ z.cps.size ∧ ∃ H0, Pv i H0 ∧ Ex H0 H', ⟨_, rfl, Nat.zero_le _, _, p0, ex_upd e2⟩, fun i m H' hw => ?_⟩
    obtain ⟨hm, hi, H0, p, e0⟩ := hw
    by_cases hlt : i < z.cps.size
    · refine Or.inr ⟨hlt, fun H' => ∃ H0, Pv (i + 1) H0 ∧ Ex H0 H', fun H4 n => ⟨z.cps.size - (i + 1), by omega, rfl, hlt, n⟩, fun x H4 hy => ?_⟩
      obtain ⟨rfl, c, hc, rfl⟩ := hy
      exact ps i c H0 (by rw [Array.getElem?_toList]; exact hc) p H4 e0 _ fun σ2 H5 H6 z e5 => trn_up z e5 _ fun H7 H8 n e8 => n.ext e8
    · have hz : i = z.cps.toList.length := by rw [Array.length_toList]; omega
      refine Or.inl ⟨by show z.cps.size ≤ i; omega, q _ _ _ (pd H0 (hz ▸ p)) e0⟩
/-- [e for c in text], e a value of the sign alone -/
theorem w_lcS_map {j : Nat} {vs : List Nat} {tl : TE} {z : Str} (f : Nat → V) (hw : ∀ x, wipe ((wipe σ vs).set j (some x)) vs = wipe σ vs)
    (h : W tl σ H fun v H1 => v = .str z ∧ z.length < sizeLine ∧ (∀ c ∈ z.cps.toList, ∀ (H' : Hp) (K' : KV), Ex H1 H' → K' (f c) H' → W te ((wipe σ vs).set j (some (.str ⟨#[c]⟩))) H' K') ∧
      ∀ p, H1 p = none → K (.ref p) (upd H1 p (.lst (z.cps.toList.map f)))) : W (tLc (iStr tl) (gName j) tYes te vs) σ H K :=
  w_lcS (h.mono fun v H1 w => by
    obtain ⟨rfl, hz, he, k⟩ := w
    refine ⟨z, rfl, fun Dl hD => ⟨fun i H' => H' = upd H1 Dl (.lst ((z.cps.toList.take i).map f)), rfl, fun i c H' hi p => ?_, fun H' p => ?_⟩⟩
    · refine g_name ⟨hw _, wt_yes ?_⟩
      rw [if_pos rfl]
      refine he c (List.mem_of_getElem? hi) H' _ (by rw [p]; exact ex_new hD) ⟨(z.cps.toList.take i).map f, by rw [p]; exact upd_same, ?_, ?_⟩
      · rw [List.length_map, List.length_take]
        exact Nat.lt_of_le_of_lt (Nat.min_le_right _ _) (by rw [Array.length_toList]; exact hz)
      · refine ⟨_, ?_, Ex.rf⟩
        show upd H' Dl (.lst ((z.cps.toList.take i).map f ++ [f c])) = upd H1 Dl (.lst ((z.cps.toList.take (i + 1)).map f))
        rw [p, upd_upd, take_map_some hi]
    · have p' : H' = upd H1 Dl (.lst ((z.cps.toList.take z.cps.toList.length).map f)) := p
      rw [List.take_length] at p'
      rw [p']
      exact k Dl hD)
/-- [e for i in range(n)], e a value of i alone -/
theorem w_lcR_map {j : Nat} {vs : List Nat} {tn : TA} {n : Int} (f : Nat → V) (hw : ∀ x, wipe ((wipe σ vs).set j (some x)) vs = wipe σ vs)
    (h : WA tn σ H fun ws H1 => ws = [.int n] ∧ -(2 ^ 62) ≤ n ∧ n < 16777216 ∧ (∀ i : Nat, i < n.toNat → ∀ (H' : Hp) (K' : KV), Ex H1 H' → K' (f i) H' → W te ((wipe σ vs).set j (some (.int (i : Int)))) H' K') ∧
      ∀ p, H1 p = none → K (.ref p) (upd H1 p (.lst ((List.range n.toNat).map f)))) : W (tLc (iRng1 tn) (gName j) tYes te vs) σ H K :=
  w_lcR1 (fun H1 e Q q => h H1 e Q fun ws H2 H3 w e2 => q ws H2 H3 (by
    obtain ⟨rfl, b1, b2, he, k⟩ := w
    refine ⟨n, rfl, b1, by omega, fun Dl hD => ⟨fun i H' => H' = upd H2 Dl (.lst ((List.range i).map f)), rfl, fun i H' hi p => ?_, fun H' p => ?_⟩⟩
    · refine g_name ⟨hw _, wt_yes ?_⟩
      rw [if_pos rfl]
      refine he i hi H' _ (by rw [p]; exact ex_new hD) ⟨(List.range i).map f, by rw [p]; exact upd_same, ?_, ?_⟩
      · rw [List.length_map, List.length_range, sizeLine_eq]
        omega
      · refine ⟨_, ?_, Ex.rf⟩
        show upd H' Dl (.lst ((List.range i).map f ++ [f i])) = upd H2 Dl (.lst ((List.range (i + 1)).map f))
        rw [p, upd_upd, List.range_succ, List.map_append]
        rfl
    · have p' : H' = upd H2 Dl (.lst ((List.range n.toNat).map f)) := p
      rw [p']
      exact k Dl hD) e2)
/-- for over a text -/
theorem s_forS {tl : TE} (h : W tl σ H fun v H1 => ∃ (z : Str) (Pv : Nat → Sg → Hp → Prop), v = .str z ∧ Pv 0 σ H1 ∧
      (∀ i c σ' H', z.cps.toList[i]? = some c → Pv i σ' H' → WG g (.str ⟨#[c]⟩) σ' H' fun σ2 H2 => S t { D with nx := Up (Pv (i + 1)), ct := Up (Pv (i + 1)), bk := D.nx } σ2 H2) ∧ (∀ σ' H', Pv z.cps.toList.length σ' H' → D.nx σ' H')) : S (tFor (iStr tl) g t) D σ H := fun H1 e D1 l =>
  h H1 e _ fun v H2 H3 h2 e2 => by
    obtain ⟨z, Pv, rfl, p0, ps, pd⟩ := h2
    refine ⟨z, rfl, fun i m σ' H' => m = z.cps.size - i ∧ i ≤ z.cps.size ∧ Up (Pv i) σ' H', ⟨_, rfl, Nat.zero_le _, _, p0, e2⟩, fun i m σ' H' hw => ?_⟩
    obtain ⟨hm, hi, H0, p, e0⟩ := hw
    by_cases hlt : i < z.cps.size
    · refine Or.inr ⟨hlt, Up (Pv (i + 1)), fun σ2 H4 n => ⟨z.cps.size - (i + 1), by omega, rfl, hlt, n⟩, fun x H4 hy => ?_⟩
      obtain ⟨rfl, c, hc, rfl⟩ := hy
      exact ps i c σ' H0 (by rw [Array.getElem?_toList]; exact hc) p H4 e0 _ fun σ2 H5 H6 z e5 => z H6 e5 _ (le_loop l _)
    · have hz : i = z.cps.toList.length := by rw [Array.length_toList]; omega
      refine Or.inl ⟨by show z.cps.size ≤ i; omega, l.nx _ _ _ (pd σ' H0 (hz ▸ p)) e0⟩
end
end Mb

namespace Mb
open PySem PyProof.Rows L2
open Evl (Ex)
/-! ### data -/
theorem dpInts {K : PySem.W.Frag} {H : Hp} : ∀ xs : List Int, DpAll K H (xs.map V.int) (xs.map PyData.int)
  | [] => .nil
  | x :: r => .cons (.int x) (dpInts r)
theorem dpStrs {K : PySem.W.Frag} {H : Hp} : ∀ xs : List Str, DpAll K H (xs.map V.str) (xs.map PyData.str)
  | [] => .nil
  | x :: r => .cons (.str x) (dpStrs r)
theorem lay_ints : ∀ xs : List Int, PyData.canLayAll0 (xs.map PyData.int) = true
  | [] => rfl
  | x :: r => by
    rw [List.map_cons, PyData.canLayAll0, lay_ints r]
    rfl
theorem depth_ints : ∀ xs : List Int, PyData.depthAll (xs.map PyData.int) = 0
  | [] => rfl
  | x :: r => by
    rw [List.map_cons, PyData.depthAll, depth_ints r]
    rfl
theorem depth_strs : ∀ xs : List Str, PyData.depthAll (xs.map PyData.str) = 0
  | [] => rfl
  | x :: r => by
    rw [List.map_cons, PyData.depthAll, depth_strs r]
    rfl
theorem shaped_ints (xs : List Int) : SeqAt.shaped (.list (xs.map PyData.int)) = true := by
  unfold SeqAt.shaped
  rw [PyData.canLay0, lay_ints, PyData.depth, depth_ints]
  rfl
theorem eqv_nil (xs : List Int) : PyData.eqv (.list (xs.map PyData.int)) (.list []) = xs.isEmpty := by
  cases xs <;> rfl
theorem eqvAll_ints : ∀ xs ys : List Int, PyData.eqvAll (xs.map PyData.int) (ys.map PyData.int) = decide (xs = ys)
  | [], [] => rfl
  | [], y :: r => rfl
  | x :: r, [] => rfl
  | x :: r, y :: s => by
    rw [List.map_cons, List.map_cons, PyData.eqvAll, eqvAll_ints r s]
    show (x == y && decide (r = s)) = decide (x :: r = y :: s)
    by_cases h : x = y
    · rw [h, beq_self_eq_true, Bool.true_and]
      by_cases h2 : r = s
      · rw [h2, decide_eq_true rfl, decide_eq_true rfl]
      · rw [decide_eq_false h2, decide_eq_false (fun z => h2 (List.cons.inj z).2)]
    · rw [beq_false_of_ne h, Bool.false_and, decide_eq_false (fun z => h (List.cons.inj z).1)]
theorem eqv_ints (xs ys : List Int) : PyData.eqv (.list (xs.map PyData.int)) (.list (ys.map PyData.int)) = decide (xs = ys) := eqvAll_ints xs ys
theorem sshow_strs : ∀ xs : List Str, PyData.showableAll (xs.map PyData.str) = true
  | [] => rfl
  | x :: r => by
    rw [List.map_cons, PyData.showableAll, sshow_strs r]
    rfl
theorem hasD_strs : ∀ xs : List Str, PyData.hasDictAll (xs.map PyData.str) = false
  | [] => rfl
  | x :: r => by
    rw [List.map_cons, PyData.hasDictAll, hasD_strs r]
    rfl
theorem shownAll_map : ∀ xs : List PyData, PyData.shownAll xs = xs.map PyData.shown
  | [] => rfl
  | x :: r => by rw [List.map_cons, PyData.shownAll, shownAll_map r]
theorem textFrom_le (B : Nat) : ∀ (ts : List Str) (k : Nat) (acc : Str), (∀ t ∈ ts, t.length ≤ B) → (textFrom k acc ts).length ≤ acc.length + ts.length * (B + 2)
  | [], k, acc, _ => by show acc.length ≤ _; omega
  | t :: r, k, acc, h => by
    have ih := textFrom_le B r (k + 1) (acc ++ (if k > 0 then ", " else "" : String) ++ t) (fun t ht => h t (List.mem_cons_of_mem _ ht))
    have h1 := h t List.mem_cons_self
    have h2 : (Str.ofString (if k > 0 then ", " else "" : String)).length ≤ 2 := by
      by_cases hk : k > 0
      · rw [if_pos hk]; decide
      · rw [if_neg hk]; decide
    rw [Str.length_append, Str.length_append] at ih
    show (textFrom (k + 1) (acc ++ (if k > 0 then ", " else "" : String) ++ t) r).length ≤ _
    rw [List.length_cons, Nat.add_mul]
    omega
theorem listText_le {B : Nat} {ts : List Str} (h : ∀ t ∈ ts, t.length ≤ B) : (listText ts).length ≤ ts.length * (B + 2) + 2 := by
  have h1 := textFrom_le B ts 0 "[" h
  unfold listText
  rw [Str.length_append]
  have e1 : (Str.ofString "[").length = 1 := by decide
  have e2 : (Str.ofString "]").length = 1 := by decide
  omega
theorem piled_le {B : Nat} : ∀ {ts : List Str}, (∀ t ∈ ts, t.length ≤ B) → piled ts ≤ ts.length * (B + 2)
  | [], _ => by simp [piled]
  | t :: r, h => by
    have ih := piled_le (ts := r) (fun t ht => h t (List.mem_cons_of_mem _ ht))
    have h1 := h t List.mem_cons_self
    rw [List.length_cons, Nat.add_mul]
    rw [piled_cons]
    omega
theorem tupleText_le {B : Nat} {ts : List Str} (hn : ts ≠ []) (h : ∀ t ∈ ts, t.length ≤ B) : (tupleText ts).length ≤ ts.length * (B + 2) + 3 := by
  have h1 := join_length_add ts hn
  have h2 := piled_le h
  unfold tupleText
  rw [Str.length_append, Str.length_append]
  have e1 : (Str.ofString "(").length = 1 := by decide
  have e2 : (Str.ofString (if ts.length == 1 then ",)" else ")" : String)).length ≤ 2 := by
    by_cases hk : (ts.length == 1) = true
    · rw [if_pos hk]; decide
    · rw [if_neg hk]; decide
  omega
end Mb

namespace Mb
open PySem PyProof.Rows L2
open Evl (Ex)
section
variable {Kf : PySem.W.Frag} {K : KV} {σ : Sg} {H H' : Hp} {te : TE}
/-- [e for x in t], e a value of x alone, the list found by t -/
theorem w_lcL_mapE {j : Nat} {vs : List Nat} {tl : TE} (f : V → V) (hw : ∀ x, wipe ((wipe σ vs).set j (some x)) vs = wipe σ vs)
    (h : W tl σ H fun v H1 => ∃ (a : Addr) (xs : List V), v = .ref a ∧ SqL Kf H1 a xs ∧ xs.length < sizeLine ∧ (∀ x ∈ xs, ∀ (H' : Hp) (K' : KV), Ex H1 H' → K' (f x) H' → W te ((wipe σ vs).set j (some x)) H' K') ∧
      ∀ p, H1 p = none → K (.ref p) (upd H1 p (.lst (xs.map f)))) : W (tLc (iList Kf tl) (gName j) tYes te vs) σ H K :=
  w_lcL (h.mono fun v H1 z => by
    obtain ⟨a, xs, rfl, hs, hz, he, k⟩ := z
    refine ⟨a, xs, rfl, hs, fun Dl hD => ⟨fun i H' => H' = upd H1 Dl (.lst ((xs.take i).map f)), rfl, fun i H' _ p => ?_, fun i x H' hi p => ?_, fun H' p => ?_⟩⟩
    · rw [p]
      exact sl_new hD hs
    · have hx : x ∈ xs := List.mem_of_getElem? hi
      refine g_name ⟨hw x, wt_yes ?_⟩
      rw [if_pos rfl]
      refine he x hx H' _ (by rw [p]; exact ex_new hD) ⟨(xs.take i).map f, by rw [p]; exact upd_same, ?_, ?_⟩
      · rw [List.length_map, List.length_take]
        exact Nat.lt_of_le_of_lt (Nat.min_le_right _ _) hz
      · refine ⟨_, ?_, Ex.rf⟩
        show upd H' Dl (.lst ((xs.take i).map f ++ [f x])) = upd H1 Dl (.lst ((xs.take (i + 1)).map f))
        rw [p, upd_upd, take_map_some hi]
    · have p' : H' = upd H1 Dl (.lst ((xs.take xs.length).map f)) := p
      rw [List.take_length] at p'
      rw [p']
      exact k Dl hD)
end
end Mb

namespace Mb
open PySem PyProof.Rows L2
def topS (i : Nat) : Stmt := PySem.Challenge.pw_wordorder_k23_letters_of_names.main.body.getD i (.Pass ⟨0, 0, 0, 0⟩)
abbrev s_InvalidTable___init__ : Stmt := inClass (topS 2) 0
abbrev N_InvalidTable___init__ : List Str := ["self", "value"]

abbrev s_InvalidNumber___init__ : Stmt := inClass (topS 3) 0
abbrev N_InvalidNumber___init__ : List Str := ["self", "value"]

abbrev s_is_word : Stmt := topS 12
abbrev N_is_word : List Str := ["text", "sign"]
theorem sc_is_word : FnScope N_is_word ["text"] (defScope s_is_word) := ⟨rfl, rfl, rfl, by decide +kernel, rfl, by decide +kernel, by decide +kernel⟩

abbrev s_all_words : Stmt := topS 13
abbrev N_all_words : List Str := ["table", "ones", "tens", "hundred", "scales"]
theorem sc_all_words : FnScope N_all_words ["table"] (defScope s_all_words) := ⟨rfl, rfl, rfl, by decide +kernel, rfl, by decide +kernel, by decide +kernel⟩

abbrev s_check_table : Stmt := topS 14
abbrev N_check_table : List Str := ["table", "seen", "word"]
theorem sc_check_table : FnScope N_check_table ["table"] (defScope s_check_table) := ⟨rfl, rfl, rfl, by decide +kernel, rfl, by decide +kernel, by decide +kernel⟩

abbrev s_power_of_thousand : Stmt := topS 15
abbrev N_power_of_thousand : List Str := ["exponent", "found", "step"]
theorem sc_power_of_thousand : FnScope N_power_of_thousand ["exponent"] (defScope s_power_of_thousand) := ⟨rfl, rfl, rfl, by decide +kernel, rfl, by decide +kernel, by decide +kernel⟩

abbrev s_limit_in : Stmt := topS 16
abbrev N_limit_in : List Str := ["table"]
theorem sc_limit_in : FnScope N_limit_in ["table"] (defScope s_limit_in) := ⟨rfl, rfl, rfl, by decide +kernel, rfl, by decide +kernel, by decide +kernel⟩

abbrev s_check_number : Stmt := topS 17
abbrev N_check_number : List Str := ["table", "number"]
theorem sc_check_number : FnScope N_check_number ["table", "number"] (defScope s_check_number) := ⟨rfl, rfl, rfl, by decide +kernel, rfl, by decide +kernel, by decide +kernel⟩

abbrev s_english : Stmt := topS 18
abbrev N_english : List Str := ["scales", "names"]
theorem sc_english : FnScope N_english ["scales"] (defScope s_english) := ⟨rfl, rfl, rfl, by decide +kernel, rfl, by decide +kernel, by decide +kernel⟩

abbrev s_groups_of : Stmt := topS 23
abbrev N_groups_of : List Str := ["number", "found", "index", "group"]
theorem sc_groups_of : FnScope N_groups_of ["number"] (defScope s_groups_of) := ⟨rfl, rfl, rfl, by decide +kernel, rfl, by decide +kernel, by decide +kernel⟩

abbrev s_words_below_hundred : Stmt := topS 24
abbrev N_words_below_hundred : List Str := ["table", "number", "ones", "tens", "high", "low"]
theorem sc_words_below_hundred : FnScope N_words_below_hundred ["table", "number"] (defScope s_words_below_hundred) := ⟨rfl, rfl, rfl, by decide +kernel, rfl, by decide +kernel, by decide +kernel⟩

abbrev s_words_of_group : Stmt := topS 25
abbrev N_words_of_group : List Str := ["table", "group", "hundreds", "rest", "start"]
theorem sc_words_of_group : FnScope N_words_of_group ["table", "group"] (defScope s_words_of_group) := ⟨rfl, rfl, rfl, by decide +kernel, rfl, by decide +kernel, by decide +kernel⟩

abbrev s_words_in : Stmt := topS 26
abbrev N_words_in : List Str := ["table", "number", "found", "group", "index"]
theorem sc_words_in : FnScope N_words_in ["table", "number"] (defScope s_words_in) := ⟨rfl, rfl, rfl, by decide +kernel, rfl, by decide +kernel, by decide +kernel⟩

abbrev s_letters_of : Stmt := topS 28
abbrev N_letters_of : List Str := ["words", "word"]
theorem sc_letters_of : FnScope N_letters_of ["words"] (defScope s_letters_of) := ⟨rfl, rfl, rfl, by decide +kernel, rfl, by decide +kernel, by decide +kernel⟩

abbrev s_letters_in : Stmt := topS 29
abbrev N_letters_in : List Str := ["table", "number"]
theorem sc_letters_in : FnScope N_letters_in ["table", "number"] (defScope s_letters_in) := ⟨rfl, rfl, rfl, by decide +kernel, rfl, by decide +kernel, by decide +kernel⟩

abbrev s_letters : Stmt := topS 30
abbrev N_letters : List Str := ["table", "number"]
theorem sc_letters : FnScope N_letters ["table", "number"] (defScope s_letters) := ⟨rfl, rfl, rfl, by decide +kernel, rfl, by decide +kernel, by decide +kernel⟩

abbrev s_law_source : Stmt := topS 32
abbrev N_law_source : List Str := ["script", "mix", "digits", "cell", "span"]
theorem sc_law_source : FnScope N_law_source ["script"] (defScope s_law_source) := ⟨rfl, rfl, rfl, by decide +kernel, rfl, by decide +kernel, by decide +kernel⟩

abbrev s_law_draw : Stmt := topS 33
abbrev N_law_draw : List Str := ["source", "wide", "drawn", "mixed"]
theorem sc_law_draw : FnScope N_law_draw ["source", "wide"] (defScope s_law_draw) := ⟨rfl, rfl, rfl, by decide +kernel, rfl, by decide +kernel, by decide +kernel⟩

abbrev s_law_same : Stmt := topS 34
abbrev N_law_same : List Str := ["found", "due", "k"]
theorem sc_law_same : FnScope N_law_same ["found", "due"] (defScope s_law_same) := ⟨rfl, rfl, rfl, by decide +kernel, rfl, by decide +kernel, by decide +kernel⟩

abbrev s_law_table : Stmt := topS 35
abbrev N_law_table : List Str := ["source", "most", "way", "lots", "signs", "found", "time", "far", "head", "letter"]
theorem sc_law_table : FnScope N_law_table ["source", "most"] (defScope s_law_table) := ⟨rfl, rfl, rfl, by decide +kernel, rfl, by decide +kernel, by decide +kernel⟩

abbrev s_law_whole : Stmt := topS 36
abbrev N_law_whole : List Str := ["chart", "found", "word"]
theorem sc_law_whole : FnScope N_law_whole ["chart"] (defScope s_law_whole) := ⟨rfl, rfl, rfl, by decide +kernel, rfl, by decide +kernel, by decide +kernel⟩

abbrev s_law_value : Stmt := topS 37
abbrev N_law_value : List Str := ["source", "chart", "way", "found", "time", "group"]
theorem sc_law_value : FnScope N_law_value ["source", "chart"] (defScope s_law_value) := ⟨rfl, rfl, rfl, by decide +kernel, rfl, by decide +kernel, by decide +kernel⟩

abbrev s_law_words : Stmt := topS 38
abbrev N_law_words : List Str := ["chart", "value", "found", "groups", "spot", "group", "last"]
theorem sc_law_words : FnScope N_law_words ["chart", "value"] (defScope s_law_words) := ⟨rfl, rfl, rfl, by decide +kernel, rfl, by decide +kernel, by decide +kernel⟩

abbrev s_law_letters : Stmt := topS 39
abbrev N_law_letters : List Str := ["chart", "value", "word"]
theorem sc_law_letters : FnScope N_law_letters ["chart", "value"] (defScope s_law_letters) := ⟨rfl, rfl, rfl, by decide +kernel, rfl, by decide +kernel, by decide +kernel⟩

abbrev s_law : Stmt := topS 40
abbrev N_law : List Str := ["script", "source", "k", "chart", "saved", "top", "value", "due", "time"]
theorem sc_law : FnScope N_law ["script"] (defScope s_law) := ⟨rfl, rfl, rfl, by decide +kernel, rfl, by decide +kernel, by decide +kernel⟩

end Mb

section
open PySem PyProof.Rows L2 Mb
local macro_rules | `(tactic| walk_at "sz") => `(tactic| first | decide | (simp only [List.length_cons, List.length_nil, List.length_map]; decide) | exact (by decide : (4:Nat) ≤ sizeLine) | exact (by decide : (3:Nat) ≤ sizeLine) | exact (by decide : (2:Nat) ≤ sizeLine) | exact (by decide : (1:Nat) ≤ sizeLine) | exact (by decide : (9:Nat) ≤ sizeLine) | exact (by decide : (8:Nat) ≤ sizeLine) | (show _ ≤ sizeLine; rw [sizeLine_eq]; omega) | (rw [sizeLine_eq]; simp; omega))
local macro_rules | `(tactic| walk_at "sq") => `(tactic| first | assumption | exact sl_same | exact st_same | (refine sl_new (by assumption) ?_; walk_at "sq") | (refine st_new (by assumption) ?_; walk_at "sq") | exact Or.inl (Or.inl (by walk_at "hp")))
local macro_rules | `(tactic| walk_at "hp") => `(tactic| first | assumption | exact upd_same | (refine up_new (by assumption) ?_; walk_at "hp") | (refine up_ne (by assumption) ?_; walk_at "hp") | (refine up_ne (Ne.symm (by assumption)) ?_; walk_at "hp"))
local macro_rules | `(tactic| walk_at "sd") => `(tactic| first | assumption | decide | omega | (rw [sizeLine_eq]; omega) | (refine Or.inl ⟨?_, ?_⟩ <;> omega) | (refine Or.inr ⟨?_, ?_⟩ <;> omega) | (refine ⟨?_, ?_⟩ <;> omega))
local macro_rules | `(tactic| walk_at "g1") => `(tactic| first
  | ((with_reducible apply w_var); exact rfl)
  | with_reducible apply w_c
  | with_reducible apply w_op
  | with_reducible apply w_un
  | with_reducible apply w_cb
  | with_reducible apply w_call
  | with_reducible apply w_callW
  | with_reducible apply wa_nil
  | with_reducible apply wa_cons
  | with_reducible apply wa_star
  | with_reducible apply wt_test
  | with_reducible apply wt_b
  | with_reducible apply wt_yes
  | with_reducible apply wt_not
  | with_reducible apply wt_and
  | with_reducible apply wt_or
  | with_reducible apply w_if
  | with_reducible apply w_andV
  | with_reducible apply w_orV
  | with_reducible apply w_notV
  | with_reducible apply w_isN
  | with_reducible apply w_chain
  | with_reducible apply w_sl
  | with_reducible apply wo_none
  | with_reducible apply wo_some
  | with_reducible apply w_tup
  | with_reducible apply w_lst
  | with_reducible apply w_dnew
  | with_reducible apply s_seq
  | with_reducible apply s_next
  | with_reducible apply s_brk
  | with_reducible apply s_cont
  | with_reducible apply s_drop
  | with_reducible apply s_ret
  | with_reducible apply s_retN
  | with_reducible apply s_if
  | with_reducible apply s_asg
  | with_reducible apply s_par
  | ((with_reducible apply s_aug); exact rfl)
  | with_reducible apply g_name
  | with_reducible apply gs_nil
  | with_reducible apply gs_cons
  | with_reducible apply r_I0
  | ((with_reducible apply r_I); (show _; walk_at "sd"))
  | with_reducible apply r_ip
  | with_reducible apply r_U
  | ((with_reducible apply r_eq); exact rfl)
  | ((with_reducible apply r_ne); exact rfl)
  | with_reducible apply r_isN2
  | with_reducible apply r_notN2
  | with_reducible apply r_inZ
  | with_reducible apply r_notInZ
  | ((with_reducible apply r_ixT); (walk_at "sq"); (exact rfl))
  | ((with_reducible apply r_ixL); (walk_at "sq"); (exact rfl))
  | ((with_reducible apply c_lenL); (walk_at "sq"))
  | ((with_reducible apply c_lenT); (walk_at "sq"))
  | ((with_reducible apply c_lenZ); (walk_at "sd"))
  | ((with_reducible apply c_divm); (walk_at "sd"); (walk_at "sd"))
  | with_reducible apply c_max2
  | with_reducible apply c_min2
  | with_reducible apply c_abs
  | with_reducible apply c_intI
  | with_reducible apply c_intB
  | with_reducible apply w_din
  | with_reducible apply w_dnin
  | with_reducible apply w_dget
  | with_reducible apply s_dput
  | (with_reducible apply w_bm (tyE := tyV_ext))
  | (with_reducible apply w_bm0 (tyE := tyV_ext))
  | with_reducible apply w_m1
  | with_reducible apply w_m0
  | (with_reducible refine (⟨_, rfl, ?_⟩ : ∃ k, V.bl _ = V.bl k ∧ _))
  | (with_reducible refine (⟨_, rfl, ?_⟩ : ∃ k, V.int _ = V.int k ∧ _))
  | (with_reducible refine (⟨⟨_, rfl⟩, ?_⟩ : (∃ a, V.str _ = V.str a) ∧ _))
  | ((with_reducible apply ite_t); exact rfl)
  | ((with_reducible apply ite_f); exact rfl))
local macro_rules | `(tactic| walk_at "go") => `(tactic| repeat walk_at "g1")

namespace Mb
open PySem PyProof.Rows L2
open Evl (Ex)
/-! ### tables -/
structure Tab where
  ones : List Str
  tens : List Str
  hundred : Str
  scales : List Str
def Tab.words (T : Tab) : List Str := T.ones ++ T.tens ++ [T.hundred] ++ T.scales
def TabAt (K : PySem.W.Frag) (H : Hp) (t : Addr) (T : Tab) : Prop := ∃ o te s, SqT K H t [.ref o, .ref te, .str T.hundred, .ref s] ∧ SqL K H o (T.ones.map V.str) ∧ SqL K H te (T.tens.map V.str) ∧ SqL K H s (T.scales.map V.str)
theorem TabAt.up {K : PySem.W.Frag} {H H' : Hp} {t : Addr} {T : Tab} (e : Ex H H') (h : TabAt K H t T) : TabAt K H' t T := by
  obtain ⟨o, te, s, a, b, c, d⟩ := h
  exact ⟨o, te, s, Evl.ex_t e a, Evl.ex_l e b, Evl.ex_l e c, Evl.ex_l e d⟩
def abc : Str := "abcdefghijklmnopqrstuvwxyz"
def isWord (x : Str) : Bool := decide (1 ≤ x.length) && decide (x.length ≤ 20) && x.cps.toList.all fun c => decide (c ∈ abc.cps.toList)
structure Tab.Ok (T : Tab) : Prop where
  o : T.ones.length = 20
  t : T.tens.length = 8
  s : T.scales.length ≤ 20
  w : ∀ x ∈ T.words, isWord x = true
  nd : T.words.Nodup
def ONESs : Str := "zero one two three four five six seven eight nine ten eleven twelve thirteen fourteen fifteen sixteen seventeen"
def TEENSs : Str := "eighteen nineteen"
def TENSs : Str := "twenty thirty forty fifty sixty seventy eighty ninety"
def SCALESs : Str := "thousand million billion trillion quadrillion quintillion sextillion septillion octillion nonillion"
/-- constants of the text -/
structure Cons (K : PySem.W.Frag) (mg : Str → Option Value) (cc : Addr) : Prop where
  LETTERS : Con mg "LETTERS" (.str abc)
  MOST_LETTERS : Con mg "MOST_LETTERS" (.int 20)
  ONES : Con mg "ONES" (.str ONESs)
  TEENS : Con mg "TEENS" (.str TEENSs)
  TENS : Con mg "TENS" (.str TENSs)
  SCALES : Con mg "SCALES" (.str SCALESs)
  COUNTS : Con mg "COUNTS" (.ref cc)
  counts : ∀ H, SqT K H cc [.int 20, .int 8]
  THOUSAND : Con mg "THOUSAND" (.int 1000)
  HUNDRED : Con mg "HUNDRED" (.int 100)
  TWENTY : Con mg "TWENTY" (.int 20)
section
variable {P : Program} {w : World} {K : PySem.W.Frag} {mg : Str → Option Value} {base : Heap} {cc : Addr}
abbrev CalF (P : Program) (w : World) (K : PySem.W.Frag) (mg : Str → Option Value) (base : Heap) := Cal P w K mg base CX0
theorem at_mapD {α : Type} {f : α → V} {xs : List α} {i : Int} {d : α} (h0 : 0 ≤ i) (h1 : i.toNat < xs.length) : atI (xs.map f) i = some (f (xs.getD i.toNat d)) := by
  have e : i = ((i.toNat : Nat) : Int) := by omega
  rw [e]
  refine (atI_nat ?_)
  rw [Int.toNat_natCast, List.getElem?_map, List.getElem?_eq_getElem h1, List.getD_eq_getElem?_getD, List.getElem?_eq_getElem h1]
  rfl
theorem at_str {xs : List Str} {i : Int} (h0 : 0 ≤ i) (h1 : i.toNat < xs.length) : atI (xs.map V.str) i = some (.str (xs.getD i.toNat "")) := at_mapD h0 h1
theorem at_int {xs : List Int} {i : Int} (h0 : 0 ≤ i) (h1 : i.toNat < xs.length) : atI (xs.map V.int) i = some (.int (xs.getD i.toNat 0)) := at_mapD h0 h1
theorem ok_is_word {f : Addr} {fd : FuncData} (F : Fun K "is_word" "is_word" s_is_word f fd) (T : Bi mg) (C : Cons K mg cc) :
    FnOk P w K mg base CX0 1 f fd ["text"] (Pr (fun (x : Str) vs H => vs = [.str x] ∧ x.length ≤ 1000) (fun x H v H' => v = .bl (isWord x) ∧ H' = H)) := by
  refine okP F sc_is_word (fun x vs H h => ?_) (fun cdv A outer s H E x vs H0 hr h => ?_)
  · rw [h.1]
    rfl
  · obtain ⟨rfl, hz⟩ := h
    refine ⟨_, (pss_one (ps_ret (pe_and (pe_chain op_le op_le pe_int (pe_callB cr_lenZ (by rfl) T.len_ boot_len (pa_cons (pv 0) pa_nil)) (pe_con (by rfl) C.MOST_LETTERS)) (pe_one (pe_callB (cr_all rfl) (by rfl) T.all_ boot_all (pa_cons (pe_lc (own := [("sign", 1)]) (g := gName 1) (tt := tYes) rfl sc_is_word.nd (pi_str (pv 0)) (blkOk_by (N := N_is_word) (sc := defScope s_is_word) (own := [("sign", 1)]) (by decide +kernel)) (fun _ _ _ _ _ => (pg_name (i := 1) sc_is_word.nd rfl (Or.inl rfl))) (fun _ _ _ _ _ => pts_nil) (fun _ _ _ _ _ => (pe_cmpR op_in_sign (pv 1) (pe_con (by rfl) C.LETTERS) (by with_unfolding_all rfl)))) pa_nil)))))), ?_⟩
    try dsimp only [cxOf]
    walk_at "go"
    refine ite2 (fun h1 => ?_) (fun h1 => ?_)
    · walk_at "go"
      refine ite2 (fun h2 => ?_) (fun h2 => ?_)
      · walk_at "go"
        refine w_lcS_map (z := x) (fun c => .bl (decide (c ∈ abc.cps.toList))) (fun _ => rfl) ?_
        walk_at "go"
        refine ⟨rfl, by walk_at "sd", fun c hc H' K' e k => ?_, fun p np => ?_⟩
        · walk_at "go"
          exact k
        · walk_at "go"
          refine c_all (bs := x.cps.toList.map fun c => decide (c ∈ abc.cps.toList)) (by rw [List.map_map]; exact sl_same) ?_
          refine ⟨H0, ⟨?_, rfl⟩, ex_new np⟩
          have e1 : decide (1 ≤ x.length) = true := decide_eq_true (by have := of_decide_eq_true h1; omega)
          have e2 : decide (x.length ≤ 20) = true := decide_eq_true (by have := of_decide_eq_true h2; omega)
          unfold isWord
          rw [e1, e2, List.all_map]
          rfl
      · refine ⟨H0, ⟨?_, rfl⟩, Ex.rf⟩
        have e2 : decide (x.length ≤ 20) = false := decide_eq_false (fun z => h2 (decide_eq_true (by omega)))
        unfold isWord
        rw [e2, Bool.and_false, Bool.false_and]
    · refine ⟨_, rfl, iteF ?_⟩
      refine ⟨H0, ⟨?_, rfl⟩, Ex.rf⟩
      have e2 : decide (1 ≤ x.length) = false := decide_eq_false (fun z => h1 (decide_eq_true (by omega)))
      unfold isWord
      rw [e2, Bool.false_and, Bool.false_and]
/-- what a call needs of a table: its lists are there -/
theorem ok_all_words {f : Addr} {fd : FuncData} (F : Fun K "all_words" "all_words" s_all_words f fd) (T : Bi mg) (C : Cons K mg cc) :
    FnOk P w K mg base CX0 1 f fd ["table"] (Pr (fun (x : Addr × Tab) vs H => vs = [.ref x.1] ∧ TabAt K H x.1 x.2 ∧ x.2.words.length ≤ 1000) (fun x H v H' => ∃ p, v = .ref p ∧ H p = none ∧ H' = upd H p (.lst (x.2.words.map V.str)))) := by
  refine okP F sc_all_words (fun x vs H h => ?_) (fun cdv A outer s H E x vs H0 hr h => ?_)
  · rw [h.1]
    rfl
  · obtain ⟨t, T⟩ := x
    obtain ⟨rfl, ⟨o, te, sc, a, b, c, d⟩, hz⟩ := h
    refine ⟨_, (pss_cons (ps_asg (pv 0) (pg_tup rfl (pgs_cons (pg_name (i := 1) sc_all_words.nd rfl (Or.inl rfl)) (pgs_cons (pg_name (i := 2) sc_all_words.nd rfl (Or.inl rfl)) (pgs_cons (pg_name (i := 3) sc_all_words.nd rfl (Or.inl rfl)) (pgs_cons (pg_name (i := 4) sc_all_words.nd rfl (Or.inl rfl)) pgs_nil))))))
      (pss_one (ps_ret (pe_lst (StX.pa_star (pv 1) (StX.pa_star (pv 2) (pa_cons (pv 3) (StX.pa_star (pv 4) pa_nil)))))))), ?_⟩
    try dsimp only [cxOf]
    walk_at "go"
    refine g_tup a rfl ?_
    walk_at "go"
    refine ⟨o, _, rfl, Or.inr b, ?_⟩
    walk_at "go"
    refine ⟨te, _, rfl, Or.inr c, ?_⟩
    walk_at "go"
    refine ⟨sc, _, rfl, Or.inr d, ?_⟩
    walk_at "go"
    dsimp only at *
    refine ⟨?_, fun p np => ⟨_, ⟨p, rfl, np, ?_⟩, Ex.rf⟩⟩
    · unfold Tab.words at hz
      simp only [List.length_append, List.length_cons, List.length_nil, List.length_map] at hz ⊢
      rw [sizeLine_eq]
      omega
    · unfold Tab.words
      simp only [List.map_append, List.map_cons, List.map_nil, List.append_assoc, List.cons_append, List.nil_append, List.append_nil]
/-- a dict of words -/
def wordsD (l : List Str) : List (Key × V) := l.map fun x => (Sum.inr x, V.bl true)
theorem wordsD_val {x : Str} : ∀ {l : List Str}, x ∉ l → valV (wordsD l) (Sum.inr x) = none
  | [], _ => rfl
  | y :: r, h => by
    have h1 : ¬ ((Sum.inr y : Key) = Sum.inr x) := fun z => h (by rw [Sum.inr.inj z]; exact List.mem_cons_self)
    have ih := wordsD_val (l := r) (fun z => h (List.mem_cons_of_mem _ z))
    unfold valV wordsD at ih ⊢
    rw [List.map_cons, List.find?_cons_of_neg (by simpa using h1)]
    exact ih
theorem wordsD_put {x : Str} {l : List Str} (h : x ∉ l) : putK (wordsD l) (Sum.inr x) (.bl true) = wordsD (l ++ [x]) := by
  have h0 : ((wordsD l).any fun kv => decide (kv.1 = (Sum.inr x : Key))) = false := by
    unfold wordsD
    rw [List.any_map, List.any_eq_false]
    intro y hy
    simp only [Function.comp, decide_eq_true_eq]
    intro z
    exact h (by rw [← Sum.inr.inj z]; exact hy)
  unfold putK
  rw [h0, if_neg Bool.false_ne_true]
  unfold wordsD
  rw [List.map_append]
  rfl
theorem nd_take {α : Type} {l : List α} {i : Nat} {x : α} (h : l.Nodup) (hi : l[i]? = some x) : x ∉ l.take i := by
  intro hm
  obtain ⟨j, hj⟩ := List.getElem?_of_mem hm
  have hlt : j < i := by
    have := (List.getElem?_eq_some_iff.mp hj).1
    rw [List.length_take] at this
    omega
  rw [List.getElem?_take_of_lt hlt] at hj
  have := nd_ix h hj hi
  omega
theorem take_snoc {α : Type} {l : List α} {i : Nat} {x : α} (hi : l[i]? = some x) : l.take (i + 1) = l.take i ++ [x] := by
  rw [List.take_add_one, hi]
  rfl
theorem map_get {α β : Type} {f : α → β} {l : List α} {i : Nat} {y : β} (h : (l.map f)[i]? = some y) : ∃ x, l[i]? = some x ∧ y = f x := by
  rw [List.getElem?_map] at h
  cases e : l[i]? with
  | none =>
    rw [e] at h
    cases h
  | some x =>
    rw [e] at h
    exact ⟨x, rfl, (Option.some.inj h).symm⟩
theorem Tab.Ok.len {T : Tab} (h : T.Ok) : T.words.length ≤ 60 := by
  have h1 := h.o
  have h2 := h.t
  have h3 := h.s
  unfold Tab.words
  simp only [List.length_append, List.length_cons, List.length_nil]
  omega
theorem isWord_len {x : Str} (h : isWord x = true) : 1 ≤ x.length ∧ x.length ≤ 20 := by
  unfold isWord at h
  rw [Bool.and_eq_true, Bool.and_eq_true] at h
  exact ⟨of_decide_eq_true h.1.1, of_decide_eq_true h.1.2⟩
theorem ok_check_table {f : Addr} {fd : FuncData} (F : Fun K "check_table" "check_table" s_check_table f fd) (T : Bi mg) (C : Cons K mg cc)
    (c_all_words : CalF P w K mg base 1 "all_words" ["table"] (Pr (fun (x : Addr × Tab) vs H => vs = [.ref x.1] ∧ TabAt K H x.1 x.2 ∧ x.2.words.length ≤ 1000) (fun x H v H' => ∃ p, v = .ref p ∧ H p = none ∧ H' = upd H p (.lst (x.2.words.map V.str)))))
    (c_is_word : CalF P w K mg base 1 "is_word" ["text"] (Pr (fun (x : Str) vs H => vs = [.str x] ∧ x.length ≤ 1000) (fun x H v H' => v = .bl (isWord x) ∧ H' = H))) :
    FnOk P w K mg base CX0 2 f fd ["table"] (Pr (fun (x : Addr × Tab) vs H => vs = [.ref x.1] ∧ TabAt K H x.1 x.2 ∧ x.2.Ok) (fun x H v H' => v = .non ∧ H' = H)) := by
  refine okP F sc_check_table (fun x vs H h => ?_) (fun cdv A outer s H E x vs H0 hr h => ?_)
  · rw [h.1]
    rfl
  · obtain ⟨t, Ta⟩ := x
    obtain ⟨rfl, hT, ok⟩ := h
    dsimp only at *
    obtain ⟨o, te, sc, a, b, c, d⟩ := id hT
    refine ⟨_, (pss_cons (ps_if (pt_cmpR (op_neD hr.units) (pe_tup (pa_cons (pe_callB cr_lenS (by rfl) T.len_ boot_len (pa_cons (pe_ix ix_tup (pv 0) pe_int (fun _ _ => rfl)) pa_nil)) (pa_cons (pe_callB cr_lenS (by rfl) T.len_ boot_len (pa_cons (pe_ix ix_tup (pv 0) pe_int (fun _ _ => rfl)) pa_nil)) pa_nil))) (pe_con (by rfl) C.COUNTS) (nomark _))
      (pss_one ps_never)
      pss_nil)
      (pss_cons (ps_set (i := 1) sc_check_table.nd rfl (Or.inl rfl) pe_dnewK)
      (pss_one (ps_for PassesOwn.never rfl (pi_list (pe_cal c_all_words (hr.mono (by decide)) (by rfl) pass0 (pa_cons (pv 0) pa_nil))) (pg_name (i := 2) sc_check_table.nd rfl (Or.inl rfl))
      (pss_cons (ps_if (PW.pt (pw_or (pt_not (pt_val (pe_cal c_is_word (hr.mono (by decide)) (by rfl) pass0 (pa_cons (pv 2) pa_nil)))) (pw_or1 (pt_cmp (pc_din (hu_of hr) (pv 2) (pv 1)) (by with_unfolding_all rfl)))))
      (pss_one ps_never)
      pss_nil)
      (pss_one (ps_dput (hu_of hr) (pv 1) (pv 2) pe_bl rfl))))))), ?_⟩
    try dsimp only [cxOf]
    walk_at "go"
    -- (len(table[0]), len(table[1])) != COUNTS
    refine ⟨by walk_at "sz", fun p np => ?_⟩
    walk_at "go"
    refine r_ned (d := .tuple [.int 20, .int 8]) (e := .tuple [.int 20, .int 8]) ?_ (.tup (C.counts _) (.cons (.int _) (.cons (.int _) .nil))) rfl rfl ?_
    · rw [List.length_map, List.length_map, ok.o, ok.t]
      exact .tup st_same (.cons (.int _) (.cons (.int _) .nil))
    rw [show PyData.eqv (.tuple [.int 20, .int 8]) (.tuple [.int 20, .int 8]) = true from by decide +kernel]
    walk_at "go"
    have e0 := ex_new (o := .tup [.int ↑(Ta.ones.map V.str).length, .int ↑(Ta.tens.map V.str).length]) np
    generalize upd H0 p (.tup [.int ↑(Ta.ones.map V.str).length, .int ↑(Ta.tens.map V.str).length]) = H1 at e0
    intro d nd
    walk_at "go"
    refine s_forL ?_
    walk_at "go"
    refine ⟨(t, Ta), ⟨rfl, hT.up (e0.trans (ex_new nd)), Nat.le_trans ok.len (by decide)⟩, ?_⟩
    rintro v H2 ⟨q, rfl, nq, rfl⟩
    have nqd : d ≠ q := (free_of nq).2.symm
    have hd : (upd (upd H1 d (.dK [])) q (.lst (Ta.words.map V.str))) d = some (.dK (wordsD [])) := up_ne nqd upd_same
    refine ⟨q, _, fun i σ' H' => ∃ z, σ' = [some (.ref t), some (.ref d), z] ∧ H' = upd (upd (upd H1 d (.dK [])) q (.lst (Ta.words.map V.str))) d (.dK (wordsD (Ta.words.take i))), rfl, sl_same, ⟨none, rfl, (upd_self hd).symm⟩, fun i σ' H' hi h => ?_, fun i x σ' H' hi h => ?_, fun σ' H' h => ?_⟩
    · obtain ⟨z, rfl, rfl⟩ := h
      exact Or.inl (Or.inl (up_ne nqd.symm upd_same))
    · obtain ⟨z, rfl, rfl⟩ := h
      obtain ⟨word, hword, rfl⟩ := map_get hi
      have hw : isWord word = true := ok.w word (List.mem_of_getElem? hword)
      have hfresh : word ∉ Ta.words.take i := nd_take ok.nd hword
      walk_at "go"
      refine ⟨word, ⟨rfl, by have := isWord_len hw; omega⟩, ?_⟩
      rintro v H2 ⟨rfl, rfl⟩
      rw [hw]
      walk_at "go"
      refine ⟨d, _, Sum.inr word, rfl, upd_same, rfl, ?_⟩
      rw [wordsD_val hfresh]
      walk_at "go"
      refine ⟨d, _, Sum.inr word, rfl, upd_same, rfl, ?_, ?_⟩
      · unfold wordsD
        rw [List.length_map, List.length_take, sizeLine_eq]
        have := ok.len
        omega
      · rw [upd_upd, wordsD_put hfresh, ← take_snoc hword]
        exact ⟨_, ⟨_, rfl, rfl⟩, Ex.rf⟩
    · obtain ⟨z, rfl, rfl⟩ := h
      refine ⟨H0, ⟨rfl, rfl⟩, ?_⟩
      exact e0.trans (ex_mut ((ex_new nd).trans (ex_new nq)) nd)
theorem ok_power_of_thousand {f : Addr} {fd : FuncData} (F : Fun K "power_of_thousand" "power_of_thousand" s_power_of_thousand f fd) (T : Bi mg) :
    FnOk P w K mg base CX0 1 f fd ["exponent"] (Pr (fun (n : Nat) vs H => vs = [.int n] ∧ n ≤ 1000) (fun n H v H' => v = .int (1000 ^ n) ∧ H' = H)) := by
  refine okP F sc_power_of_thousand (fun x vs H h => ?_) (fun cdv A outer s H E n vs H0 hr h => ?_)
  · rw [h.1]
    rfl
  · obtain ⟨rfl, hn⟩ := h
    refine ⟨_, (pss_cons (ps_set (i := 1) sc_power_of_thousand.nd rfl (Or.inl rfl) pe_int)
      (pss_cons (ps_for PassesOwn.never rfl (pi_range1 (by rfl) T.range_ (pa_cons (pv 0) pa_nil)) (pg_name (i := 2) sc_power_of_thousand.nd rfl (Or.inl rfl))
      (pss_one (ps_aug (i := 1) sc_power_of_thousand.nd rfl (Or.inl rfl) pe_int ip_mul)))
      (pss_one (ps_ret (pv 1))))), ?_⟩
    try dsimp only [cxOf]
    walk_at "go"
    refine s_forR1 ?_
    walk_at "go"
    refine ⟨n, fun i σ' H' => ∃ z, σ' = [some (.int n), some (.int (1000 ^ i)), z] ∧ H' = H0, rfl, by omega, by omega, ⟨none, rfl, rfl⟩, fun i σ' H' hi h => ?_, fun σ' H' h => ?_⟩
    · obtain ⟨z, rfl, rfl⟩ := h
      walk_at "go"
      exact ⟨_, ⟨_, by rw [Int.pow_succ]; rfl, rfl⟩, Ex.rf⟩
    · obtain ⟨z, rfl, rfl⟩ := h
      walk_at "go"
      exact ⟨_, ⟨by rw [Int.toNat_natCast], rfl⟩, Ex.rf⟩
abbrev Sp_pow : Sp := Pr (fun (n : Nat) vs H => vs = [.int n] ∧ n ≤ 1000) (fun n H v H' => v = .int (1000 ^ n) ∧ H' = H)
def Tab.lim (T : Tab) : Int := 1000 ^ (T.scales.length + 1)
abbrev Sp_limit_in (K : PySem.W.Frag) : Sp := Pr (fun (x : Addr × Tab) vs H => vs = [.ref x.1] ∧ TabAt K H x.1 x.2 ∧ x.2.scales.length ≤ 20) (fun x H v H' => v = .int x.2.lim ∧ H' = H)
theorem ok_limit_in {f : Addr} {fd : FuncData} (F : Fun K "limit_in" "limit_in" s_limit_in f fd) (T : Bi mg) (c_power_of_thousand : CalF P w K mg base 1 "power_of_thousand" ["exponent"] Sp_pow) :
    FnOk P w K mg base CX0 2 f fd ["table"] (Sp_limit_in K) := by
  refine okP F sc_limit_in (fun x vs H h => ?_) (fun cdv A outer s H E x vs H0 hr h => ?_)
  · rw [h.1]
    rfl
  · obtain ⟨t, Ta⟩ := x
    obtain ⟨rfl, ⟨o, te, sc, a, b, c, d⟩, hz⟩ := h
    dsimp only at *
    refine ⟨_, (pss_one (ps_ret (pe_cal c_power_of_thousand (hr.mono (by decide)) (by rfl) pass0 (pa_cons (pe_op op_add (pe_callB cr_lenS (by rfl) T.len_ boot_len (pa_cons (pe_ix ix_tup (pv 0) pe_int (fun _ _ => rfl)) pa_nil)) pe_int) pa_nil)))), ?_⟩
    try dsimp only [cxOf]
    walk_at "go"
    refine ⟨Ta.scales.length + 1, ⟨by rw [List.length_map]; rfl, by omega⟩, ?_⟩
    rintro v H2 ⟨rfl, rfl⟩
    exact ⟨_, ⟨rfl, rfl⟩, Ex.rf⟩
abbrev Sp_check_number (K : PySem.W.Frag) : Sp := Pr (fun (x : Addr × Tab × Int) vs H => vs = [.ref x.1, .int x.2.2] ∧ TabAt K H x.1 x.2.1 ∧ x.2.1.scales.length ≤ 20 ∧ 0 ≤ x.2.2 ∧ x.2.2 < x.2.1.lim) (fun x H v H' => v = .non ∧ H' = H)
theorem ok_check_number {f : Addr} {fd : FuncData} (F : Fun K "check_number" "check_number" s_check_number f fd) (T : Bi mg) (c_limit_in : CalF P w K mg base 2 "limit_in" ["table"] (Sp_limit_in K)) :
    FnOk P w K mg base CX0 3 f fd ["table", "number"] (Sp_check_number K) := by
  refine okP F sc_check_number (fun x vs H h => ?_) (fun cdv A outer s H E x vs H0 hr h => ?_)
  · rw [h.1]
    rfl
  · obtain ⟨t, Ta, n⟩ := x
    obtain ⟨rfl, hT, hz, h1, h2⟩ := h
    dsimp only at *
    refine ⟨_, (pss_one (ps_if (pt_not (pt_chain op_le op_lt pe_int (pv 1) (pe_cal c_limit_in (hr.mono (by decide)) (by rfl) pass0 (pa_cons (pv 0) pa_nil))))
      (pss_one ps_never)
      pss_nil)), ?_⟩
    try dsimp only [cxOf]
    walk_at "go"
    rw [decide_eq_true h1]
    walk_at "go"
    refine ⟨(t, Ta), ⟨rfl, hT, hz⟩, ?_⟩
    rintro v H2 ⟨rfl, rfl⟩
    walk_at "go"
    dsimp only
    rw [decide_eq_true h2]
    walk_at "go"
    exact ⟨_, ⟨rfl, rfl⟩, Ex.rf⟩
/-- the usual words -/
def eng (n : Nat) : Tab := ⟨Txt.words ONESs ++ Txt.words TEENSs, Txt.words TENSs, "hundred", (Txt.words SCALESs).take n⟩
def Tab.okB (T : Tab) : Bool := decide (T.ones.length = 20) && decide (T.tens.length = 8) && decide (T.scales.length ≤ 20) && T.words.all isWord && decide T.words.Nodup
theorem Tab.okB_ok {T : Tab} (h : T.okB = true) : T.Ok := by
  unfold Tab.okB at h
  rw [Bool.and_eq_true, Bool.and_eq_true, Bool.and_eq_true, Bool.and_eq_true] at h
  exact ⟨of_decide_eq_true h.1.1.1.1, of_decide_eq_true h.1.1.1.2, of_decide_eq_true h.1.1.2, fun x hx => List.all_eq_true.mp h.1.2 x hx, of_decide_eq_true h.2⟩
theorem eng_ok : ∀ n, n ≤ 10 → (eng n).Ok := by
  have h : ∀ n : _root_.Fin 11, (eng n.val).okB = true := by decide +kernel
  exact fun n hn => Tab.okB_ok (h ⟨n, by omega⟩)
theorem scales_len : (Txt.words SCALESs).length = 10 := by decide +kernel
abbrev Sp_english (K : PySem.W.Frag) : Sp := Pr (fun (n : Nat) vs H => vs = [.int n] ∧ n ≤ 10) (fun n H v H' => ∃ t N, v = .ref t ∧ Apart H N ∧ TabAt K N t (eng n) ∧ H' = plus H N)
theorem cutV_to {xs : List V} {n : Nat} : cutV xs none (some (n : Int)) = xs.take n := by
  unfold cutV
  rw [HT.sIx_none, HT.sIx_nat]
  rw [List.drop_zero, Nat.sub_zero]
  by_cases h : n ≤ xs.length
  · rw [Nat.min_eq_left h]
  · rw [Nat.min_eq_right (by omega), List.take_length, List.take_of_length_le (by omega)]
theorem ok_english {f : Addr} {fd : FuncData} (F : Fun K "english" "english" s_english f fd) (T : Bi mg) (C : Cons K mg cc) :
    FnOk P w K mg base CX0 1 f fd ["scales"] (Sp_english K) := by
  refine okP F sc_english (fun x vs H h => ?_) (fun cdv A outer s H E n vs H0 hr h => ?_)
  · rw [h.1]
    rfl
  · obtain ⟨rfl, hn⟩ := h
    refine ⟨_, (pss_cons (ps_set (i := 1) sc_english.nd rfl (Or.inl rfl) (pe_words (pe_con (by rfl) C.SCALES)))
      (pss_cons (ps_if (pt_not (pt_chain op_le op_le pe_int (pv 0) (pe_callB cr_lenS (by rfl) T.len_ boot_len (pa_cons (pv 1) pa_nil))))
      (pss_one ps_never)
      pss_nil)
      (pss_one (ps_ret (pe_tup (pa_cons (pe_lst (StX.pa_star (pe_words (pe_con (by rfl) C.ONES)) (StX.pa_star (pe_words (pe_con (by rfl) C.TEENS)) pa_nil))) (pa_cons (pe_words (pe_con (by rfl) C.TENS)) (pa_cons pe_str (pa_cons (pe_slice sl_list (pv 1) po_none (po_some (pv 0))) pa_nil))))))))), ?_⟩
    try dsimp only [cxOf]
    walk_at "go"
    refine m_words (by decide +kernel) fun p1 n1 => ?_
    walk_at "go"
    walk_at "go"
    rw [decide_eq_true (by rw [List.length_map, scales_len]; omega : (n : Int) ≤ (((Txt.words SCALESs).map V.str).length : Int))]
    walk_at "go"
    refine m_words (by decide +kernel) fun p2 n2 => ?_
    refine ⟨p2, _, rfl, Or.inr sl_same, ?_⟩
    walk_at "go"
    refine m_words (by decide +kernel) fun p3 n3 => ?_
    refine ⟨p3, _, rfl, Or.inr sl_same, ?_⟩
    walk_at "go"
    refine ⟨by decide +kernel, fun p4 n4 => ?_⟩
    walk_at "go"
    refine m_words (by decide +kernel) fun p5 n5 => ?_
    walk_at "go"
    refine r_slL (by walk_at "sq") fun p6 n6 => ?_
    walk_at "go"
    refine ⟨by walk_at "sz", fun p7 n7 => ?_⟩
    have e0 := ((ex_new (o := .lst ((Txt.words SCALESs).map V.str)) n1).trans (ex_new (o := .lst ((Txt.words ONESs).map V.str)) n2)).trans (ex_new (o := .lst ((Txt.words TEENSs).map V.str)) n3)
    have nn : ∀ {q : Addr}, (upd (upd (upd H0 p1 (.lst ((Txt.words SCALESs).map V.str))) p2 (.lst ((Txt.words ONESs).map V.str))) p3 (.lst ((Txt.words TEENSs).map V.str))) q = none → H0 q = none := fun h => ex_free e0 h
    obtain ⟨n5a, k54⟩ := free_of n5
    obtain ⟨n6a, k65⟩ := free_of n6
    obtain ⟨n6b, k64⟩ := free_of n6a
    obtain ⟨n7a, k76⟩ := free_of n7
    obtain ⟨n7b, k75⟩ := free_of n7a
    obtain ⟨n7c, k74⟩ := free_of n7b
    refine ⟨_, ⟨p7, upd (upd (upd (upd emp p4 (.lst ((eng n).ones.map V.str))) p5 (.lst ((eng n).tens.map V.str))) p6 (.lst ((eng n).scales.map V.str))) p7 (.tup [.ref p4, .ref p5, .str (eng n).hundred, .ref p6]), rfl, ?_, ⟨p4, p5, p6, st_same, ?_, ?_, ?_⟩, rfl⟩, ?_⟩
    · intro b o hb
      by_cases e7 : b = p7
      · rw [e7]; exact nn n7c
      rw [upd_ne e7] at hb
      by_cases e6 : b = p6
      · rw [e6]; exact nn n6b
      rw [upd_ne e6] at hb
      by_cases e5 : b = p5
      · rw [e5]; exact nn n5a
      rw [upd_ne e5] at hb
      by_cases e4 : b = p4
      · rw [e4]; exact nn n4
      rw [upd_ne e4] at hb
      cases hb
    · exact Or.inl (Or.inl (up_ne k74.symm (up_ne k64.symm (up_ne k54.symm upd_same))))
    · exact Or.inl (Or.inl (up_ne k75.symm (up_ne k65.symm upd_same)))
    · exact Or.inl (Or.inl (up_ne k76.symm upd_same))
    · refine ex_plus_of ?_ ?_
      · exact e0.trans ((ex_new n4).trans ((ex_new n5).trans ((ex_new n6).trans (ex_new n7))))
      · intro b o hb
        by_cases e7 : b = p7
        · rw [e7, upd_same] at hb ⊢; exact hb
        rw [upd_ne e7] at hb ⊢
        by_cases e6 : b = p6
        · rw [e6, upd_same] at hb ⊢; rw [← hb, cutV_to]; unfold eng; rw [List.map_take]
        rw [upd_ne e6] at hb ⊢
        by_cases e5 : b = p5
        · rw [e5, upd_same] at hb ⊢; exact hb
        rw [upd_ne e5] at hb ⊢
        by_cases e4 : b = p4
        · rw [e4, upd_same] at hb ⊢; rw [← hb]; unfold eng; rw [List.map_append, List.append_nil]
        rw [upd_ne e4] at hb
        cases hb
end
end Mb


namespace Mb
open PySem PyProof.Rows L2
open Evl (Ex)
/-! ### names -/
def Tab.one (T : Tab) (n : Nat) : Str := T.ones.getD n ""
def Tab.ten (T : Tab) (n : Nat) : Str := T.tens.getD n ""
def Tab.sca (T : Tab) (n : Nat) : Str := T.scales.getD n ""
def Tab.below (T : Tab) (n : Nat) : List Str := if n = 0 then [] else if n < 20 then [T.one n] else if n % 10 = 0 then [T.ten (n / 10 - 2)] else [T.ten (n / 10 - 2), T.one (n % 10)]
def Tab.group (T : Tab) (g : Nat) : List Str := (if 0 < g / 100 then [T.one (g / 100), T.hundred] else []) ++ T.below (g % 100)
/-- the groups that are not zero, the highest one first -/
def grpsAt (i n : Nat) : List (Nat × Nat) := if h : n = 0 then [] else grpsAt (i + 1) (n / 1000) ++ if 0 < n % 1000 then [(n % 1000, i)] else []
termination_by n
decreasing_by omega
theorem grpsAt_zero (i : Nat) : grpsAt i 0 = [] := by rw [grpsAt]; rfl
theorem grpsAt_pos {i n : Nat} (h : 0 < n) : grpsAt i n = grpsAt (i + 1) (n / 1000) ++ if 0 < n % 1000 then [(n % 1000, i)] else [] := by rw [grpsAt, dif_neg (by omega)]
def Tab.part (T : Tab) (x : Nat × Nat) : List Str := T.group x.1 ++ if 0 < x.2 then [T.sca (x.2 - 1)] else []
def Tab.wordsIn (T : Tab) (n : Nat) : List Str := if n = 0 then [T.one 0] else (grpsAt 0 n).flatMap T.part
theorem grpsAt_mem : ∀ (n i : Nat) (x : Nat × Nat), x ∈ grpsAt i n → 0 < x.1 ∧ x.1 < 1000 ∧ i ≤ x.2 ∧ 1000 ^ (x.2 - i) ≤ n := by
  intro n
  induction n using Nat.strongRecOn with
  | _ n ih =>
    intro i x hx
    by_cases h : n = 0
    · rw [h, grpsAt_zero] at hx
      cases hx
    · rw [grpsAt_pos (by omega)] at hx
      rcases List.mem_append.mp hx with hx | hx
      · obtain ⟨a, b, c, d⟩ := ih (n / 1000) (by omega) (i + 1) x hx
        refine ⟨a, b, by omega, ?_⟩
        rw [show x.2 - i = (x.2 - (i + 1)) + 1 by omega, Nat.pow_succ]
        exact Nat.le_trans (Nat.mul_le_mul_right _ d) (Nat.div_mul_le_self _ _)
      · by_cases hg : 0 < n % 1000
        · rw [if_pos hg] at hx
          obtain rfl := List.mem_singleton.mp hx
          refine ⟨hg, by dsimp only; omega, Nat.le_refl _, ?_⟩
          dsimp only
          rw [Nat.sub_self]
          exact Nat.pos_of_ne_zero h
        · rw [if_neg hg] at hx
          cases hx
theorem grpsAt_len : ∀ (k n i : Nat), n < 1000 ^ k → (grpsAt i n).length ≤ k := by
  intro k
  induction k with
  | zero =>
    intro n i h
    rw [Nat.pow_zero] at h
    rw [show n = 0 by omega, grpsAt_zero]
    exact Nat.le_refl _
  | succ k ih =>
    intro n i h
    by_cases h0 : n = 0
    · rw [h0, grpsAt_zero]
      exact Nat.zero_le _
    · rw [grpsAt_pos (by omega), List.length_append]
      have := ih (n / 1000) (i + 1) (by rw [Nat.pow_succ] at h; omega)
      split <;> simp <;> omega
theorem upd_plus {H N : Hp} {a : Addr} {o : HO} (h : H a = none) : upd (plus H N) a o = plus H (upd N a o) := by
  funext b
  by_cases e : b = a
  · rw [e, upd_same, plus_r h, upd_same]
  · rw [upd_ne e]
    unfold plus
    rw [upd_ne e]
theorem upd_is_plus {H : Hp} {a : Addr} {o : HO} (h : H a = none) : upd H a o = plus H (upd emp a o) := by
  rw [← upd_plus h]
  congr 1
  funext b
  unfold plus emp
  cases H b <;> rfl
theorem Apart.upd {H N : Hp} {a : Addr} {o : HO} (h : Apart H N) (ha : H a = none) : Apart H (upd N a o) := fun b u hb => by
  by_cases e : b = a
  · rw [e]; exact ha
  · rw [upd_ne e] at hb
    exact h b u hb
theorem apart_emp {H : Hp} : Apart H emp := fun b o h => by cases h
theorem plus_emp {H : Hp} : plus H emp = H := by
  funext b
  unfold plus emp
  cases H b <;> rfl
/-- pairs of numbers, each a tuple -/
inductive PairsAt (H : Hp) : List V → List (Nat × Nat) → Prop
  | nil : PairsAt H [] []
  | cons {p : Addr} {g i : Nat} {vs : List V} {gs : List (Nat × Nat)} : H p = some (.tup [.int g, .int i]) → PairsAt H vs gs → PairsAt H (.ref p :: vs) ((g, i) :: gs)
theorem PairsAt.up {H H' : Hp} (e : Ex H H') : ∀ {vs : List V} {gs : List (Nat × Nat)}, PairsAt H vs gs → PairsAt H' vs gs
  | _, _, .nil => .nil
  | _, _, .cons h t => .cons (e _ _ h) (t.up e)
theorem PairsAt.upd {H : Hp} {a : Addr} {o : HO} (ha : ∀ xs, H a ≠ some (.tup xs)) : ∀ {vs : List V} {gs : List (Nat × Nat)}, PairsAt H vs gs → PairsAt (upd H a o) vs gs
  | _, _, .nil => .nil
  | _, _, .cons h t => .cons (up_ne (fun z => ha _ (z ▸ h)) h) (t.upd ha)
theorem PairsAt.len {H : Hp} : ∀ {vs : List V} {gs : List (Nat × Nat)}, PairsAt H vs gs → vs.length = gs.length
  | _, _, .nil => rfl
  | _, _, .cons h t => by rw [List.length_cons, List.length_cons, t.len]
theorem PairsAt.get {H : Hp} : ∀ {vs : List V} {gs : List (Nat × Nat)} {i : Nat} {x : V}, PairsAt H vs gs → vs[i]? = some x → ∃ p g j, x = .ref p ∧ gs[i]? = some (g, j) ∧ H p = some (.tup [.int g, .int j])
  | _, _, _, _, .nil, h => by simp at h
  | _, _, 0, x, .cons h t, e => by
    simp at e
    exact ⟨_, _, _, e.symm, rfl, h⟩
  | _, _, i + 1, x, .cons h t, e => by
    obtain ⟨p, g, j, a, b, c⟩ := t.get (i := i) (x := x) (by simpa using e)
    exact ⟨p, g, j, a, by simpa using b, c⟩
section
variable {P : Program} {w : World} {K : PySem.W.Frag} {mg : Str → Option Value} {base : Heap} {cc : Addr}
theorem int_div (a b : Nat) : ((a : Int) / (b : Int)) = ((a / b : Nat) : Int) := (Int.natCast_ediv a b).symm
theorem int_mod (a b : Nat) : ((a : Int) % (b : Int)) = ((a % b : Nat) : Int) := (Int.natCast_emod a b).symm
abbrev Sp_groups_of : Sp := Pr (fun (n : Nat) vs H => vs = [.int n] ∧ n < 1000 ^ 100) (fun n H v H' => ∃ p N vs, v = .ref p ∧ Apart H N ∧ N p = some (.lst vs) ∧ PairsAt N vs (grpsAt 0 n) ∧ H' = plus H N)
theorem ok_groups_of {f : Addr} {fd : FuncData} (F : Fun K "groups_of" "groups_of" s_groups_of f fd) (T : Bi mg) (C : Cons K mg cc) :
    FnOk P w K mg base CX0 1 f fd ["number"] Sp_groups_of := by
  refine okP F sc_groups_of (fun x vs H h => ?_) (fun cdv A outer s H E n vs H0 hr h => ?_)
  · rw [h.1]
    rfl
  · obtain ⟨rfl, hn⟩ := h
    refine ⟨_, (pss_cons (ps_set (i := 1) sc_groups_of.nd rfl (Or.inl rfl) (pe_lst pa_nil))
      (pss_cons (ps_set (i := 2) sc_groups_of.nd rfl (Or.inl rfl) pe_int)
      (pss_cons (ps_while PassesOwn.never (pt_cmpR op_gt (pv 0) pe_int (nomark _))
      (pss_cons (ps_asg (pe_callB cr_divm (by rfl) T.divmod_ boot_divmod (pa_cons (pv 0) (pa_cons (pe_con (by rfl) C.THOUSAND) pa_nil))) (pg_tup rfl (pgs_cons (pg_name (i := 0) sc_groups_of.nd rfl (Or.inl rfl)) (pgs_cons (pg_name (i := 3) sc_groups_of.nd rfl (Or.inl rfl)) pgs_nil))))
      (pss_cons (ps_if (pt_cmpR op_gt (pv 3) pe_int (nomark _))
      (pss_one (ps_expr (pe_bm PySem.F.plainAttrs_list PySem.F.slot_list_insert PySem.F.type_list_insert mt_ins (pv 1) (pa_cons pe_int (pa_cons (pe_tup (pa_cons (pv 3) (pa_cons (pv 2) pa_nil))) pa_nil)))))
      pss_nil)
      (pss_one (ps_aug (i := 2) sc_groups_of.nd rfl (Or.inl rfl) pe_int ip_add)))))
      (pss_one (ps_ret (pv 1)))))), ?_⟩
    try dsimp only [cxOf]
    walk_at "go"
    refine ⟨by walk_at "sz", fun p np => ?_⟩
    walk_at "go"
    refine s_while (fun m σ' H' => ∃ (i : Nat) (z : Option V) (N : Hp) (vs : List V) (gs : List (Nat × Nat)), σ' = [some (.int m), some (.ref p), some (.int i), z] ∧ H' = plus H0 N ∧ Apart H0 N ∧ N p = some (.lst vs) ∧ PairsAt N vs gs ∧ grpsAt 0 n = grpsAt i m ++ gs ∧ m * 1000 ^ i ≤ n ∧ gs.length ≤ i) n
      ⟨0, none, upd emp p (.lst []), [], [], rfl, upd_is_plus np, apart_emp.upd np, upd_same, .nil, (List.append_nil _).symm, by omega, Nat.le_refl _⟩ (fun m σ' H' h => ?_)
    obtain ⟨i, z, N, vs, gs, rfl, rfl, ap, hp, hv, hg, hb, hl⟩ := h
    walk_at "go"
    refine ite2 (fun h1 => ?_) (fun h1 => ?_)
    · walk_at "go"
      intro q nq
      refine g_tup st_same rfl ?_
      have hP : plus H0 N p = some (.lst vs) := (plus_r np).trans hp
      have hm : 0 < m := by have := of_decide_eq_true h1; omega
      have e1 : ((m : Int) / 1000) = ((m / 1000 : Nat) : Int) := by omega
      have e2 : ((m : Int) % 1000) = ((m % 1000 : Nat) : Int) := by omega
      have hb2 : m / 1000 * 1000 ^ (i + 1) ≤ n := by
        rw [Nat.pow_succ, Nat.mul_comm (1000 ^ i), ← Nat.mul_assoc]
        exact Nat.le_trans (Nat.mul_le_mul_right _ (Nat.div_mul_le_self _ _)) hb
      rw [grpsAt_pos hm] at hg
      rw [e1, e2]
      walk_at "go"
      refine ite2 (fun h2 => ?_) (fun h2 => ?_)
      · have h2' : 0 < m % 1000 := by have := of_decide_eq_true h2; omega
        rw [if_pos h2', List.append_assoc] at hg
        walk_at "go"
        refine ⟨Or.inl ⟨rfl, _, Or.inl (Or.inl (up_new nq hP))⟩, ?_⟩
        walk_at "go"
        refine ⟨by walk_at "sz", fun r nr => ?_⟩
        obtain ⟨nr', krq⟩ := free_of nr
        have npr : p ≠ r := fun z => by rw [z, nr'] at hP; cases hP
        have nr0 : H0 r = none := ex_free ex_plus nr'
        have hlen : vs.length < 1000 := by
          rw [hv.len]
          have hi : i < 100 := by
            refine (Nat.pow_lt_pow_iff_right (a := 1000) (by decide)).mp (Nat.lt_of_le_of_lt ?_ hn)
            exact Nat.le_trans (Nat.le_mul_of_pos_left _ hm) hb
          omega
        walk_at "go"
        refine m_ins (up_ne npr (up_new nq hP)) (Nat.lt_of_lt_of_le hlen (by decide)) (by decide) (by decide) ?_
        walk_at "go"
        refine ⟨m / 1000, by omega, _, ⟨i + 1, _, upd (upd N r (.tup [.int ((m % 1000 : Nat) : Int), .int (i : Int)])) p (.lst (.ref r :: vs)), .ref r :: vs, (m % 1000, i) :: gs, rfl, rfl, (ap.upd nr0).upd np, upd_same, .cons (up_ne npr.symm upd_same) ?_, hg, hb2, ?_⟩, ?_⟩
        · exact (hv.up (ex_new (by rw [← plus_r nr0 (N := N)]; exact nr'))).upd (fun xs z => by rw [upd_ne npr, hp] at z; cases z)
        · rw [List.length_cons]; omega
        · rw [← upd_plus np, ← upd_plus nr0]
          exact ex_upd (ex_upd (ex_new nq))
      · have h2' : ¬ 0 < m % 1000 := fun z => h2 (decide_eq_true (by omega))
        rw [if_neg h2', List.append_nil] at hg
        walk_at "go"
        exact ⟨m / 1000, by omega, _, ⟨i + 1, _, N, vs, gs, rfl, rfl, ap, hp, hv, hg, hb2, by omega⟩, ex_new nq⟩
    · have hm : m = 0 := by
        have : ¬ (0 : Int) < (m : Int) := fun z => h1 (decide_eq_true z)
        omega
      rw [hm, grpsAt_zero, List.nil_append] at hg
      walk_at "go"
      exact ⟨_, ⟨p, N, vs, rfl, ap, hp, hg ▸ hv, rfl⟩, Ex.rf⟩
abbrev Sp_words_below_hundred (K : PySem.W.Frag) : Sp := Pr (fun (x : Addr × Tab × Nat) vs H => vs = [.ref x.1, .int x.2.2] ∧ TabAt K H x.1 x.2.1 ∧ x.2.1.ones.length = 20 ∧ x.2.1.tens.length = 8 ∧ x.2.2 < 100) (fun x H v H' => ∃ p, v = .ref p ∧ H p = none ∧ H' = upd H p (.lst ((x.2.1.below x.2.2).map V.str)))
theorem ok_words_below_hundred {f : Addr} {fd : FuncData} (F : Fun K "words_below_hundred" "words_below_hundred" s_words_below_hundred f fd) (T : Bi mg) (C : Cons K mg cc) :
    FnOk P w K mg base CX0 1 f fd ["table", "number"] (Sp_words_below_hundred K) := by
  refine okP F sc_words_below_hundred (fun x vs H h => ?_) (fun cdv A outer s H E x vs H0 hr h => ?_)
  · rw [h.1]
    rfl
  · obtain ⟨t, Ta, n⟩ := x
    obtain ⟨rfl, ⟨o, te, sc, a, b, c, d⟩, h1, h2, hn⟩ := h
    dsimp only at *
    refine ⟨_, (pss_cons (ps_asg (pe_slice sl_tup (pv 0) po_none (po_some pe_int)) (pg_tup rfl (pgs_cons (pg_name (i := 2) sc_words_below_hundred.nd rfl (Or.inl rfl)) (pgs_cons (pg_name (i := 3) sc_words_below_hundred.nd rfl (Or.inl rfl)) pgs_nil))))
      (pss_cons (ps_if (pt_cmpR op_eq (pv 1) pe_int (nomark _))
      (pss_one (ps_ret (pe_lst pa_nil)))
      pss_nil)
      (pss_cons (ps_if (pt_cmpR op_lt (pv 1) (pe_con (by rfl) C.TWENTY) (nomark _))
      (pss_one (ps_ret (pe_lst (pa_cons (pe_ix ix_list (pv 2) (pv 1) (fun _ _ => rfl)) pa_nil))))
      pss_nil)
      (pss_cons (ps_asg (pe_callB cr_divm (by rfl) T.divmod_ boot_divmod (pa_cons (pv 1) (pa_cons pe_int pa_nil))) (pg_tup rfl (pgs_cons (pg_name (i := 4) sc_words_below_hundred.nd rfl (Or.inl rfl)) (pgs_cons (pg_name (i := 5) sc_words_below_hundred.nd rfl (Or.inl rfl)) pgs_nil))))
      (pss_one (ps_ret (pe_ifExp (pt_cmpR op_eq (pv 5) pe_int (nomark _)) (pe_lst (pa_cons (pe_ix ix_list (pv 3) (pe_op op_sub (pv 4) pe_int) (fun _ _ => rfl)) pa_nil)) (pe_lst (pa_cons (pe_ix ix_list (pv 3) (pe_op op_sub (pv 4) pe_int) (fun _ _ => rfl)) (pa_cons (pe_ix ix_list (pv 2) (pv 5) (fun _ _ => rfl)) pa_nil)))))))))), ?_⟩
    try dsimp only [cxOf]
    walk_at "go"
    refine r_slT a (by show ¬ (HT.sIx 4 0 none = 0 ∧ HT.sIx 4 4 (some 2) = 4); decide) fun p1 n1 => ?_
    walk_at "go"
    refine g_tup (xs := [.ref o, .ref te]) st_same rfl ?_
    walk_at "go"
    have b' := sl_new (o := .tup (cutV [.ref o, .ref te, .str Ta.hundred, .ref sc] none (some 2))) n1 b
    have c' := sl_new (o := .tup (cutV [.ref o, .ref te, .str Ta.hundred, .ref sc] none (some 2))) n1 c
    refine ite2 (fun z => ?_) (fun z => ?_)
    · have e : n = 0 := by have := V.int.inj (of_decide_eq_true z); omega
      walk_at "go"
      refine ⟨by walk_at "sz", fun p2 n2 => ?_⟩
      refine ⟨_, ⟨p2, rfl, (free_of n2).1, rfl⟩, ?_⟩
      rw [e]
      exact ex_upd (ex_new n1)
    · have e : n ≠ 0 := fun q => z (decide_eq_true (by rw [q]; rfl))
      walk_at "go"
      refine ite2 (fun z2 => ?_) (fun z2 => ?_)
      · have e2 : n < 20 := by have := of_decide_eq_true z2; omega
        walk_at "go"
        refine r_ixL b' (at_str ?_ ?_) ?_
        · omega
        · omega
        walk_at "go"
        refine ⟨by walk_at "sz", fun p2 n2 => ?_⟩
        refine ⟨_, ⟨p2, rfl, (free_of n2).1, rfl⟩, ?_⟩
        unfold Tab.below
        rw [if_neg e, if_pos e2]
        exact ex_upd (ex_new n1)
      · have e2 : ¬ n < 20 := fun q => z2 (decide_eq_true (by omega))
        walk_at "go"
        intro p2 n2
        refine g_tup st_same rfl ?_
        have e3 : ((n : Int) / 10) = ((n / 10 : Nat) : Int) := by omega
        have e4 : ((n : Int) % 10) = ((n % 10 : Nat) : Int) := by omega
        have e5 : (((n / 10 : Nat) : Int) - 2) = ((n / 10 - 2 : Nat) : Int) := by omega
        rw [e3, e4]
        walk_at "go"
        have b2 := sl_new (o := .tup [.int ((n / 10 : Nat) : Int), .int ((n % 10 : Nat) : Int)]) n2 b'
        have c2 := sl_new (o := .tup [.int ((n / 10 : Nat) : Int), .int ((n % 10 : Nat) : Int)]) n2 c'
        refine ite2 (fun z3 => ?_) (fun z3 => ?_)
        · have e6 : n % 10 = 0 := by have := V.int.inj (of_decide_eq_true z3); omega
          walk_at "go"
          refine r_ixL c2 (at_str ?_ ?_) ?_
          · omega
          · omega
          walk_at "go"
          refine ⟨by walk_at "sz", fun p3 n3 => ?_⟩
          refine ⟨_, ⟨p3, rfl, (free_of (free_of n3).1).1, rfl⟩, ?_⟩
          unfold Tab.below
          rw [if_neg e, if_neg e2, if_pos e6, e5]
          exact ex_upd ((ex_new n1).trans (ex_new n2))
        · have e6 : ¬ n % 10 = 0 := fun q => z3 (decide_eq_true (by rw [q]; rfl))
          walk_at "go"
          refine r_ixL c2 (at_str ?_ ?_) ?_
          · omega
          · omega
          walk_at "go"
          refine r_ixL b2 (at_str ?_ ?_) ?_
          · omega
          · omega
          walk_at "go"
          refine ⟨by walk_at "sz", fun p3 n3 => ?_⟩
          refine ⟨_, ⟨p3, rfl, (free_of (free_of n3).1).1, rfl⟩, ?_⟩
          unfold Tab.below
          rw [if_neg e, if_neg e2, if_neg e6, e5]
          exact ex_upd ((ex_new n1).trans (ex_new n2))
abbrev Sp_words_of_group (K : PySem.W.Frag) : Sp := Pr (fun (x : Addr × Tab × Nat) vs H => vs = [.ref x.1, .int x.2.2] ∧ TabAt K H x.1 x.2.1 ∧ x.2.1.ones.length = 20 ∧ x.2.1.tens.length = 8 ∧ x.2.2 < 1000) (fun x H v H' => ∃ p, v = .ref p ∧ H p = none ∧ H' = upd H p (.lst ((x.2.1.group x.2.2).map V.str)))
theorem below_len (T : Tab) (n : Nat) : (T.below n).length ≤ 2 := by
  unfold Tab.below
  repeat' split
  all_goals simp
theorem ok_words_of_group {f : Addr} {fd : FuncData} (F : Fun K "words_of_group" "words_of_group" s_words_of_group f fd) (T : Bi mg) (C : Cons K mg cc)
    (c_words_below_hundred : CalF P w K mg base 1 "words_below_hundred" ["table", "number"] (Sp_words_below_hundred K)) :
    FnOk P w K mg base CX0 2 f fd ["table", "group"] (Sp_words_of_group K) := by
  refine okP F sc_words_of_group (fun x vs H h => ?_) (fun cdv A outer s H E x vs H0 hr h => ?_)
  · rw [h.1]
    rfl
  · obtain ⟨t, Ta, n⟩ := x
    obtain ⟨rfl, hT, h1, h2, hn⟩ := h
    dsimp only at *
    obtain ⟨o, te, sc, a, b, c, d⟩ := id hT
    refine ⟨_, (pss_cons (ps_asg (pe_callB cr_divm (by rfl) T.divmod_ boot_divmod (pa_cons (pv 1) (pa_cons (pe_con (by rfl) C.HUNDRED) pa_nil))) (pg_tup rfl (pgs_cons (pg_name (i := 2) sc_words_of_group.nd rfl (Or.inl rfl)) (pgs_cons (pg_name (i := 3) sc_words_of_group.nd rfl (Or.inl rfl)) pgs_nil))))
      (pss_cons (ps_set (i := 4) sc_words_of_group.nd rfl (Or.inl rfl) (pe_ifExp (pt_cmpR op_gt (pv 2) pe_int (nomark _)) (pe_lst (pa_cons (pe_ix ix_list (pe_ix ix_tup (pv 0) pe_int (fun _ _ => rfl)) (pv 2) (fun _ _ => rfl)) (pa_cons (pe_ix ix_tup (pv 0) pe_int (fun _ _ => rfl)) pa_nil))) (pe_lst pa_nil)))
      (pss_one (ps_ret (pe_op op_cat (pv 4) (pe_cal c_words_below_hundred (hr.mono (by decide)) (by rfl) pass0 (pa_cons (pv 0) (pa_cons (pv 3) pa_nil)))))))), ?_⟩
    try dsimp only [cxOf]
    walk_at "go"
    intro p1 n1
    refine g_tup st_same rfl ?_
    have e3 : ((n : Int) / 100) = ((n / 100 : Nat) : Int) := by omega
    have e4 : ((n : Int) % 100) = ((n % 100 : Nat) : Int) := by omega
    rw [e3, e4]
    have hT1 := hT.up (ex_new (o := .tup [.int ((n / 100 : Nat) : Int), .int ((n % 100 : Nat) : Int)]) n1)
    have b1 := sl_new (o := .tup [.int ((n / 100 : Nat) : Int), .int ((n % 100 : Nat) : Int)]) n1 b
    have a1 := st_new (o := .tup [.int ((n / 100 : Nat) : Int), .int ((n % 100 : Nat) : Int)]) n1 a
    walk_at "go"
    -- start
    have fin : ∀ (ys : List Str) (p2 : Addr), ys.length ≤ 2 → (upd H0 p1 (.tup [.int ((n / 100 : Nat) : Int), .int ((n % 100 : Nat) : Int)])) p2 = none → Ta.group n = ys ++ Ta.below (n % 100) →
        S (tRet (tOp rCat (tVar 4) (tCall (Sp_words_below_hundred K) [] E0 (tCons (tVar 0) (tCons (tVar 3) tNil))))) ⟨fun x H1 => UpH (fun H' => ∃ p, V.non = .ref p ∧ H0 p = none ∧ H' = upd H0 p (.lst ((Ta.group n).map V.str))) H1, fun v H1 => UpH (fun H' => ∃ p, v = .ref p ∧ H0 p = none ∧ H' = upd H0 p (.lst ((Ta.group n).map V.str))) H1, fun _ _ => False, fun _ _ => False⟩
          [some (.ref t), some (.int n), some (.int ((n / 100 : Nat) : Int)), some (.int ((n % 100 : Nat) : Int)), some (.ref p2)] (upd (upd H0 p1 (.tup [.int ((n / 100 : Nat) : Int), .int ((n % 100 : Nat) : Int)])) p2 (.lst (ys.map V.str))) := by
      intro ys p2 hy n2 hg
      walk_at "go"
      refine ⟨(t, Ta, n % 100), ⟨rfl, hT1.up (ex_new n2), h1, h2, by dsimp only; omega⟩, ?_⟩
      rintro v H2 ⟨p3, rfl, n3, rfl⟩
      dsimp only at *
      refine r_cat (up_new n3 upd_same) upd_same ?_ fun p4 n4 => ?_
      · rw [List.length_map, List.length_map, sizeLine_eq]
        have := below_len Ta (n % 100)
        omega
      · refine ⟨_, ⟨p4, rfl, (free_of (free_of (free_of n4).1).1).1, rfl⟩, ?_⟩
        rw [hg, List.map_append]
        exact ex_upd ((ex_new n1).trans ((ex_new n2).trans (ex_new n3)))
    refine ite2 (fun z => ?_) (fun z => ?_)
    · have e : 0 < n / 100 := by have := of_decide_eq_true z; omega
      walk_at "go"
      refine r_ixL b1 (at_str ?_ ?_) ?_
      · omega
      · omega
      walk_at "go"
      refine ⟨by walk_at "sz", fun p2 n2 => ?_⟩
      refine g_name ?_
      exact fin [Ta.one (n / 100), Ta.hundred] p2 (by simp) n2 (by unfold Tab.group; rw [if_pos e])
    · have e : ¬ 0 < n / 100 := fun q => z (decide_eq_true (by omega))
      walk_at "go"
      refine ⟨by walk_at "sz", fun p2 n2 => ?_⟩
      refine g_name ?_
      exact fin [] p2 (by simp) n2 (by unfold Tab.group; rw [if_neg e])
theorem ex_upd2 {A B : Hp} {p : Addr} {x : HO} (h : ∀ b o, b ≠ p → A b = some o → B b = some o) : Ex (upd A p x) (upd B p x) := fun b o e => by
  by_cases q : b = p
  · rw [q, upd_same] at e ⊢
    exact e
  · rw [upd_ne q] at e ⊢
    exact h b o q e
theorem ex_re {A : Hp} {p r : Addr} {x y z : HO} (h : upd A p x r = none) : Ex (upd A p y) (upd (upd (upd A p x) r z) p y) := ex_upd2 fun b o q e => by
  have e2 : upd A p x b = some o := up_ne q e
  exact up_new h e2
abbrev Sp_words_in (K : PySem.W.Frag) : Sp := Pr (fun (x : Addr × Tab × Nat) vs H => vs = [.ref x.1, .int x.2.2] ∧ TabAt K H x.1 x.2.1 ∧ x.2.1.Ok ∧ x.2.2 < 1000 ^ (x.2.1.scales.length + 1)) (fun x H v H' => ∃ p, v = .ref p ∧ H p = none ∧ H' = upd H p (.lst ((x.2.1.wordsIn x.2.2).map V.str)))
theorem group_len (T : Tab) (n : Nat) : (T.group n).length ≤ 4 := by
  unfold Tab.group
  rw [List.length_append]
  have := below_len T (n % 100)
  split <;> simp <;> omega
theorem part_len (T : Tab) (x : Nat × Nat) : (T.part x).length ≤ 5 := by
  unfold Tab.part
  rw [List.length_append]
  have := group_len T x.1
  split <;> simp <;> omega
theorem flat_len (T : Tab) : ∀ gs : List (Nat × Nat), (gs.flatMap T.part).length ≤ 5 * gs.length
  | [] => Nat.le_refl _
  | x :: r => by
    rw [List.flatMap_cons, List.length_append, List.length_cons]
    have h1 := part_len T x
    have h2 := flat_len T r
    omega
theorem flat_snoc (T : Tab) {gs : List (Nat × Nat)} {i : Nat} {x : Nat × Nat} (h : gs[i]? = some x) : (gs.take (i + 1)).flatMap T.part = (gs.take i).flatMap T.part ++ T.part x := by
  rw [take_snoc h, List.flatMap_append]
  simp
theorem lim_le {k n : Nat} (hk : k ≤ 20) (h : n < 1000 ^ (k + 1)) : n < 1000 ^ 100 := Nat.lt_of_lt_of_le h (Nat.pow_le_pow_right (by decide) (by omega))
theorem ok_words_in {f : Addr} {fd : FuncData} (F : Fun K "words_in" "words_in" s_words_in f fd) (T : Bi mg) (C : Cons K mg cc)
    (c_groups_of : CalF P w K mg base 1 "groups_of" ["number"] Sp_groups_of) (c_words_of_group : CalF P w K mg base 2 "words_of_group" ["table", "group"] (Sp_words_of_group K)) :
    FnOk P w K mg base CX0 3 f fd ["table", "number"] (Sp_words_in K) := by
  refine okP F sc_words_in (fun x vs H h => ?_) (fun cdv A outer s H E x vs H0 hr h => ?_)
  · rw [h.1]
    rfl
  · obtain ⟨t, Ta, n⟩ := x
    obtain ⟨rfl, hT, ok, hn⟩ := h
    dsimp only at *
    obtain ⟨o, te, sc, a, b, c, d⟩ := id hT
    refine ⟨_, (pss_cons (ps_if (pt_cmpR op_eq (pv 1) pe_int (nomark _))
      (pss_one (ps_ret (pe_lst (pa_cons (pe_ix ix_list (pe_ix ix_tup (pv 0) pe_int (fun _ _ => rfl)) pe_int (fun _ _ => rfl)) pa_nil))))
      pss_nil)
      (pss_cons (ps_set (i := 2) sc_words_in.nd rfl (Or.inl rfl) (pe_lst pa_nil))
      (pss_cons (ps_for PassesOwn.never rfl (pi_list (pe_cal c_groups_of (hr.mono (by decide)) (by rfl) pass0 (pa_cons (pv 1) pa_nil))) (pg_tup rfl (pgs_cons (pg_name (i := 3) sc_words_in.nd rfl (Or.inl rfl)) (pgs_cons (pg_name (i := 4) sc_words_in.nd rfl (Or.inl rfl)) pgs_nil)))
      (pss_cons (ps_expr (pe_bm PySem.F.plainAttrs_list PySem.F.slot_list_extend PySem.F.type_list_extend mt_extend (pv 2) (pa_cons (pe_cal c_words_of_group (hr.mono (by decide)) (by rfl) pass0 (pa_cons (pv 0) (pa_cons (pv 3) pa_nil))) pa_nil)))
      (pss_one (ps_if (pt_cmpR op_gt (pv 4) pe_int (nomark _))
      (pss_one (ps_expr (pe_bm PySem.F.plainAttrs_list PySem.F.slot_list_append PySem.F.type_list_append mt_append (pv 2) (pa_cons (pe_ix ix_list (pe_ix ix_tup (pv 0) pe_int (fun _ _ => rfl)) (pe_op op_sub (pv 4) pe_int) (fun _ _ => rfl)) pa_nil))))
      pss_nil))))
      (pss_one (ps_ret (pv 2)))))), ?_⟩
    try dsimp only [cxOf]
    walk_at "go"
    refine ite2 (fun z => ?_) (fun z => ?_)
    · have e : n = 0 := by have := V.int.inj (of_decide_eq_true z); omega
      walk_at "go"
      refine r_ixL b (at_str ?_ ?_) ?_
      · omega
      · rw [ok.o]; decide
      walk_at "go"
      refine ⟨by walk_at "sz", fun p np => ?_⟩
      refine ⟨_, ⟨p, rfl, np, ?_⟩, Ex.rf⟩
      unfold Tab.wordsIn
      rw [if_pos e]
      rfl
    · have e : n ≠ 0 := fun q => z (decide_eq_true (by rw [q]; rfl))
      walk_at "go"
      refine ⟨by walk_at "sz", fun p np => ?_⟩
      walk_at "go"
      refine s_forL ?_
      walk_at "go"
      refine ⟨n, ⟨rfl, lim_le ok.s hn⟩, ?_⟩
      rintro v H2 ⟨q, N, vs, rfl, ap, hq, hv, rfl⟩
      have ex0 : ∀ X, Ex H0 (upd (plus (upd H0 p (.lst [])) N) p X) := fun X => ex_mut ((ex_new np).trans ex_plus) np
      have Np : N p = none := ap.clear upd_same
      have hqp : q ≠ p := fun z => by rw [z, Np] at hq; cases hq
      have hgl : (grpsAt 0 n).length ≤ 21 := Nat.le_trans (grpsAt_len _ _ _ hn) (by have := ok.s; omega)
      refine ⟨q, vs, fun i σ' H' => ∃ z3 z4, σ' = [some (.ref t), some (.int n), some (.ref p), z3, z4] ∧ H' = upd (plus (upd H0 p (.lst [])) N) p (.lst ((((grpsAt 0 n).take i).flatMap Ta.part).map V.str)), rfl, Or.inl (Or.inl (ex_plusR ap _ _ hq)), ⟨none, none, rfl, (upd_self (plus_l upd_same)).symm⟩, fun i σ' H' hi h => ?_, fun i x σ' H' hi h => ?_, fun σ' H' h => ?_⟩
      · obtain ⟨z3, z4, rfl, rfl⟩ := h
        exact Or.inl (Or.inl (up_ne hqp (ex_plusR ap _ _ hq)))
      · obtain ⟨z3, z4, rfl, rfl⟩ := h
        obtain ⟨pi, g, j, rfl, hgi, hpi⟩ := hv.get hi
        have hpp : pi ≠ p := fun z => by rw [z, Np] at hpi; cases hpi
        obtain ⟨g0, g1, _, g3⟩ := grpsAt_mem n 0 (g, j) (List.mem_of_getElem? hgi)
        have hi21 : i < 21 := Nat.lt_of_lt_of_le (List.getElem?_eq_some_iff.mp hgi).1 hgl
        dsimp only at g0 g1 g3
        rw [Nat.sub_zero] at g3
        have hj : j ≤ Ta.scales.length := by
          have : j < Ta.scales.length + 1 := (Nat.pow_lt_pow_iff_right (a := 1000) (by decide)).mp (Nat.lt_of_le_of_lt g3 hn)
          omega
        have hX : (((grpsAt 0 n).take i).flatMap Ta.part).length ≤ 105 := by
          refine Nat.le_trans (flat_len _ _) ?_
          rw [List.length_take]
          omega
        refine g_tup (xs := [.int g, .int j]) (Or.inl (Or.inl (up_ne hpp (ex_plusR ap _ _ hpi)))) rfl ?_
        walk_at "go"
        refine ⟨Or.inl ⟨rfl, _, sl_same⟩, ?_⟩
        walk_at "go"
        refine ⟨(t, Ta, g), ⟨rfl, hT.up (ex0 _), ok.o, ok.t, g1⟩, ?_⟩
        rintro v H2 ⟨p3, rfl, n3, rfl⟩
        dsimp only at *
        have hp3 : p3 ≠ p := (free_of n3).2
        walk_at "go"
        refine m_extend (up_ne hp3.symm upd_same) upd_same ?_ ?_
        · rw [List.length_map, List.length_map, sizeLine_eq]
          have := group_len Ta g
          omega
        rw [← List.map_append]
        walk_at "go"
        have exs : Ex H0 (upd (upd (upd (plus (upd H0 p (.lst [])) N) p (.lst ((((grpsAt 0 n).take i).flatMap Ta.part).map V.str))) p3 (.lst ((Ta.group g).map V.str))) p (.lst ((((grpsAt 0 n).take i).flatMap Ta.part ++ Ta.group g).map V.str))) := ex_mut ((ex0 _).trans (ex_new n3)) np
        refine ite2 (fun z => ?_) (fun z => ?_)
        · have hj0 : 0 < j := by have := of_decide_eq_true z; omega
          have d' := Evl.ex_l exs d
          have a' := Evl.ex_t exs a
          walk_at "go"
          refine ⟨Or.inl ⟨rfl, _, sl_same⟩, ?_⟩
          walk_at "go"
          refine r_ixL d' (at_str ?_ ?_) ?_
          · omega
          · omega
          walk_at "go"
          refine m_append upd_same ?_ ?_
          · rw [List.length_map, List.length_append, sizeLine_eq]
            have := group_len Ta g
            omega
          have e5 : ((j : Int) - 1).toNat = j - 1 := by omega
          rw [e5, upd_upd]
          walk_at "go"
          refine ⟨_, ⟨_, _, rfl, rfl⟩, ?_⟩
          rw [flat_snoc Ta hgi, show Ta.part (g, j) = Ta.group g ++ [Ta.sca (j - 1)] from by unfold Tab.part; rw [if_pos hj0], ← List.append_assoc, List.map_append (l₂ := [Ta.sca (j - 1)])]
          exact ex_re n3
        · have hj0 : ¬ 0 < j := fun q => z (decide_eq_true (by omega))
          walk_at "go"
          refine ⟨_, ⟨_, _, rfl, rfl⟩, ?_⟩
          rw [flat_snoc Ta hgi, show Ta.part (g, j) = Ta.group g from by unfold Tab.part; rw [if_neg hj0, List.append_nil]]
          exact ex_re n3
      · obtain ⟨z3, z4, rfl, rfl⟩ := h
        walk_at "go"
        rw [hv.len, List.take_length]
        refine ⟨_, ⟨p, rfl, np, rfl⟩, ?_⟩
        unfold Tab.wordsIn
        rw [if_neg e]
        exact ex_upd ((ex_new np).trans ex_plus)
end
end Mb


namespace Mb
open PySem PyProof.Rows L2
open Evl (Ex)
/-! ### letters of names -/
def lets (l : List Str) : Nat := (l.map Str.length).sum
section
variable {P : Program} {w : World} {K : PySem.W.Frag} {mg : Str → Option Value} {base : Heap} {cc : Addr}
abbrev Sp_letters_of (K : PySem.W.Frag) : Sp := Pr (fun (x : Addr × List Str) vs H => vs = [.ref x.1] ∧ SqL K H x.1 (x.2.map V.str) ∧ x.2.length ≤ 1000 ∧ ∀ s ∈ x.2, s.length ≤ 1000) (fun x H v H' => v = .int (lets x.2) ∧ H' = H)
theorem sum_cast : ∀ l : List Nat, (l.map fun (n : Nat) => (n : Int)).sum = ((l.sum : Nat) : Int)
  | [] => rfl
  | x :: r => by rw [List.map_cons, List.sum_cons, List.sum_cons, sum_cast r]; omega
theorem ok_letters_of {f : Addr} {fd : FuncData} (F : Fun K "letters_of" "letters_of" s_letters_of f fd) (T : Bi mg) : FnOk P w K mg base CX0 1 f fd ["words"] (Sp_letters_of K) := by
  refine okP F sc_letters_of (fun x vs H h => ?_) (fun cdv A outer s H E x vs H0 hr h => ?_)
  · rw [h.1]
    rfl
  · obtain ⟨a, l⟩ := x
    obtain ⟨rfl, hS, hl, hz⟩ := h
    dsimp only at *
    refine ⟨_, (pss_one (ps_ret (pe_callB (cr_sum rfl) (by rfl) T.sum_ boot_sum (pa_cons (pe_lc (own := [("word", 1)]) (g := gName 1) (tt := tYes) rfl sc_letters_of.nd (pi_list (pv 0)) (blkOk_by (N := N_letters_of) (sc := defScope s_letters_of) (own := [("word", 1)]) (by decide +kernel)) (fun _ _ _ _ _ => (pg_name (i := 1) sc_letters_of.nd rfl (Or.inl rfl))) (fun _ _ _ _ _ => pts_nil) (fun _ _ _ _ _ => (pe_callB cr_lenZ (by rfl) T.len_ boot_len (pa_cons (pv 1) pa_nil)))) pa_nil)))), ?_⟩
    try dsimp only [cxOf]
    walk_at "go"
    refine w_lcL_map (a := a) (xs := l.map V.str) (fun v => match v with | .str s => .int (s.length : Int) | _ => .non) (fun _ => rfl) ?_
    walk_at "go"
    refine ⟨rfl, hS, ?_, fun x hx H' K' e k => ?_, fun p np => ?_⟩
    · rw [List.length_map, sizeLine_eq]; omega
    · obtain ⟨s, hs, rfl⟩ := List.mem_map.mp hx
      have := hz s hs
      walk_at "go"
      exact k
    · walk_at "go"
      refine c_sum (ns := l.map fun s => (s.length : Int)) ?_ ?_
      · rw [List.map_map, List.map_map]
        exact sl_same
      · refine ⟨_, ⟨?_, rfl⟩, ex_new np⟩
        unfold lets
        rw [← sum_cast, List.map_map]
        rfl
theorem isWord1000 {T : Tab} (ok : T.Ok) {x : Str} (h : x ∈ T.words) : x.length ≤ 20 := (isWord_len (ok.w x h)).2
theorem one_mem {T : Tab} (ok : T.Ok) {n : Nat} (h : n < 20) : T.one n ∈ T.words := by
  have e : T.one n = T.ones[n]'(by rw [ok.o]; exact h) := by
    unfold Tab.one
    rw [List.getD_eq_getElem?_getD, List.getElem?_eq_getElem (by rw [ok.o]; exact h)]
    rfl
  rw [e]
  unfold Tab.words
  simp [List.getElem_mem]
theorem ten_mem {T : Tab} (ok : T.Ok) {n : Nat} (h : n < 8) : T.ten n ∈ T.words := by
  have e : T.ten n = T.tens[n]'(by rw [ok.t]; exact h) := by
    unfold Tab.ten
    rw [List.getD_eq_getElem?_getD, List.getElem?_eq_getElem (by rw [ok.t]; exact h)]
    rfl
  rw [e]
  unfold Tab.words
  simp [List.getElem_mem]
theorem sca_mem {T : Tab} {n : Nat} (h : n < T.scales.length) : T.sca n ∈ T.words := by
  have e : T.sca n = T.scales[n] := by
    unfold Tab.sca
    rw [List.getD_eq_getElem?_getD, List.getElem?_eq_getElem h]
    rfl
  rw [e]
  unfold Tab.words
  simp [List.getElem_mem]
theorem hun_mem {T : Tab} : T.hundred ∈ T.words := by
  unfold Tab.words
  simp
theorem below_mem {T : Tab} (ok : T.Ok) {n : Nat} (h : n < 100) : ∀ x ∈ T.below n, x ∈ T.words := by
  intro x hx
  unfold Tab.below at hx
  by_cases h0 : n = 0
  · rw [if_pos h0] at hx
    cases hx
  rw [if_neg h0] at hx
  by_cases h1 : n < 20
  · rw [if_pos h1] at hx
    rw [List.mem_singleton.mp hx]
    exact one_mem ok h1
  rw [if_neg h1] at hx
  by_cases h2 : n % 10 = 0
  · rw [if_pos h2] at hx
    rw [List.mem_singleton.mp hx]
    exact ten_mem ok (by omega)
  rw [if_neg h2] at hx
  rcases List.mem_cons.mp hx with rfl | hx
  · exact ten_mem ok (by omega)
  · rw [List.mem_singleton.mp hx]
    exact one_mem ok (by omega)
theorem group_mem {T : Tab} (ok : T.Ok) {n : Nat} (h : n < 1000) : ∀ x ∈ T.group n, x ∈ T.words := by
  intro x hx
  unfold Tab.group at hx
  rcases List.mem_append.mp hx with hx | hx
  · by_cases h0 : 0 < n / 100
    · rw [if_pos h0] at hx
      rcases List.mem_cons.mp hx with rfl | hx
      · exact one_mem ok (by omega)
      · rw [List.mem_singleton.mp hx]
        exact hun_mem
    · rw [if_neg h0] at hx
      cases hx
  · exact below_mem ok (by omega) x hx
theorem wordsIn_mem {T : Tab} (ok : T.Ok) {n : Nat} (h : n < 1000 ^ (T.scales.length + 1)) : ∀ x ∈ T.wordsIn n, x ∈ T.words := by
  intro x hx
  unfold Tab.wordsIn at hx
  by_cases h0 : n = 0
  · rw [if_pos h0] at hx
    rw [List.mem_singleton.mp hx]
    exact one_mem ok (by decide)
  · rw [if_neg h0] at hx
    obtain ⟨⟨g, j⟩, hg, hx⟩ := List.mem_flatMap.mp hx
    obtain ⟨_, g1, _, g3⟩ := grpsAt_mem n 0 (g, j) hg
    dsimp only at g1 g3
    rw [Nat.sub_zero] at g3
    have hj : j < T.scales.length + 1 := (Nat.pow_lt_pow_iff_right (a := 1000) (by decide)).mp (Nat.lt_of_le_of_lt g3 h)
    unfold Tab.part at hx
    rcases List.mem_append.mp hx with hx | hx
    · exact group_mem ok g1 x hx
    · by_cases h0 : 0 < j
      · rw [if_pos h0] at hx
        rw [List.mem_singleton.mp hx]
        exact sca_mem (by dsimp only; omega)
      · rw [if_neg h0] at hx
        cases hx
theorem wordsIn_len {T : Tab} (ok : T.Ok) {n : Nat} (h : n < 1000 ^ (T.scales.length + 1)) : (T.wordsIn n).length ≤ 105 := by
  unfold Tab.wordsIn
  by_cases h0 : n = 0
  · rw [if_pos h0]
    simp
  · rw [if_neg h0]
    have h1 := flat_len T (grpsAt 0 n)
    have h2 := grpsAt_len _ _ 0 h
    have h3 := ok.s
    omega
abbrev Sp_letters_in (K : PySem.W.Frag) : Sp := Pr (fun (x : Addr × Tab × Nat) vs H => vs = [.ref x.1, .int x.2.2] ∧ TabAt K H x.1 x.2.1 ∧ x.2.1.Ok ∧ x.2.2 < 1000 ^ (x.2.1.scales.length + 1)) (fun x H v H' => v = .int (lets (x.2.1.wordsIn x.2.2)) ∧ H' = H)
theorem ok_letters_in {f : Addr} {fd : FuncData} (F : Fun K "letters_in" "letters_in" s_letters_in f fd) (T : Bi mg)
    (c_letters_of : CalF P w K mg base 1 "letters_of" ["words"] (Sp_letters_of K)) (c_words_in : CalF P w K mg base 3 "words_in" ["table", "number"] (Sp_words_in K)) : FnOk P w K mg base CX0 4 f fd ["table", "number"] (Sp_letters_in K) := by
  refine okP F sc_letters_in (fun x vs H h => ?_) (fun cdv A outer s H E x vs H0 hr h => ?_)
  · rw [h.1]
    rfl
  · obtain ⟨t, Ta, n⟩ := x
    obtain ⟨rfl, hT, ok, hn⟩ := h
    dsimp only at *
    refine ⟨_, (pss_one (ps_ret (pe_cal c_letters_of (hr.mono (by decide)) (by rfl) pass0 (pa_cons (pe_cal c_words_in (hr.mono (by decide)) (by rfl) pass0 (pa_cons (pv 0) (pa_cons (pv 1) pa_nil))) pa_nil)))), ?_⟩
    try dsimp only [cxOf]
    walk_at "go"
    refine ⟨(t, Ta, n), ⟨rfl, hT, ok, hn⟩, ?_⟩
    rintro v H2 ⟨p, rfl, np, rfl⟩
    walk_at "go"
    refine ⟨(p, Ta.wordsIn n), ⟨rfl, sl_same, by have := wordsIn_len ok hn; dsimp only; omega, fun s hs => by have := isWord1000 ok (wordsIn_mem ok hn s hs); omega⟩, ?_⟩
    rintro v H2 ⟨rfl, rfl⟩
    exact ⟨_, ⟨rfl, rfl⟩, ex_new np⟩
theorem ok_letters {f : Addr} {fd : FuncData} (F : Fun K "letters" "letters" s_letters f fd) (T : Bi mg)
    (c_check_table : CalF P w K mg base 2 "check_table" ["table"] (Pr (fun (x : Addr × Tab) vs H => vs = [.ref x.1] ∧ TabAt K H x.1 x.2 ∧ x.2.Ok) (fun x H v H' => v = .non ∧ H' = H)))
    (c_check_number : CalF P w K mg base 3 "check_number" ["table", "number"] (Sp_check_number K))
    (c_letters_in : CalF P w K mg base 4 "letters_in" ["table", "number"] (Sp_letters_in K)) : FnOk P w K mg base CX0 5 f fd ["table", "number"] (Sp_letters_in K) := by
  refine okP F sc_letters (fun x vs H h => ?_) (fun cdv A outer s H E x vs H0 hr h => ?_)
  · rw [h.1]
    rfl
  · obtain ⟨t, Ta, n⟩ := x
    obtain ⟨rfl, hT, ok, hn⟩ := h
    dsimp only at *
    refine ⟨_, (pss_cons (ps_expr (pe_cal c_check_table (hr.mono (by decide)) (by rfl) pass0 (pa_cons (pv 0) pa_nil)))
      (pss_cons (ps_expr (pe_cal c_check_number (hr.mono (by decide)) (by rfl) pass0 (pa_cons (pv 0) (pa_cons (pv 1) pa_nil))))
      (pss_one (ps_ret (pe_cal c_letters_in (hr.mono (by decide)) (by rfl) pass0 (pa_cons (pv 0) (pa_cons (pv 1) pa_nil))))))), ?_⟩
    try dsimp only [cxOf]
    walk_at "go"
    refine ⟨(t, Ta), ⟨rfl, hT, ok⟩, ?_⟩
    rintro v H2 ⟨rfl, rfl⟩
    walk_at "go"
    refine ⟨(t, Ta, (n : Int)), ⟨rfl, hT, ok.s, Int.natCast_nonneg _, by show (n : Int) < 1000 ^ (Ta.scales.length + 1); have : ((n : Nat) : Int) < ((1000 ^ (Ta.scales.length + 1) : Nat) : Int) := Int.ofNat_lt.mpr hn; simpa using this⟩, ?_⟩
    rintro v H2 ⟨rfl, rfl⟩
    walk_at "go"
    refine ⟨(t, Ta, n), ⟨rfl, hT, ok, hn⟩, ?_⟩
    rintro v H2 ⟨rfl, rfl⟩
    exact ⟨_, ⟨rfl, rfl⟩, Ex.rf⟩
end
end Mb


namespace Mb
open PySem PyProof.Rows L2
open Evl (Ex)
/-! ### the law's source of draws -/
structure Sst where
  ds : List Int
  left : Int
  mix : Int
  cnt : Int
structure Sst.Ok (B : Int) (s : Sst) : Prop where
  m0 : 0 ≤ s.mix
  m1 : s.mix < 2305843009213693951
  c0 : 0 ≤ s.cnt
  c1 : s.cnt ≤ B
def SrcH (H : Hp) (a dg : Addr) (s : Sst) : Hp := upd (upd H dg (.lst (s.ds.map V.int))) a (.lst [.ref dg, .int s.left, .int s.mix, .int s.cnt])
theorem src_a {H : Hp} {a dg : Addr} {s : Sst} : SrcH H a dg s a = some (.lst [.ref dg, .int s.left, .int s.mix, .int s.cnt]) := upd_same
theorem src_dg {H : Hp} {a dg : Addr} {s : Sst} (h : a ≠ dg) : SrcH H a dg s dg = some (.lst (s.ds.map V.int)) := up_ne h.symm upd_same
theorem src_ex {H : Hp} {a dg : Addr} {s : Sst} (ha : H a = none) (hd : H dg = none) : Ex H (SrcH H a dg s) := ex_mut (ex_mut Ex.rf hd) ha
theorem src_free {H : Hp} {a dg q : Addr} {s : Sst} (h : SrcH H a dg s q = none) : H q = none ∧ q ≠ a ∧ q ≠ dg := by
  obtain ⟨h1, h2⟩ := free_of h
  obtain ⟨h3, h4⟩ := free_of h1
  exact ⟨h3, h2, h4⟩
/-- what is laid beside the source -/
theorem src_push {H : Hp} {a dg q : Addr} {s : Sst} {o : HO} (h1 : q ≠ a) (h2 : q ≠ dg) : upd (SrcH H a dg s) q o = SrcH (upd H q o) a dg s := by
  unfold SrcH
  rw [upd_comm h1.symm, upd_comm h2.symm]
theorem src_plus {H N : Hp} {a dg : Addr} {s : Sst} : plus (SrcH H a dg s) N = SrcH (plus H N) a dg s := by
  unfold SrcH
  rw [plus_upd, plus_upd]
theorem src_up {H H' : Hp} {a dg : Addr} {s : Sst} (e : Ex H H') : Ex (SrcH H a dg s) (SrcH H' a dg s) := ex_upd (ex_upd e)
/-- where the source stands: beside all else -/
structure Beside (H : Hp) (a dg : Addr) : Prop where
  na : H a = none
  nd : H dg = none
  ne : a ≠ dg
theorem Beside.upd {H : Hp} {a dg q : Addr} {o : HO} (b : Beside H a dg) (h1 : q ≠ a) (h2 : q ≠ dg) : Beside (upd H q o) a dg := ⟨up_free h1.symm b.na, up_free h2.symm b.nd, b.ne⟩
theorem Beside.plus {H N : Hp} {a dg : Addr} {s : Sst} (b : Beside H a dg) (ap : Apart (SrcH H a dg s) N) : Beside (plus H N) a dg :=
  ⟨plus_none b.na (ap.clear src_a), plus_none b.nd (ap.clear (src_dg b.ne)), b.ne⟩
theorem Apart.src {H N : Hp} {a dg : Addr} {s : Sst} (b : Beside H a dg) (ap : Apart (SrcH H a dg s) N) : Apart H N := ap.mono (src_ex b.na b.nd)
section
variable {P : Program} {w : World} {K : PySem.W.Frag} {mg : Str → Option Value} {base : Heap} {cc : Addr}
abbrev Sp_law_source (K : PySem.W.Frag) : Sp := Pr (fun (x : Addr × List Int) vs H => vs = [.ref x.1] ∧ SqL K H x.1 (x.2.map V.int) ∧ x.2.length ≤ 63) (fun x H v H' => ∃ a dg s, v = .ref a ∧ Beside H a dg ∧ s.Ok 0 ∧ H' = SrcH H a dg s)
theorem ok_law_source {f : Addr} {fd : FuncData} (F : Fun K "_law_source" "_law_source" s_law_source f fd) (T : Bi mg) : FnOk P w K mg base CX0 1 f fd ["script"] (Sp_law_source K) := by
  refine okP F sc_law_source (fun x vs H h => ?_) (fun cdv A outer s H E x vs H0 hr h => ?_)
  · rw [h.1]
    rfl
  · obtain ⟨a, ns⟩ := x
    obtain ⟨rfl, hS, hl⟩ := h
    dsimp only at *
    refine ⟨_, (pss_cons (ps_set (i := 1) sc_law_source.nd rfl (Or.inl rfl) pe_int)
      (pss_cons (ps_set (i := 2) sc_law_source.nd rfl (Or.inl rfl) (pe_lst pa_nil))
      (pss_cons (ps_for PassesOwn.never rfl (pi_list (pv 0)) (pg_name (i := 3) sc_law_source.nd rfl (Or.inl rfl))
      (pss_cons (ps_set (i := 1) sc_law_source.nd rfl (Or.inl rfl) (pe_op op_mod (pe_op op_add (pe_op op_mul (pv 1) pe_int) (pv 3)) (pe_op op_sub (pe_op op_pow pe_int pe_int) pe_int)))
      (pss_cons (ps_set (i := 4) sc_law_source.nd rfl (Or.inl rfl) (pe_callB (cr_max2 rfl) (by rfl) T.max_ boot_max (pa_cons (pv 3) (pa_cons (pe_op op_sub pe_int (pv 3)) pa_nil))))
      (pss_one (ps_if (pt_cmpR op_ge (pv 4) (pe_op op_pow pe_int pe_int) (nomark _))
      (pss_one (ps_expr (pe_bm PySem.F.plainAttrs_list PySem.F.slot_list_append PySem.F.type_list_append mt_append (pv 2) (pa_cons (pe_op op_sub (pv 4) (pe_op op_pow pe_int pe_int)) pa_nil))))
      pss_nil)))))
      (pss_one (ps_ret (pe_lst (pa_cons (pv 2) (pa_cons pe_int (pa_cons (pv 1) (pa_cons pe_int pa_nil)))))))))), ?_⟩
    try dsimp only [cxOf]
    walk_at "go"
    refine ⟨by walk_at "sz", fun dg nd => ?_⟩
    walk_at "go"
    refine s_forL ?_
    walk_at "go"
    refine ⟨a, ns.map V.int, fun i σ' H' => ∃ (mix : Int) (ds : List Int) (z3 z4 : Option V), σ' = [some (.ref a), some (.int mix), some (.ref dg), z3, z4] ∧ 0 ≤ mix ∧ mix < 2305843009213693951 ∧ ds.length ≤ i ∧ H' = upd H0 dg (.lst (ds.map V.int)), rfl, sl_new nd hS, ⟨_, [], none, none, rfl, by decide, by decide, Nat.le_refl _, rfl⟩, fun i σ' H' hi h => ?_, fun i x σ' H' hi h => ?_, fun σ' H' h => ?_⟩
    · obtain ⟨mix, ds, z3, z4, rfl, m0, m1, hd, rfl⟩ := h
      exact sl_new nd hS
    · obtain ⟨mix, ds, z3, z4, rfl, m0, m1, hd, rfl⟩ := h
      obtain ⟨c, hc, rfl⟩ := map_get hi
      have hi63 : i < 63 := Nat.lt_of_lt_of_le (List.getElem?_eq_some_iff.mp hc).1 hl
      have e61 : (2 : Int) ^ Int.toNat 61 - 1 = 2305843009213693951 := by decide
      have k0 : 0 ≤ (mix * 1000033 + c) % (2 ^ Int.toNat 61 - 1) := Int.emod_nonneg _ (by rw [e61]; decide)
      have k1 : (mix * 1000033 + c) % (2 ^ Int.toNat 61 - 1) < 2305843009213693951 := by
        have := Int.emod_lt_of_pos (mix * 1000033 + c) (show (0 : Int) < 2 ^ Int.toNat 61 - 1 by rw [e61]; decide)
        rw [e61] at this ⊢
        exact this
      walk_at "go"
      refine ite2 (fun z => ?_) (fun z => ?_)
      · walk_at "go"
        refine ⟨Or.inl ⟨rfl, _, sl_same⟩, ?_⟩
        walk_at "go"
        refine m_append upd_same ?_ ?_
        · rw [List.length_map, sizeLine_eq]; omega
        rw [upd_upd]
        refine ⟨_, ⟨_, ds ++ [(if 0 - c > c then 0 - c else c) - 10 ^ Int.toNat 18], _, _, rfl, k0, k1, ?_, rfl⟩, ?_⟩
        · rw [List.length_append, List.length_singleton]; omega
        · rw [List.map_append]
          exact Ex.rf
      · walk_at "go"
        exact ⟨_, ⟨_, ds, _, _, rfl, k0, k1, by omega, rfl⟩, Ex.rf⟩
    · obtain ⟨mix, ds, z3, z4, rfl, m0, m1, hd, rfl⟩ := h
      walk_at "go"
      refine ⟨by walk_at "sz", fun b nb => ?_⟩
      obtain ⟨nb0, nbd⟩ := free_of nb
      exact ⟨_, ⟨b, dg, ⟨ds, 0, mix, 0⟩, rfl, ⟨nb0, nd, nbd⟩, ⟨m0, m1, Int.le_refl _, Int.le_refl _⟩, rfl⟩, Ex.rf⟩
structure DrawA where
  a : Addr
  dg : Addr
  s : Sst
  H0 : Hp
  n : Int
  B : Int
abbrev Sp_law_draw : Sp := Pr (fun (x : DrawA) vs H => vs = [.ref x.a, .int x.n] ∧ Ex (SrcH x.H0 x.a x.dg x.s) H ∧ Beside x.H0 x.a x.dg ∧ x.s.Ok x.B ∧ x.B ≤ 1000000000 ∧ 0 < x.n ∧ x.n.natAbs.log2 < 9000) (fun x _ v H' => ∃ (z : Int) (s : Sst), v = .int z ∧ 0 ≤ z ∧ z < x.n ∧ s.Ok (x.B + 1) ∧ H' = SrcH x.H0 x.a x.dg s)
theorem ok_law_draw {f : Addr} {fd : FuncData} (F : Fun K "_law_draw" "_law_draw" s_law_draw f fd) (T : Bi mg) : FnOk P w K mg base CX0 1 f fd ["source", "wide"] Sp_law_draw := by
  refine okP F sc_law_draw (fun x vs H h => ?_) (fun cdv A outer s H E x vs H0 hr h => ?_)
  · rw [h.1]
    rfl
  · obtain ⟨a, dg, st, Hb, n, B⟩ := x
    obtain ⟨rfl, ex, bs, ok, hB, hn, hn2⟩ := h
    dsimp only at *
    refine ⟨_, (pss_cons (ps_while PassesOwn.never (PW.pt (pw_and (pt_cmpR op_lt (pe_ix ix_list (pv 0) pe_int (fun _ _ => rfl)) pe_int (nomark _)) (pw_and1 (pt_cmpR (op_neD hr.units) (pe_ix ix_list (pv 0) pe_int (fun _ _ => rfl)) (pe_lst pa_nil) (nomark _)))))
      (pss_one (ps_asg (pe_bm PySem.F.plainAttrs_list PySem.F.slot_list_pop PySem.F.type_list_pop mt_popAt (pe_ix ix_list (pv 0) pe_int (fun _ _ => rfl)) (pa_cons pe_int pa_nil)) (pg_sub (pv 0) pe_int set_list))))
      (pss_cons (ps_if (pt_cmpR op_ge (pe_ix ix_list (pv 0) pe_int (fun _ _ => rfl)) pe_int (nomark _))
      (pss_cons (ps_set (i := 2) sc_law_draw.nd rfl (Or.inl rfl) (pe_op op_mod (pe_ix ix_list (pv 0) pe_int (fun _ _ => rfl)) (pv 1)))
      (pss_cons (ps_asg (pe_op op_fdivW (pe_ix ix_list (pv 0) pe_int (fun _ _ => rfl)) (pv 1)) (pg_sub (pv 0) pe_int set_list))
      (pss_one (ps_ret (pv 2)))))
      pss_nil)
      (pss_cons (ps_asg (pe_op op_add (pe_ix ix_list (pv 0) pe_int (fun _ _ => rfl)) pe_int) (pg_sub (pv 0) pe_int set_list))
      (pss_cons (ps_set (i := 3) sc_law_draw.nd rfl (Or.inl rfl) (pe_op op_mul (pe_op op_add (pe_ix ix_list (pv 0) pe_int (fun _ _ => rfl)) pe_int) (pe_op op_pow (pe_op op_add (pe_ix ix_list (pv 0) pe_int (fun _ _ => rfl)) pe_int) pe_int)))
      (pss_cons (ps_set (i := 3) sc_law_draw.nd rfl (Or.inl rfl) (pe_op op_mod (pe_op op_add (pv 3) (pe_op op_mul pe_int (pe_ix ix_list (pv 0) pe_int (fun _ _ => rfl)))) (pe_op op_sub (pe_op op_pow pe_int pe_int) pe_int)))
      (pss_one (ps_ret (pe_op op_mod (pe_op op_fdivW (pe_op op_mod (pe_op op_pow (pv 3) pe_int) (pe_op op_add (pe_op op_pow pe_int pe_int) pe_int)) pe_int) (pv 1))))))))), S.ext ex ?_⟩
    try dsimp only [cxOf]
    walk_at "go"
    refine s_while (fun m σ' H' => ∃ s' : Sst, σ' = [some (.ref a), some (.int n), none, none] ∧ s'.ds.length = m ∧ s'.Ok B ∧ H' = SrcH Hb a dg s') st.ds.length ⟨st, rfl, rfl, ok, rfl⟩ (fun m σ' H' h => ?_)
    obtain ⟨s', rfl, rfl, ok', rfl⟩ := h
    have sA : SqL K (SrcH Hb a dg s') a [.ref dg, .int s'.left, .int s'.mix, .int s'.cnt] := Or.inl (Or.inl src_a)
    -- behind the loop
    have tail : S (tSeq (tIfS (tTest (tOp (rI0 fun i j => V.bl (decide (j ≤ i))) (tOp (rIxL K) (tVar 0) (tC (V.int 1))) (tC (V.int 2))))
        (tSeq (tAsg (tOp (rI (fun x j => 0 < j) fun i j => V.int (i % j)) (tOp (rIxL K) (tVar 0) (tC (V.int 1))) (tVar 1)) (gName 2))
          (tSeq (tAsg (tOp (rI CDivW fun i j => V.int (i / j)) (tOp (rIxL K) (tVar 0) (tC (V.int 1))) (tVar 1)) (gSub (tVar 0) (tC (V.int 1)) rSetL)) (tRet (tVar 2))))
        tNext) (tSeq (tAsg (tOp (rI0 fun i j => V.int (i + j)) (tOp (rIxL K) (tVar 0) (tC (V.int 3))) (tC (V.int 1))) (gSub (tVar 0) (tC (V.int 3)) rSetL))
          (tSeq (tAsg (tOp (rI CMul fun i j => V.int (i * j)) (tOp (rI0 fun i j => V.int (i + j)) (tOp (rIxL K) (tVar 0) (tC (V.int 2))) (tC (V.int 7))) (tOp (rI CPow fun i j => V.int (i ^ j.toNat)) (tOp (rI0 fun i j => V.int (i + j)) (tOp (rIxL K) (tVar 0) (tC (V.int 3))) (tC (V.int 3))) (tC (V.int 3)))) (gName 3))
            (tSeq (tAsg (tOp (rI (fun x j => 0 < j) fun i j => V.int (i % j)) (tOp (rI0 fun i j => V.int (i + j)) (tVar 3) (tOp (rI CMul fun i j => V.int (i * j)) (tC (V.int 1000081)) (tOp (rIxL K) (tVar 0) (tC (V.int 3))))) (tOp (rI0 fun i j => V.int (i - j)) (tOp (rI CPow fun i j => V.int (i ^ j.toNat)) (tC (V.int 2)) (tC (V.int 61))) (tC (V.int 1)))) (gName 3))
              (tRet (tOp (rI (fun x j => 0 < j) fun i j => V.int (i % j)) (tOp (rI CDivW fun i j => V.int (i / j)) (tOp (rI (fun x j => 0 < j) fun i j => V.int (i % j)) (tOp (rI CPow fun i j => V.int (i ^ j.toNat)) (tVar 3) (tC (V.int 5))) (tOp (rI0 fun i j => V.int (i + j)) (tOp (rI CPow fun i j => V.int (i ^ j.toNat)) (tC (V.int 10)) (tC (V.int 18))) (tC (V.int 9)))) (tC (V.int 128))) (tVar 1)))))))
        ⟨fun x H1 => UpH (fun H' => ∃ z s, V.non = V.int z ∧ 0 ≤ z ∧ z < n ∧ Sst.Ok (B + 1) s ∧ H' = SrcH Hb a dg s) H1, fun v H1 => UpH (fun H' => ∃ z s, v = V.int z ∧ 0 ≤ z ∧ z < n ∧ Sst.Ok (B + 1) s ∧ H' = SrcH Hb a dg s) H1, fun _ _ => False, fun _ _ => False⟩
        [some (.ref a), some (.int n), none, none] (SrcH Hb a dg s') := by
      walk_at "go"
      refine ite2 (fun z => ?_) (fun z => ?_)
      · walk_at "go"
        refine g_setL (l := a) (xs := []) (i := 0) (j := 0) ?_
        walk_at "go"
        refine ⟨_, _, 1, rfl, rfl, src_a, rfl, ?_⟩
        unfold SrcH
        rw [upd_upd]
        walk_at "go"
        exact ⟨_, ⟨_, ⟨s'.ds, s'.left / n, s'.mix, s'.cnt⟩, rfl, Int.emod_nonneg _ (by omega), Int.emod_lt_of_pos _ hn, ⟨ok'.m0, ok'.m1, ok'.c0, by have := ok'.c1; dsimp only; omega⟩, rfl⟩, Ex.rf⟩
      · walk_at "go"
        refine g_setL (l := a) (xs := []) (i := 0) (j := 0) ?_
        walk_at "go"
        refine ⟨_, _, 3, rfl, rfl, src_a, rfl, ?_⟩
        have e1 : upd (SrcH Hb a dg s') a (.lst ([V.ref dg, .int s'.left, .int s'.mix, .int s'.cnt].set 3 (.int (s'.cnt + 1)))) = SrcH Hb a dg ⟨s'.ds, s'.left, s'.mix, s'.cnt + 1⟩ := upd_upd
        rw [e1]
        have sA1 : SqL K (SrcH Hb a dg ⟨s'.ds, s'.left, s'.mix, s'.cnt + 1⟩) a [.ref dg, .int s'.left, .int s'.mix, .int (s'.cnt + 1)] := Or.inl (Or.inl src_a)
        have c0 := ok'.c0
        have c1 := ok'.c1
        have m0 := ok'.m0
        have m1 := ok'.m1
        walk_at "go"
        generalize hy : ((s'.mix + 7) * (s'.cnt + 1 + 3) ^ Int.toNat 3 + 1000081 * (s'.cnt + 1)) % (2 ^ Int.toNat 61 - 1) = y
        have e61 : (2 : Int) ^ Int.toNat 61 - 1 = 2305843009213693951 := by decide
        rw [e61] at hy
        have y0 : 0 ≤ y := by rw [← hy]; exact Int.emod_nonneg _ (by decide)
        have y1 : y < 2305843009213693951 := by rw [← hy]; exact Int.emod_lt_of_pos _ (by decide)
        refine r_I (C := CPow) ⟨by decide, by decide, by omega⟩ ?_
        walk_at "go"
        refine r_I (C := CDivW) ⟨by decide, by decide⟩ ?_
        walk_at "go"
        refine ⟨_, ⟨_, ⟨s'.ds, s'.left, s'.mix, s'.cnt + 1⟩, rfl, Int.emod_nonneg _ (by omega), Int.emod_lt_of_pos _ hn, ⟨m0, m1, by dsimp only; omega, by dsimp only; omega⟩, rfl⟩, Ex.rf⟩
    walk_at "go"
    refine ite2 (fun z => ?_) (fun z => ?_)
    · walk_at "go"
      refine ⟨by decide, fun p np => ?_⟩
      refine r_ned (d := .list (s'.ds.map PyData.int)) (e := .list []) ?_ ?_ (shaped_ints _) rfl ?_
      · exact .lst (Or.inl (Or.inl (up_new np (src_dg bs.ne)))) (dpInts _)
      · exact .lst (Or.inl (Or.inl upd_same)) .nil
      rw [eqv_nil]
      refine ⟨_, rfl, ?_⟩
      refine ite2 (fun z2 => ?_) (fun z2 => ?_)
      · refine S.ext (ex_new np) ?_
        obtain ⟨ds, left, mix, cnt⟩ := s'
        cases ds with
        | nil => cases z2
        | cons d r =>
          dsimp only at *
          walk_at "go"
          refine ⟨Or.inl ⟨rfl, _, Or.inl (Or.inl (src_dg bs.ne))⟩, ?_⟩
          walk_at "go"
          refine m_popAt (src_dg bs.ne) (by decide) (by decide) (j := 0) (by simp [seqIndex?]) rfl ?_
          have e1 : upd (SrcH Hb a dg ⟨d :: r, left, mix, cnt⟩) dg (.lst (((d :: r).map V.int).eraseIdx 0)) = SrcH Hb a dg ⟨r, left, mix, cnt⟩ := by
            unfold SrcH
            rw [upd_comm bs.ne, upd_upd]
            rfl
          rw [e1]
          refine g_setL (l := a) (xs := []) (i := 0) (j := 0) ?_
          walk_at "go"
          refine ⟨_, _, 1, rfl, rfl, src_a, rfl, ?_⟩
          have e2 : upd (SrcH Hb a dg ⟨r, left, mix, cnt⟩) a (.lst ([V.ref dg, .int left, .int mix, .int cnt].set 1 (.int d))) = SrcH Hb a dg ⟨r, d, mix, cnt⟩ := upd_upd
          rw [e2]
          exact ⟨r.length, Nat.lt_succ_self _, _, ⟨⟨r, d, mix, cnt⟩, rfl, rfl, ⟨ok'.m0, ok'.m1, ok'.c0, ok'.c1⟩, rfl⟩, Ex.rf⟩
      · exact S.ext (ex_new np) tail
    · exact tail
end
end Mb


namespace Mb
open PySem PyProof.Rows L2
open Evl (Ex)
/-! ### the law's comparison, on equal data -/
def Eqd (K : PySem.W.Frag) : Nat → Hp → V → V → Prop
  | 0, _, x, y => (x = .non ∧ y = .non) ∨ (∃ b, x = .bl b ∧ y = .bl b) ∨ (∃ i, x = .int i ∧ y = .int i) ∨ ∃ z, x = .str z ∧ y = .str z
  | n + 1, H, x, y => Eqd K 0 H x y ∨ ∃ p q xs ys, x = .ref p ∧ y = .ref q ∧ ((SqL K H p xs ∧ SqL K H q ys) ∨ (SqT K H p xs ∧ SqT K H q ys)) ∧ xs.length = ys.length ∧ (ys.length : Int) < 16777216 ∧ ∀ (i : Nat) a b, xs[i]? = some a → ys[i]? = some b → Eqd K n H a b
theorem Eqd.up {K : PySem.W.Frag} {H H' : Hp} (e : Ex H H') : ∀ (n : Nat) (x y : V), Eqd K n H x y → Eqd K n H' x y
  | 0, x, y, h => by
    unfold Eqd at h ⊢
    exact h
  | n + 1, x, y, h => by
    rw [Eqd] at h ⊢
    rcases h with h | ⟨p, q, xs, ys, a, b, c, d, f, g⟩
    · exact Or.inl (Eqd.up e 0 _ _ h)
    · refine Or.inr ⟨p, q, xs, ys, a, b, ?_, d, f, fun i u v h1 h2 => Eqd.up e n u v (g i u v h1 h2)⟩
      rcases c with ⟨c1, c2⟩ | ⟨c1, c2⟩
      · exact Or.inl ⟨Evl.ex_l e c1, Evl.ex_l e c2⟩
      · exact Or.inr ⟨Evl.ex_t e c1, Evl.ex_t e c2⟩
theorem r_ixA {Kf : PySem.W.Frag} {H : Hp} {K : KV} {p : Addr} {xs : List V} {i : Int} {v : V} (h : SqL Kf H p xs ∨ SqT Kf H p xs) (he : atI xs i = some v) (k : K v H) : WR (rIx Kf) (.ref p) (.int i) H K := fun H1 e Q q => by
  rcases h with h | h
  · exact Or.inl ⟨p, xs, i, v, rfl, rfl, Evl.ex_l e h, he, q _ _ _ k e⟩
  · exact Or.inr (Or.inl ⟨p, xs, i, v, rfl, rfl, Evl.ex_t e h, he, q _ _ _ k e⟩)
theorem c_lenA {Kf : PySem.W.Frag} {H : Hp} {K : KV} {p : Addr} {xs : List V} (h : SqL Kf H p xs ∨ SqT Kf H p xs) (k : K (.int xs.length) H) : WC (rLenS Kf) [.ref p] H K := fun H1 e Q q =>
  ⟨p, xs, rfl, h.elim (fun z => Or.inl (Evl.ex_l e z)) (fun z => Or.inr (Evl.ex_t e z)), q _ _ _ k e⟩
theorem ty_l {K : PySem.W.Frag} {H : Hp} {p : Addr} {xs : List V} (h : SqL K H p xs) : TyX K H (.ref p) (.type "list") := by
  rcases h with (h | ⟨o, h⟩) | ⟨o, its, n, h, hc, _⟩
  · exact .base (.lst h)
  · exact .base (.frz h)
  · exact .kList h hc
theorem ty_t {K : PySem.W.Frag} {H : Hp} {p : Addr} {xs : List V} (h : SqT K H p xs) : TyX K H (.ref p) (.type "tuple") := by
  rcases h with (h | ⟨o, h⟩) | ⟨o, its, n, h, hc, _⟩
  · exact .base (.tup h)
  · exact .fTuple h
  · exact .kTuple h hc
section
variable {P : Program} {w : World} {K : PySem.W.Frag} {mg : Str → Option Value} {base : Heap} {cc : Addr}
theorem FnOk.never {CX : CXT} {k : Nat} {f : Addr} {fd : FuncData} {ps : List Str} : FnOk P w K mg base CX k f fd ps (fun _ _ _ _ => False) := ⟨fun _ _ _ _ z => z.elim, fun _ _ _ _ _ _ _ _ _ _ _ _ _ z => z.elim⟩
abbrev Sp_law_same (K : PySem.W.Frag) (n : Nat) : Sp := Pr (fun (x : V × V) vs H => vs = [x.1, x.2] ∧ Eqd K n H x.1 x.2) (fun _ H v H' => v = .bl true ∧ H' = H)
theorem ok_law_same0 {f : Addr} {fd : FuncData} {sp : Sp} {k : Nat} (F : Fun K "_law_same" "_law_same" s_law_same f fd) (T : Bi mg) (c__law_same : CalF P w K mg base k "_law_same" ["found", "due"] sp) : FnOk P w K mg base CX0 (k + 1) f fd ["found", "due"] (Sp_law_same K 0) := by
  refine okP F sc_law_same (fun x vs H h => ?_) (fun cdv A outer s H E x vs H0 hr h => ?_)
  · rw [h.1]
    rfl
  · obtain ⟨u, v⟩ := x
    obtain ⟨rfl, hd⟩ := h
    dsimp only at *
    refine ⟨_, (pss_cons (ps_if (pt_cmpR op_isN (pv 1) pe_non (nomark _))
      (pss_one (ps_ret (pe_cmpR op_isN (pv 0) pe_non (nomark _))))
      pss_nil)
      (pss_cons (ps_if (pt_val (pe_callB call_isi (by rfl) T.isinstance_ boot_isinstance (pa_cons (pv 1) (pa_cons (pe_bltn (v := .ty "bool") (by rfl) T.bool_ boot_bool rfl) pa_nil))))
      (pss_one (ps_ret (pe_and (pe_callB call_isi (by rfl) T.isinstance_ boot_isinstance (pa_cons (pv 0) (pa_cons (pe_bltn (v := .ty "bool") (by rfl) T.bool_ boot_bool rfl) pa_nil))) (pe_one (pe_cmpR op_eq (pv 0) (pv 1) (nomark _))))))
      pss_nil)
      (pss_cons (ps_if (pt_val (pe_callB call_isi (by rfl) T.isinstance_ boot_isinstance (pa_cons (pv 1) (pa_cons (pe_bltn (v := .ty "int") (by rfl) T.int_ boot_int rfl) pa_nil))))
      (pss_one (ps_ret (pe_and (pe_callB call_isi (by rfl) T.isinstance_ boot_isinstance (pa_cons (pv 0) (pa_cons (pe_bltn (v := .ty "int") (by rfl) T.int_ boot_int rfl) pa_nil))) (pe_and (pe_not (pe_callB call_isi (by rfl) T.isinstance_ boot_isinstance (pa_cons (pv 0) (pa_cons (pe_bltn (v := .ty "bool") (by rfl) T.bool_ boot_bool rfl) pa_nil)))) (pe_one (pe_cmpR op_eq (pv 0) (pv 1) (nomark _)))))))
      pss_nil)
      (pss_cons (ps_if (pt_val (pe_callB call_isi (by rfl) T.isinstance_ boot_isinstance (pa_cons (pv 1) (pa_cons (pe_bltn (v := .ty "str") (by rfl) T.str_ boot_str rfl) pa_nil))))
      (pss_one (ps_ret (pe_and (pe_callB call_isi (by rfl) T.isinstance_ boot_isinstance (pa_cons (pv 0) (pa_cons (pe_bltn (v := .ty "str") (by rfl) T.str_ boot_str rfl) pa_nil))) (pe_one (pe_cmpR op_eq (pv 0) (pv 1) (nomark _))))))
      pss_nil)
      (pss_cons (ps_if (pt_cmpR op_ne (pe_callB call_isi (by rfl) T.isinstance_ boot_isinstance (pa_cons (pv 0) (pa_cons (pe_bltn (v := .ty "list") (by rfl) T.list_ boot_list rfl) pa_nil))) (pe_callB call_isi (by rfl) T.isinstance_ boot_isinstance (pa_cons (pv 1) (pa_cons (pe_bltn (v := .ty "list") (by rfl) T.list_ boot_list rfl) pa_nil))) (nomark _))
      (pss_one (ps_ret pe_bl))
      pss_nil)
      (pss_cons (ps_if (PW.pt (pw_or (pt_cmpR op_ne (pe_callB call_isi (by rfl) T.isinstance_ boot_isinstance (pa_cons (pv 0) (pa_cons (pe_bltn (v := .ty "tuple") (by rfl) T.tuple_ boot_tuple rfl) pa_nil))) (pe_callB call_isi (by rfl) T.isinstance_ boot_isinstance (pa_cons (pv 1) (pa_cons (pe_bltn (v := .ty "tuple") (by rfl) T.tuple_ boot_tuple rfl) pa_nil))) (nomark _)) (pw_or1 (pt_cmpR op_ne (pe_callB cr_lenS (by rfl) T.len_ boot_len (pa_cons (pv 0) pa_nil)) (pe_callB cr_lenS (by rfl) T.len_ boot_len (pa_cons (pv 1) pa_nil)) (nomark _)))))
      (pss_one (ps_ret pe_bl))
      pss_nil)
      (pss_one (ps_ret (pe_cmpR (op_eqD hr.units) (pe_lc (own := [("k", 2)]) (g := gName 2) rfl sc_law_same.nd (pi_range1 (by rfl) T.range_ (pa_cons (pe_callB cr_lenS (by rfl) T.len_ boot_len (pa_cons (pv 1) pa_nil)) pa_nil)) (blkOk_by (N := N_law_same) (sc := defScope s_law_same) (own := [("k", 2)]) (by decide +kernel)) (fun _ _ _ _ _ => (pg_name (i := 2) sc_law_same.nd rfl (Or.inl rfl))) (fun _ _ _ _ _ => pts_one (pt_not (pt_val (pe_cal c__law_same (hr.mono (Nat.le_refl _)) (by rfl) pass0 (pa_cons (pe_ix (show IxR _ (rIx K) from ix_seq) (pv 0) (pv 2) (fun _ _ => rfl)) (pa_cons (pe_ix (show IxR _ (rIx K) from ix_seq) (pv 1) (pv 2) (fun _ _ => rfl)) pa_nil)))))) (fun _ _ _ _ _ => (pv 2))) (pe_lst pa_nil) (nomark _)))))))))), ?_⟩
    try dsimp only [cxOf]
    unfold Eqd at hd
    rcases hd with ⟨rfl, rfl⟩ | ⟨b, rfl, rfl⟩ | ⟨b, rfl, rfl⟩ | ⟨b, rfl, rfl⟩
    · walk_at "go"
      exact ⟨_, ⟨rfl, rfl⟩, Ex.rf⟩
    · walk_at "go"
      refine c_isi (.base (.bl _)) rfl ?_
      walk_at "go"
      refine c_isi (.base (.bl _)) rfl ?_
      walk_at "go"
      exact ⟨_, ⟨by rw [decide_eq_true rfl], rfl⟩, Ex.rf⟩
    · walk_at "go"
      refine c_isi (.base (.int _)) rfl ?_
      walk_at "go"
      refine c_isi (.base (.int _)) rfl ?_
      walk_at "go"
      refine c_isi (.base (.int _)) rfl ?_
      walk_at "go"
      refine c_isi (.base (.int _)) rfl ?_
      walk_at "go"
      exact ⟨_, ⟨by rw [decide_eq_true rfl], rfl⟩, Ex.rf⟩
    · walk_at "go"
      refine c_isi (.base (.str _)) rfl ?_
      walk_at "go"
      refine c_isi (.base (.str _)) rfl ?_
      walk_at "go"
      refine c_isi (.base (.str _)) rfl ?_
      walk_at "go"
      refine c_isi (.base (.str _)) rfl ?_
      walk_at "go"
      exact ⟨_, ⟨by rw [decide_eq_true rfl], rfl⟩, Ex.rf⟩
theorem ok_law_sameS {n : Nat} {f : Addr} {fd : FuncData} {k : Nat} (F : Fun K "_law_same" "_law_same" s_law_same f fd) (T : Bi mg) (c__law_same : CalF P w K mg base k "_law_same" ["found", "due"] (Sp_law_same K n)) : FnOk P w K mg base CX0 (k + 1) f fd ["found", "due"] (Pr (fun (x : Addr × Addr × List V × List V) vs H => vs = [.ref x.1, .ref x.2.1] ∧ ((SqL K H x.1 x.2.2.1 ∧ SqL K H x.2.1 x.2.2.2) ∨ (SqT K H x.1 x.2.2.1 ∧ SqT K H x.2.1 x.2.2.2)) ∧ x.2.2.1.length = x.2.2.2.length ∧ (x.2.2.2.length : Int) < 16777216 ∧ ∀ (i : Nat) a b, x.2.2.1[i]? = some a → x.2.2.2[i]? = some b → Eqd K n H a b) (fun _ H v H' => v = .bl true ∧ H' = H)) := by
  refine okP F sc_law_same (fun x vs H h => ?_) (fun cdv A outer s H E x vs H0 hr h => ?_)
  · rw [h.1]
    rfl
  · obtain ⟨p, q, xs, ys⟩ := x
    obtain ⟨rfl, hd, hl, hz, he⟩ := h
    dsimp only at *
    refine ⟨_, (pss_cons (ps_if (pt_cmpR op_isN (pv 1) pe_non (nomark _))
      (pss_one (ps_ret (pe_cmpR op_isN (pv 0) pe_non (nomark _))))
      pss_nil)
      (pss_cons (ps_if (pt_val (pe_callB call_isi (by rfl) T.isinstance_ boot_isinstance (pa_cons (pv 1) (pa_cons (pe_bltn (v := .ty "bool") (by rfl) T.bool_ boot_bool rfl) pa_nil))))
      (pss_one (ps_ret (pe_and (pe_callB call_isi (by rfl) T.isinstance_ boot_isinstance (pa_cons (pv 0) (pa_cons (pe_bltn (v := .ty "bool") (by rfl) T.bool_ boot_bool rfl) pa_nil))) (pe_one (pe_cmpR op_eq (pv 0) (pv 1) (nomark _))))))
      pss_nil)
      (pss_cons (ps_if (pt_val (pe_callB call_isi (by rfl) T.isinstance_ boot_isinstance (pa_cons (pv 1) (pa_cons (pe_bltn (v := .ty "int") (by rfl) T.int_ boot_int rfl) pa_nil))))
      (pss_one (ps_ret (pe_and (pe_callB call_isi (by rfl) T.isinstance_ boot_isinstance (pa_cons (pv 0) (pa_cons (pe_bltn (v := .ty "int") (by rfl) T.int_ boot_int rfl) pa_nil))) (pe_and (pe_not (pe_callB call_isi (by rfl) T.isinstance_ boot_isinstance (pa_cons (pv 0) (pa_cons (pe_bltn (v := .ty "bool") (by rfl) T.bool_ boot_bool rfl) pa_nil)))) (pe_one (pe_cmpR op_eq (pv 0) (pv 1) (nomark _)))))))
      pss_nil)
      (pss_cons (ps_if (pt_val (pe_callB call_isi (by rfl) T.isinstance_ boot_isinstance (pa_cons (pv 1) (pa_cons (pe_bltn (v := .ty "str") (by rfl) T.str_ boot_str rfl) pa_nil))))
      (pss_one (ps_ret (pe_and (pe_callB call_isi (by rfl) T.isinstance_ boot_isinstance (pa_cons (pv 0) (pa_cons (pe_bltn (v := .ty "str") (by rfl) T.str_ boot_str rfl) pa_nil))) (pe_one (pe_cmpR op_eq (pv 0) (pv 1) (nomark _))))))
      pss_nil)
      (pss_cons (ps_if (pt_cmpR op_ne (pe_callB call_isi (by rfl) T.isinstance_ boot_isinstance (pa_cons (pv 0) (pa_cons (pe_bltn (v := .ty "list") (by rfl) T.list_ boot_list rfl) pa_nil))) (pe_callB call_isi (by rfl) T.isinstance_ boot_isinstance (pa_cons (pv 1) (pa_cons (pe_bltn (v := .ty "list") (by rfl) T.list_ boot_list rfl) pa_nil))) (nomark _))
      (pss_one (ps_ret pe_bl))
      pss_nil)
      (pss_cons (ps_if (PW.pt (pw_or (pt_cmpR op_ne (pe_callB call_isi (by rfl) T.isinstance_ boot_isinstance (pa_cons (pv 0) (pa_cons (pe_bltn (v := .ty "tuple") (by rfl) T.tuple_ boot_tuple rfl) pa_nil))) (pe_callB call_isi (by rfl) T.isinstance_ boot_isinstance (pa_cons (pv 1) (pa_cons (pe_bltn (v := .ty "tuple") (by rfl) T.tuple_ boot_tuple rfl) pa_nil))) (nomark _)) (pw_or1 (pt_cmpR op_ne (pe_callB cr_lenS (by rfl) T.len_ boot_len (pa_cons (pv 0) pa_nil)) (pe_callB cr_lenS (by rfl) T.len_ boot_len (pa_cons (pv 1) pa_nil)) (nomark _)))))
      (pss_one (ps_ret pe_bl))
      pss_nil)
      (pss_one (ps_ret (pe_cmpR (op_eqD hr.units) (pe_lc (own := [("k", 2)]) (g := gName 2) rfl sc_law_same.nd (pi_range1 (by rfl) T.range_ (pa_cons (pe_callB cr_lenS (by rfl) T.len_ boot_len (pa_cons (pv 1) pa_nil)) pa_nil)) (blkOk_by (N := N_law_same) (sc := defScope s_law_same) (own := [("k", 2)]) (by decide +kernel)) (fun _ _ _ _ _ => (pg_name (i := 2) sc_law_same.nd rfl (Or.inl rfl))) (fun _ _ _ _ _ => pts_one (pt_not (pt_val (pe_cal c__law_same (hr.mono (Nat.le_refl _)) (by rfl) pass0 (pa_cons (pe_ix (show IxR _ (rIx K) from ix_seq) (pv 0) (pv 2) (fun _ _ => rfl)) (pa_cons (pe_ix (show IxR _ (rIx K) from ix_seq) (pv 1) (pv 2) (fun _ _ => rfl)) pa_nil)))))) (fun _ _ _ _ _ => (pv 2))) (pe_lst pa_nil) (nomark _)))))))))), ?_⟩
    try dsimp only [cxOf]
    have hp2 : SqL K H0 p xs ∨ SqT K H0 p xs := hd.elim (fun z => Or.inl z.1) (fun z => Or.inr z.1)
    have hq2 : SqL K H0 q ys ∨ SqT K H0 q ys := hd.elim (fun z => Or.inl z.2) (fun z => Or.inr z.2)
    have tail : S (tRet (tOp (rEqD K) (tLc (iRng1 (tCons (tCB (rLenS K) (tCons (tVar 1) tNil)) tNil)) (gName 2) (tNot (tB (tCall (Sp_law_same K n) [] E0 (tCons (tOp (rIx K) (tVar 0) (tVar 2)) (tCons (tOp (rIx K) (tVar 1) (tVar 2)) tNil))))) (tVar 2) [2]) (tLst tNil)))
        ⟨fun _ H1 => UpH (fun H' => V.non = .bl true ∧ H' = H0) H1, fun v H1 => UpH (fun H' => v = .bl true ∧ H' = H0) H1, fun _ _ => False, fun _ _ => False⟩ [some (.ref p), some (.ref q), none] H0 := by
      walk_at "go"
      refine w_lcR1 ?_
      walk_at "go"
      refine c_lenA hq2 ?_
      walk_at "go"
      refine ⟨_, rfl, by omega, by omega, fun Dl nd => ⟨fun i H' => H' = upd H0 Dl (.lst []), rfl, fun i H' hi hH => ?_, fun H' hH => ?_⟩⟩
      · subst hH
        have hi2 : i < ys.length := by omega
        have hi1 : i < xs.length := by omega
        walk_at "go"
        refine ⟨rfl, ?_⟩
        walk_at "go"
        refine r_ixA (hp2.imp (sl_new nd) (st_new nd)) (atI_nat (List.getElem?_eq_getElem hi1)) ?_
        walk_at "go"
        refine r_ixA (hq2.imp (sl_new nd) (st_new nd)) (atI_nat (List.getElem?_eq_getElem hi2)) ?_
        walk_at "go"
        refine ⟨(xs[i], ys[i]), ⟨rfl, Eqd.up (ex_new nd) n _ _ (he i _ _ (List.getElem?_eq_getElem hi1) (List.getElem?_eq_getElem hi2))⟩, ?_⟩
        rintro v H2 ⟨rfl, rfl⟩
        refine ⟨true, rfl, ?_⟩
        exact ite_f (by rfl) ⟨_, rfl, Ex.rf⟩
      · subst hH
        walk_at "go"
        refine ⟨by decide, fun b nb => ?_⟩
        refine r_eqd (d := .list []) (e := .list []) (.lst (Or.inl (Or.inl (up_new nb upd_same))) .nil) (.lst (Or.inl (Or.inl upd_same)) .nil) rfl rfl ?_
        exact ⟨_, ⟨rfl, rfl⟩, (ex_new nd).trans (ex_new nb)⟩
    rcases hd with ⟨h1, h2⟩ | ⟨h1, h2⟩
    · walk_at "go"
      refine c_isi (ty_l h2) rfl ?_
      walk_at "go"
      refine c_isi (ty_l h2) rfl ?_
      walk_at "go"
      refine c_isi (ty_l h2) rfl ?_
      walk_at "go"
      refine c_isi (ty_l h1) rfl ?_
      walk_at "go"
      refine c_isi (ty_l h2) rfl ?_
      walk_at "go"
      refine c_isi (ty_l h1) rfl ?_
      walk_at "go"
      refine c_isi (ty_l h2) rfl ?_
      walk_at "go"
      rw [hl, decide_eq_true rfl]
      exact ite_f (by rfl) (s_next tail)
    · walk_at "go"
      refine c_isi (ty_t h2) rfl ?_
      walk_at "go"
      refine c_isi (ty_t h2) rfl ?_
      walk_at "go"
      refine c_isi (ty_t h2) rfl ?_
      walk_at "go"
      refine c_isi (ty_t h1) rfl ?_
      walk_at "go"
      refine c_isi (ty_t h2) rfl ?_
      walk_at "go"
      refine c_isi (ty_t h1) rfl ?_
      walk_at "go"
      refine c_isi (ty_t h2) rfl ?_
      walk_at "go"
      rw [hl, decide_eq_true rfl]
      exact ite_f (by rfl) (s_next tail)
theorem ok_law_same {f : Addr} {fd : FuncData} (F : Fun K "_law_same" "_law_same" s_law_same f fd) (T : Bi mg) (mk : ∀ {k : Nat} {sp : Sp}, FnOk P w K mg base CX0 k f fd ["found", "due"] sp → CalF P w K mg base k "_law_same" ["found", "due"] sp) : ∀ n : Nat, FnOk P w K mg base CX0 (n + 1) f fd ["found", "due"] (Sp_law_same K n)
  | 0 => ok_law_same0 F T (mk FnOk.never)
  | n + 1 => by
    have h0 := (ok_law_same0 F T (mk (k := 0) FnOk.never)).mono (show 1 ≤ n + 1 + 1 by omega)
    have h1 := ok_law_sameS F T (mk (ok_law_same F T mk n))
    refine ⟨fun vs H Q E h => ?_, fun A outer s H args us vs Q E hr he hb hv h => ?_⟩
    · obtain ⟨x, H0, e, p, q⟩ := h
      rw [p.1]
      rfl
    · obtain ⟨⟨u, v⟩, H0, e, p, q⟩ := h
      obtain ⟨rfl, d⟩ := p
      rw [Eqd] at d
      rcases d with d | ⟨p, r, xs, ys, a, b, c, d, f, g⟩
      · exact h0.run A outer s H args us _ Q E hr he hb hv ⟨(u, v), H0, e, ⟨rfl, d⟩, q⟩
      · dsimp only at a b
        subst a
        subst b
        exact h1.run A outer s H args us _ Q E hr he hb hv ⟨(p, r, xs, ys), H0, e, ⟨rfl, c, d, f, g⟩, q⟩
end
end Mb


namespace Mb
open PySem PyProof.Rows L2
open Evl (Ex)
/-! ### the drawn table's words -/
theorem Sst.Ok.mono {B B' : Int} {s : Sst} (o : s.Ok B) (h : B ≤ B') : s.Ok B' := ⟨o.m0, o.m1, o.c0, Int.le_trans o.c1 h⟩
def tailOf (j : Nat) : List Nat := [97 + j / 26, 97 + j % 26]
theorem abc_len : abc.length = 26 := by decide +kernel
theorem abc_get : ∀ k : Fin 26, abc.cps.toList[k.val]? = some (97 + k.val) := by decide +kernel
theorem abc_at {k : Int} (h0 : 0 ≤ k) (h1 : k < 26) : atI abc.cps.toList k = some (97 + k.toNat) := by
  have e : k = ((k.toNat : Nat) : Int) := by omega
  rw [e]
  refine atI_nat ?_
  rw [Int.toNat_natCast]
  exact abc_get ⟨k.toNat, by omega⟩
theorem abc_mem {k : Nat} (h : k < 26) : 97 + k ∈ abc.cps.toList := List.mem_of_getElem? (abc_get ⟨k, h⟩)
def Made (j : Nat) (x : Str) : Prop := ∃ h : List Nat, x.cps.toList = h ++ tailOf j ∧ h.length ≤ 18 ∧ ∀ c ∈ h, c ∈ abc.cps.toList
theorem len_cps (x : Str) : x.length = x.cps.toList.length := rfl
theorem Made.word {j : Nat} {x : Str} (h : Made j x) (hj : j < 676) : isWord x = true := by
  obtain ⟨h, e, hl, hm⟩ := h
  have h1 : x.length = h.length + 2 := by rw [len_cps, e, List.length_append]; rfl
  unfold isWord
  rw [decide_eq_true (by omega), decide_eq_true (by omega), e, Bool.true_and, Bool.true_and, List.all_append, Bool.and_eq_true]
  refine ⟨?_, ?_⟩
  · rw [List.all_eq_true]
    exact fun c hc => decide_eq_true (hm c hc)
  · show (decide _ && (decide _ && true)) = true
    rw [decide_eq_true (abc_mem (by omega)), decide_eq_true (abc_mem (Nat.mod_lt _ (by decide)))]
    rfl
theorem Made.inj {i j : Nat} {x : Str} (h : Made i x) (h' : Made j x) (hi : i < 676) (hj : j < 676) : i = j := by
  obtain ⟨h, e, _, _⟩ := h
  obtain ⟨h', e', _, _⟩ := h'
  have := e.symm.trans e'
  have := (List.append_inj' this rfl).2
  unfold tailOf at this
  injection this with a b
  injection b with b c
  omega
def tabOf (zs : List Str) : Tab := ⟨zs.take 20, (zs.drop 20).take 8, zs.getD 28 "", zs.drop 29⟩
theorem tabOf_words {zs : List Str} (h1 : 29 ≤ zs.length) : (tabOf zs).words = zs := by
  unfold Tab.words tabOf
  dsimp only
  have e1 : zs.drop 28 = zs.getD 28 "" :: zs.drop 29 := by
    rw [List.drop_eq_getElem_cons (show 28 < zs.length by omega), List.getD_eq_getElem?_getD, List.getElem?_eq_getElem (show 28 < zs.length by omega)]
    rfl
  have e2 : (zs.drop 20).drop 8 = zs.drop 28 := by rw [List.drop_drop]
  rw [List.append_assoc, List.append_assoc, List.singleton_append, ← e1, ← e2, List.take_append_drop, List.take_append_drop]
theorem tabOf_ok {zs : List Str} (h1 : 29 ≤ zs.length) (h2 : zs.length ≤ 49) (h : ∀ j x, zs[j]? = some x → Made j x) : (tabOf zs).Ok := by
  refine ⟨?_, ?_, ?_, ?_, ?_⟩
  · show (zs.take 20).length = 20
    rw [List.length_take]; omega
  · show ((zs.drop 20).take 8).length = 8
    rw [List.length_take, List.length_drop]; omega
  · show (zs.drop 29).length ≤ 20
    rw [List.length_drop]; omega
  · intro x hx
    rw [tabOf_words h1] at hx
    obtain ⟨j, hj⟩ := List.getElem?_of_mem hx
    have := (List.getElem?_eq_some_iff.mp hj).1
    exact (h j x hj).word (by omega)
  · rw [tabOf_words h1]
    unfold List.Nodup
    rw [List.pairwise_iff_getElem]
    intro i j hi hj hij e2
    have a := h i _ (List.getElem?_eq_getElem hi)
    have b := h j _ (List.getElem?_eq_getElem hj)
    rw [e2] at a
    have := a.inj b (by omega) (by omega)
    omega
theorem cutV_mid {xs : List V} {n m : Nat} (h : m ≤ xs.length) (h2 : n ≤ m) : cutV xs (some (n : Int)) (some (m : Int)) = (xs.drop n).take (m - n) := by
  unfold cutV
  rw [HT.sIx_nat, HT.sIx_nat, Nat.min_eq_left h, Nat.min_eq_left (Nat.le_trans h2 h)]
theorem cutV_from {xs : List V} {n : Nat} (h : n ≤ xs.length) : cutV xs (some (n : Int)) none = xs.drop n := by
  unfold cutV
  rw [HT.sIx_nat, HT.sIx_none, Nat.min_eq_left h]
  exact List.take_of_length_le (by rw [List.length_drop]; exact Nat.le_refl _)
theorem join_ones : ∀ cs : List Nat, (Txt.join "" (cs.map fun c => (⟨#[c]⟩ : Str))).cps.toList = cs := by
  intro cs
  rw [TL.join_eq]
  have h := TL.tl_join "" (cs.map fun c => (⟨#[c]⟩ : Str))
  have e : ∀ ls : List Nat, TL.joinL [] (ls.map fun c => [c]) = ls := by
    intro ls
    induction ls with
    | nil => rfl
    | cons a r ih =>
      cases r with
      | nil => rfl
      | cons b r => 
        show [a] ++ ([] ++ TL.joinL [] ((b :: r).map fun c => [c])) = _
        rw [ih]
        rfl
  rw [List.map_map] at h
  exact h.trans (e cs)
end Mb


namespace Mb
open PySem PyProof.Rows L2
open Evl (Ex)
section
variable {P : Program} {w : World} {K : PySem.W.Frag} {mg : Str → Option Value} {base : Heap} {cc : Addr}
theorem sum_ones : ∀ cs : List Nat, ((cs.map fun c => (⟨#[c]⟩ : Str)).map (·.length)).sum = cs.length
  | [] => rfl
  | c :: r => by
    rw [List.map_cons, List.map_cons, List.sum_cons, sum_ones r, List.length_cons]
    show 1 + _ = _
    omega
theorem src_get {H : Hp} {a dg q : Addr} {s : Sst} {o : HO} (h1 : q ≠ a) (h2 : q ≠ dg) (h : H q = some o) : SrcH H a dg s q = some o := by
  unfold SrcH
  rw [upd_ne h1, upd_ne h2, h]
theorem logb {n : Int} (h : 0 < n) (h2 : n < 18446744073709551616) : n.natAbs.log2 < 9000 := by
  have : n.natAbs.log2 < 64 := (Nat.log2_lt (by omega)).mpr (by omega)
  omega
structure TabA where
  a : Addr
  dg : Addr
  s : Sst
  H0 : Hp
  most : Int
  B : Int
/-- a draw, called -/
theorem drawn {a dg : Addr} {s : Sst} {Hb H : Hp} {n B : Int} {K' : KV} (bs : Beside Hb a dg) (ok : s.Ok B) (hB : B ≤ 1000000000) (e : Ex (SrcH Hb a dg s) H) (hn : 0 < n) (hn2 : n.natAbs.log2 < 9000)
    (k : ∀ z s', 0 ≤ z → z < n → Sst.Ok (B + 1) s' → K' (.int z) (SrcH Hb a dg s')) :
    ∃ x : DrawA, (([V.ref a, V.int n] : List V) = [.ref x.a, .int x.n] ∧ Ex (SrcH x.H0 x.a x.dg x.s) H ∧ Beside x.H0 x.a x.dg ∧ x.s.Ok x.B ∧ x.B ≤ 1000000000 ∧ 0 < x.n ∧ x.n.natAbs.log2 < 9000) ∧
      ∀ v H', (∃ (z : Int) (s : Sst), v = .int z ∧ 0 ≤ z ∧ z < x.n ∧ s.Ok (x.B + 1) ∧ H' = SrcH x.H0 x.a x.dg s) → K' v H' := by
  refine ⟨⟨a, dg, s, Hb, n, B⟩, ⟨rfl, e, bs, ok, hB, hn, hn2⟩, ?_⟩
  rintro v H' ⟨z, s', rfl, z0, z1, ok', rfl⟩
  exact k z s' z0 z1 ok'
abbrev Sp_law_table (K : PySem.W.Frag) : Sp := Pr (fun (x : TabA) vs H => vs = [.ref x.a, .int x.most] ∧ Ex (SrcH x.H0 x.a x.dg x.s) H ∧ Beside x.H0 x.a x.dg ∧ x.s.Ok x.B ∧ x.B ≤ 900000000 ∧ 0 ≤ x.most ∧ x.most ≤ 20)
  (fun x _ v H' => ∃ (t : Addr) (T : Tab) (Hb : Hp) (s : Sst), v = .ref t ∧ T.Ok ∧ TabAt K Hb t T ∧ Ex x.H0 Hb ∧ Beside Hb x.a x.dg ∧ s.Ok (x.B + 1100) ∧ H' = SrcH Hb x.a x.dg s)
theorem ok_law_table {f : Addr} {fd : FuncData} (F : Fun K "_law_table" "_law_table" s_law_table f fd) (T : Bi mg)
    (c__law_draw : CalF P w K mg base 1 "_law_draw" ["source", "wide"] Sp_law_draw) (c_english : CalF P w K mg base 1 "english" ["scales"] (Sp_english K)) : FnOk P w K mg base CX0 2 f fd ["source", "most"] (Sp_law_table K) := by
  refine okP F sc_law_table (fun x vs H h => ?_) (fun cdv A outer s H E x vs H0 hr h => ?_)
  · rw [h.1]
    rfl
  · obtain ⟨a, dg, st, Hb, most, B⟩ := x
    obtain ⟨rfl, ex, bs, ok, hB, hm, hm2⟩ := h
    dsimp only at *
    refine ⟨_, (pss_cons (ps_asg (pe_tup (pa_cons (pe_cal c__law_draw (hr.mono (by decide)) (by rfl) pass0 (pa_cons (pv 0) (pa_cons pe_int pa_nil))) (pa_cons (pe_cal c__law_draw (hr.mono (by decide)) (by rfl) pass0 (pa_cons (pv 0) (pa_cons (pe_op op_add (pv 1) pe_int) pa_nil))) pa_nil))) (pg_tup rfl (pgs_cons (pg_name (i := 2) sc_law_table.nd rfl (Or.inr rfl)) (pgs_cons (pg_name (i := 3) sc_law_table.nd rfl (Or.inl rfl)) pgs_nil))))
      (pss_cons (ps_if (pt_cmpR op_eq (pv 2) pe_int (nomark _))
      (pss_one (ps_ret (pe_cal c_english (hr.mono (by decide)) (by rfl) pass0 (pa_cons (pe_callB (cr_min2 rfl) (by rfl) T.min_ boot_min (pa_cons pe_int (pa_cons (pv 3) pa_nil))) pa_nil))))
      pss_nil)
      (pss_cons (ps_asg (pe_tup (pa_cons pe_str (pa_cons (pe_lst pa_nil) pa_nil))) (pg_tup rfl (pgs_cons (pg_name (i := 4) sc_law_table.nd rfl (Or.inr rfl)) (pgs_cons (pg_name (i := 5) sc_law_table.nd rfl (Or.inl rfl)) pgs_nil))))
      (pss_cons (ps_for PassesOwn.never rfl (pi_range1 (by rfl) T.range_ (pa_cons (pe_op op_add pe_int (pv 3)) pa_nil)) (pg_name (i := 6) sc_law_table.nd rfl (Or.inl rfl))
      (pss_cons (ps_set (i := 7) sc_law_table.nd rfl (Or.inl rfl) (pe_ix (show IxR _ (rIxL K) from ix_list) (pe_lst (pa_cons pe_int (pa_cons pe_int pa_nil))) (pe_cal c__law_draw (hr.mono (by decide)) (by rfl) pass0 (pa_cons (pv 0) (pa_cons pe_int pa_nil))) (fun _ _ => rfl)))
      (pss_cons (ps_set (i := 8) sc_law_table.nd rfl (Or.inl rfl) (pe_join pe_str (pe_lc (own := [("letter", 9)]) (g := gName 9) (tt := tYes) rfl sc_law_table.nd (pi_range1 (by rfl) T.range_ (pa_cons (pe_cal c__law_draw (hr.mono (by decide)) (by rfl) pass0 (pa_cons (pv 0) (pa_cons (pv 7) pa_nil))) pa_nil)) (blkOk_by (N := N_law_table) (sc := defScope s_law_table) (own := [("letter", 9)]) (by decide +kernel)) (fun _ _ _ _ _ => (pg_name (i := 9) sc_law_table.nd rfl (Or.inl rfl))) (fun _ _ _ _ _ => pts_nil) (fun _ _ _ _ _ => (pe_ix ix_str (pv 4) (pe_cal c__law_draw (hr.mono (by decide)) (by rfl) pass0 (pa_cons (pv 0) (pa_cons (pe_ix (show IxR _ (rIxL K) from ix_list) (pe_lst (pa_cons pe_int (pa_cons pe_int pa_nil))) (pe_op op_sub (pv 2) pe_int) (fun _ _ => rfl)) pa_nil))) (fun _ _ => rfl))))))
      (pss_one (ps_expr (pe_bm PySem.F.plainAttrs_list PySem.F.slot_list_append PySem.F.type_list_append mt_append (pv 5) (pa_cons (pe_op op_add_str (pe_op op_add_str (pv 8) (pe_ix ix_str (pv 4) (pe_op op_fdivW (pv 6) pe_int) (fun _ _ => rfl))) (pe_ix ix_str (pv 4) (pe_op op_mod (pv 6) pe_int) (fun _ _ => rfl))) pa_nil)))))))
      (pss_one (ps_ret (pe_tup (pa_cons (pe_slice sl_list (pv 5) po_none (po_some pe_int)) (pa_cons (pe_slice sl_list (pv 5) (po_some pe_int) (po_some pe_int)) (pa_cons (pe_ix (show IxR _ (rIxL K) from ix_list) (pv 5) pe_int (fun _ _ => rfl)) (pa_cons (pe_slice sl_list (pv 5) (po_some pe_int) po_none) pa_nil))))))))))), S.ext ex ?_⟩
    try dsimp only [cxOf]
    walk_at "go"
    refine drawn bs ok (by omega) Ex.rf (by decide) (by decide) fun way s1 w0 w1 ok1 => ?_
    walk_at "go"
    refine drawn bs ok1 (by omega) Ex.rf (by omega) (logb (by omega) (by omega)) fun lots s2 l0 l1 ok2 => ?_
    walk_at "go"
    refine ⟨by walk_at "sz", fun p0 np0 => ?_⟩
    refine g_tup st_same rfl ?_
    walk_at "go"
    refine ite2 (fun z => ?_) (fun z => ?_)
    · refine S.ext (ex_new np0) ?_
      walk_at "go"
      refine ⟨(if lots < 10 then lots else 10).toNat, ⟨?_, ?_⟩, ?_⟩
      · show [V.int _] = [V.int _]
        congr 2
        split <;> omega
      · split <;> omega
      rintro v H2 ⟨t, N, rfl, ap, tt, rfl⟩
      rw [src_plus]
      refine ⟨_, ⟨t, _, _, s2, rfl, eng_ok _ (by split <;> omega), tt.up (ex_plusR (Apart.src bs ap)), ex_plus, bs.plus ap, ok2.mono (by omega), rfl⟩, Ex.rf⟩
    · have hw : way ≠ 0 := fun e => z (by rw [e]; rfl)
      refine S.ext (ex_new np0) (s_next ?_)
      walk_at "go"
      refine ⟨by walk_at "sz", fun pf nf => ?_⟩
      walk_at "go"
      refine ⟨by walk_at "sz", fun p1 n1 => ?_⟩
      refine g_tup st_same rfl ?_
      walk_at "go"
      refine S.ext (ex_new n1) ?_
      obtain ⟨nf0, nfa, nfd⟩ := src_free nf
      rw [src_push nfa nfd]
      refine s_forR1 ?_
      walk_at "go"
      refine ⟨29 + lots, fun i σ' H' => ∃ (s' : Sst) (zs : List Str) (z6 z7 z8 : Option V), σ' = [some (.ref a), some (.int most), some (.int way), some (.int lots), some (.str abc), some (.ref pf), z6, z7, z8, none] ∧ zs.length = i ∧ (∀ j x, zs[j]? = some x → Made j x) ∧ s'.Ok (B + 2 + 21 * i) ∧ H' = SrcH (upd Hb pf (.lst (zs.map V.str))) a dg s', rfl, by omega, by omega, ⟨s2, [], none, none, none, rfl, rfl, fun j x h => by simp at h, ok2.mono (by omega), rfl⟩, fun i σ' H' hi h => ?_, fun σ' H' h => ?_⟩
      · obtain ⟨s3, zs, z6, z7, z8, rfl, hl, hz, ok3, rfl⟩ := h
        have bs3 : Beside (upd Hb pf (.lst (zs.map V.str))) a dg := bs.upd nfa nfd
        walk_at "go"
        refine ⟨by walk_at "sz", fun q nq => ?_⟩
        obtain ⟨nq0, nqa, nqd⟩ := src_free nq
        rw [src_push nqa nqd]
        walk_at "go"
        refine drawn (bs3.upd nqa nqd) ok3 (by omega) Ex.rf (by decide) (by decide) fun z s4 z0 z1 ok4 => ?_
        obtain ⟨fr, hfr, f0, f1⟩ : ∃ fr : Int, atI [V.int 3, V.int 19] z = some (.int fr) ∧ 3 ≤ fr ∧ fr ≤ 19 := by
          have : z = 0 ∨ z = 1 := by omega
          rcases this with rfl | rfl
          · exact ⟨3, rfl, by decide, by decide⟩
          · exact ⟨19, rfl, by decide, by decide⟩
        refine r_ixL (Or.inl (Or.inl (src_get nqa nqd upd_same))) hfr ?_
        refine g_name ?_
        refine S.ext (src_up (ex_new nq0)) ?_
        walk_at "go"
        refine w_lcR1 ?_
        walk_at "go"
        refine drawn bs3 ok4 (by omega) Ex.rf (by omega) (logb (by omega) (by omega)) fun cnt s5 c0 c1 ok5 => ?_
        walk_at "go"
        refine ⟨cnt, rfl, by omega, by omega, fun Dl nd => ?_⟩
        obtain ⟨nd0, nda, ndd⟩ := src_free nd
        obtain ⟨nd1, ndf⟩ := free_of nd0
        refine ⟨fun j H' => ∃ (cs : List Nat) (s' : Sst), cs.length = j ∧ (∀ c ∈ cs, c ∈ abc.cps.toList) ∧ s'.Ok (B + 2 + 21 * i + 2 + j) ∧ H' = SrcH (upd (upd Hb pf (.lst (zs.map V.str))) Dl (.lst ((cs.map fun c => (⟨#[c]⟩ : Str)).map V.str))) a dg s', ⟨[], s5, rfl, (fun c h => nomatch h), ok5.mono (by omega), src_push nda ndd⟩, fun j H' hj h => ?_, fun H' h => ?_⟩
        · obtain ⟨cs, s6, hcl, hcs, ok6, rfl⟩ := h
          refine g_name ⟨rfl, wt_yes ?_⟩
          rw [if_pos rfl]
          walk_at "go"
          refine ⟨by walk_at "sz", fun q2 nq2 => ?_⟩
          obtain ⟨nq3, nqa3, nqd3⟩ := src_free nq2
          rw [src_push nqa3 nqd3]
          have bs6 : Beside (upd (upd Hb pf (.lst (zs.map V.str))) Dl (.lst ((cs.map fun c => (⟨#[c]⟩ : Str)).map V.str))) a dg := bs3.upd nda ndd
          walk_at "go"
          obtain ⟨wd, hwd, g0, g1⟩ : ∃ wd : Int, atI [V.int 2, V.int 26] (way - 1) = some (.int wd) ∧ 2 ≤ wd ∧ wd ≤ 26 := by
            have : way = 1 ∨ way = 2 := by omega
            rcases this with rfl | rfl
            · exact ⟨2, rfl, by decide, by decide⟩
            · exact ⟨26, rfl, by decide, by decide⟩
          refine r_ixL (Or.inl (Or.inl (src_get nqa3 nqd3 upd_same))) hwd ?_
          walk_at "go"
          refine drawn bs6 ok6 (by omega) (src_up (ex_new nq3)) (by omega) (logb (by omega) (by omega)) fun c s7 d0 d1 ok7 => ?_
          walk_at "go"
          refine r_ixS (by rw [abc_len, sizeLine_eq]; omega) (abc_at d0 (by omega)) ?_
          refine ⟨_, src_get nda ndd upd_same, ?_, ?_⟩
          · rw [List.length_map, List.length_map, sizeLine_eq]; omega
          rw [src_push nda ndd, upd_upd]
          refine ⟨_, ⟨cs ++ [97 + c.toNat], s7, ?_, ?_, ok7.mono (by omega), ?_⟩, Ex.rf⟩
          · rw [List.length_append, hcl]; rfl
          · intro x hx
            rcases List.mem_append.mp hx with hx | hx
            · exact hcs x hx
            · rw [List.mem_singleton.mp hx]
              exact abc_mem (by omega)
          · rw [List.map_append, List.map_append]
            rfl
        · obtain ⟨cs, s6, hcl, hcs, ok6, rfl⟩ := h
          walk_at "go"
          refine m_join (ys := cs.map fun c => (⟨#[c]⟩ : Str)) (Or.inl (Or.inl (src_get nda ndd upd_same))) ?_ ?_
          · rw [sum_ones, List.length_map]
            show cs.length + cs.length * 0 ≤ _
            omega
          refine g_name ?_
          refine S.ext (src_up (ex_new nd0)) ?_
          walk_at "go"
          refine ⟨Or.inl ⟨rfl, _, Or.inl (Or.inl (src_get nfa nfd upd_same))⟩, ?_⟩
          walk_at "go"
          have hi49 : i < 49 := by omega
          generalize hhd : Txt.join "" (cs.map fun c => (⟨#[c]⟩ : Str)) = hd
          have hd1 : hd.cps.toList = cs := by rw [← hhd]; exact join_ones cs
          have hd2 : hd.length = cs.length := by rw [len_cps, hd1]
          refine r_I (C := CDivW) ⟨by decide, by decide⟩ ?_
          walk_at "go"
          refine r_ixS (by rw [abc_len, sizeLine_eq]; omega) (abc_at (k := (i : Int) / 26) (by omega) (by omega)) ?_
          refine r_addS (by rw [hd2, sizeLine_eq]; show _ + 1 ≤ _; omega) ?_
          walk_at "go"
          refine r_ixS (by rw [abc_len, sizeLine_eq]; omega) (abc_at (k := (i : Int) % 26) (by omega) (by omega)) ?_
          have hmk : (hd ++ ⟨#[97 + ((i : Int) / 26).toNat]⟩ ++ ⟨#[97 + ((i : Int) % 26).toNat]⟩ : Str).cps.toList = cs ++ tailOf i := by
            have e : ∀ x y : Str, (x ++ y).cps.toList = x.cps.toList ++ y.cps.toList := TL.tl_append
            rw [e, e, hd1]
            have e1 : ((i : Int) / 26).toNat = i / 26 := by omega
            have e2 : ((i : Int) % 26).toNat = i % 26 := by omega
            rw [e1, e2, List.append_assoc]
            rfl
          refine r_addS ?_ ?_
          · have e : (hd ++ ⟨#[97 + ((i : Int) / 26).toNat]⟩ : Str).length = cs.length + 1 := by
              rw [len_cps]
              have e : ∀ x y : Str, (x ++ y).cps.toList = x.cps.toList ++ y.cps.toList := TL.tl_append
              rw [e, hd1, List.length_append]
              rfl
            rw [e, sizeLine_eq]
            show _ + 1 + 1 ≤ _
            omega
          walk_at "go"
          refine m_append (src_get nfa nfd upd_same) ?_ ?_
          · rw [List.length_map, sizeLine_eq]; omega
          rw [src_push nfa nfd, upd_upd]
          refine ⟨_, ⟨s6, zs ++ [hd ++ ⟨#[97 + ((i : Int) / 26).toNat]⟩ ++ ⟨#[97 + ((i : Int) % 26).toNat]⟩], _, _, _, rfl, ?_, ?_, ok6.mono (by omega), ?_⟩, Ex.rf⟩
          · rw [List.length_append, hl]; rfl
          · intro j x hx
            rw [List.getElem?_append] at hx
            by_cases hj : j < zs.length
            · rw [if_pos hj] at hx
              exact hz j x hx
            · rw [if_neg hj] at hx
              have : j - zs.length = 0 := by
                have := (List.getElem?_eq_some_iff.mp hx).1
                rw [List.length_singleton] at this
                omega
              rw [this] at hx
              have hj2 : j = i := by omega
              rw [← Option.some.inj hx, hj2]
              exact ⟨cs, hmk, by omega, hcs⟩
          · rw [List.map_append]
            rfl
      · obtain ⟨s3, zs, z6, z7, z8, rfl, hl, hz, ok3, rfl⟩ := h
        have bs3 : Beside (upd Hb pf (.lst (zs.map V.str))) a dg := bs.upd nfa nfd
        have hl1 : 29 ≤ zs.length := by omega
        have hl2 : zs.length ≤ 49 := by omega
        walk_at "go"
        refine r_slL (Or.inl (Or.inl (src_get nfa nfd upd_same))) fun p1 m1 => ?_
        obtain ⟨m1b, m1a, m1d⟩ := src_free m1
        rw [src_push m1a m1d]
        walk_at "go"
        refine r_slL (Or.inl (Or.inl (src_get nfa nfd (up_new m1b upd_same)))) fun p2 m2 => ?_
        obtain ⟨m2b, m2a, m2d⟩ := src_free m2
        rw [src_push m2a m2d]
        walk_at "go"
        refine r_ixL (xs := zs.map V.str) (Or.inl (Or.inl (src_get nfa nfd (up_new m2b (up_new m1b upd_same))))) (at_str (by decide) (by show 28 < _; omega)) ?_
        walk_at "go"
        refine r_slL (Or.inl (Or.inl (src_get nfa nfd (up_new m2b (up_new m1b upd_same))))) fun p3 m3 => ?_
        obtain ⟨m3b, m3a, m3d⟩ := src_free m3
        rw [src_push m3a m3d]
        walk_at "go"
        refine ⟨by walk_at "sz", fun t mt => ?_⟩
        obtain ⟨mtb, mta, mtd⟩ := src_free mt
        rw [src_push mta mtd]
        have e1 : cutV (zs.map V.str) none (some 20) = (tabOf zs).ones.map V.str := by
          have := cutV_to (xs := zs.map V.str) (n := 20)
          rw [← List.map_take] at this
          exact this
        have e2 : cutV (zs.map V.str) (some 20) (some 28) = (tabOf zs).tens.map V.str := by
          have := cutV_mid (xs := zs.map V.str) (n := 20) (m := 28) (by rw [List.length_map]; omega) (by decide)
          rw [← List.map_drop, ← List.map_take] at this
          exact this
        have e3 : cutV (zs.map V.str) (some 29) none = (tabOf zs).scales.map V.str := by
          have := cutV_from (xs := zs.map V.str) (n := 29) (by rw [List.length_map]; omega)
          rw [← List.map_drop] at this
          exact this
        rw [e1, e2, e3]
        rw [e1] at m2b m3b mtb
        rw [e2] at m3b mtb
        rw [e3] at mtb
        obtain ⟨_, k1⟩ := free_of m1b
        obtain ⟨m2c, k21⟩ := free_of m2b
        obtain ⟨m3c, k32⟩ := free_of m3b
        obtain ⟨m3e, k31⟩ := free_of m3c
        refine ⟨_, ⟨t, tabOf zs, _, s3, rfl, tabOf_ok hl1 hl2 hz, ⟨p1, p2, p3, st_same, ?_, ?_, ?_⟩, ?_, ?_, ok3.mono (by omega), rfl⟩, Ex.rf⟩
        · exact Or.inl (Or.inl (up_new mtb (up_new m3b (up_new m2b upd_same))))
        · exact Or.inl (Or.inl (up_new mtb (up_new m3b upd_same)))
        · exact Or.inl (Or.inl (up_new mtb upd_same))
        · exact (ex_new nf0).trans ((ex_new m1b).trans ((ex_new m2b).trans ((ex_new m3b).trans (ex_new mtb))))
        · exact (((bs3.upd m1a m1d).upd m2a m2d).upd m3a m3d).upd mta mtd
end
end Mb


namespace Mb
open PySem PyProof.Rows L2
open Evl (Ex)
section
variable {P : Program} {w : World} {K : PySem.W.Frag} {mg : Str → Option Value} {base : Heap} {cc : Addr}
abbrev Sp_law_whole (K : PySem.W.Frag) : Sp := Pr (fun (x : Addr × Tab) vs H => vs = [.ref x.1] ∧ TabAt K H x.1 x.2 ∧ x.2.scales.length ≤ 20) (fun x H v H' => v = .int (1000 ^ (x.2.scales.length + 1)) ∧ H' = H)
theorem ok_law_whole {f : Addr} {fd : FuncData} (F : Fun K "_law_whole" "_law_whole" s_law_whole f fd) (T : Bi mg) : FnOk P w K mg base CX0 1 f fd ["chart"] (Sp_law_whole K) := by
  refine okP F sc_law_whole (fun x vs H h => ?_) (fun cdv A outer s H E x vs H0 hr h => ?_)
  · rw [h.1]
    rfl
  · obtain ⟨t, Ta⟩ := x
    obtain ⟨rfl, ⟨o, te, sc, ha, hb, hc, hd⟩, hl⟩ := h
    dsimp only at *
    refine ⟨_, (pss_cons (ps_set (i := 1) sc_law_whole.nd rfl (Or.inl rfl) pe_int)
      (pss_cons (ps_for PassesOwn.never rfl (pi_list (pe_ix (show IxR _ (rIxT K) from ix_tup) (pv 0) pe_int (fun _ _ => rfl))) (pg_name (i := 2) sc_law_whole.nd rfl (Or.inl rfl))
      (pss_one (ps_set (i := 1) sc_law_whole.nd rfl (Or.inl rfl) (pe_op op_mul (pv 1) pe_int))))
      (pss_one (ps_ret (pv 1))))), ?_⟩
    try dsimp only [cxOf]
    walk_at "go"
    refine s_forL ?_
    walk_at "go"
    refine ⟨sc, Ta.scales.map V.str, fun i σ' H' => ∃ z2, σ' = [some (.ref t), some (.int (1000 ^ (i + 1))), z2] ∧ H' = H0, rfl, hd, ⟨_, rfl, rfl⟩, fun i σ' H' hi h => ?_, fun i x σ' H' hi h => ?_, fun σ' H' h => ?_⟩
    · obtain ⟨z2, rfl, rfl⟩ := h
      exact hd
    · obtain ⟨z2, rfl, rfl⟩ := h
      have hi2 : i < 20 := by
        have := (List.getElem?_eq_some_iff.mp hi).1
        rw [List.length_map] at this
        omega
      walk_at "go"
      exact ⟨_, ⟨_, rfl, rfl⟩, Ex.rf⟩
    · obtain ⟨z2, rfl, rfl⟩ := h
      walk_at "go"
      exact ⟨_, ⟨by rw [List.length_map], rfl⟩, Ex.rf⟩
structure ValA where
  a : Addr
  dg : Addr
  s : Sst
  H0 : Hp
  B : Int
  t : Addr
  T : Tab
abbrev Sp_law_value (K : PySem.W.Frag) : Sp := Pr (fun (x : ValA) vs H => vs = [.ref x.a, .ref x.t] ∧ Ex (SrcH x.H0 x.a x.dg x.s) H ∧ Beside x.H0 x.a x.dg ∧ x.s.Ok x.B ∧ x.B ≤ 900000000 ∧ TabAt K x.H0 x.t x.T ∧ x.T.scales.length ≤ 20)
  (fun x _ v H' => ∃ (n : Nat) (s : Sst), v = .int n ∧ n < 1000 ^ (x.T.scales.length + 1) ∧ s.Ok (x.B + 100) ∧ H' = SrcH x.H0 x.a x.dg s)
theorem ok_law_value {f : Addr} {fd : FuncData} (F : Fun K "_law_value" "_law_value" s_law_value f fd) (T : Bi mg)
    (c__law_draw : CalF P w K mg base 1 "_law_draw" ["source", "wide"] Sp_law_draw) : FnOk P w K mg base CX0 2 f fd ["source", "chart"] (Sp_law_value K) := by
  refine okP F sc_law_value (fun x vs H h => ?_) (fun cdv A outer s H E x vs H0 hr h => ?_)
  · rw [h.1]
    rfl
  · obtain ⟨a, dg, st, Hb, B, t, Ta⟩ := x
    obtain ⟨rfl, ex, bs, ok, hB, hT, hl⟩ := h
    dsimp only at *
    have ext : ∀ {H : Hp} {s : Sst}, Ex Hb (SrcH H a dg s) → TabAt K (SrcH H a dg s) t Ta := fun e => hT.up e
    refine ⟨_, (pss_cons (ps_par (i := 2) (j := 3) rfl sc_law_value.nd rfl rfl (by decide) rfl rfl (pa_cons (pe_cal c__law_draw (hr.mono (by decide)) (by rfl) pass0 (pa_cons (pv 0) (pa_cons pe_int pa_nil))) (pa_cons pe_int pa_nil)) rfl)
      (pss_cons (ps_if (pt_cmpR op_eq (pv 2) pe_int (nomark _))
      (pss_one (ps_ret (pe_cal c__law_draw (hr.mono (by decide)) (by rfl) pass0 (pa_cons (pv 0) (pa_cons pe_int pa_nil)))))
      pss_nil)
      (pss_cons (ps_for PassesOwn.never rfl (pi_range1 (by rfl) T.range_ (pa_cons (pe_op op_add (pe_callB cr_lenS (by rfl) T.len_ boot_len (pa_cons (pe_ix (show IxR _ (rIxT K) from ix_tup) (pv 1) pe_int (fun _ _ => rfl)) pa_nil)) pe_int) pa_nil)) (pg_name (i := 4) sc_law_value.nd rfl (Or.inl rfl))
      (pss_cons (ps_set (i := 5) sc_law_value.nd rfl (Or.inl rfl) (pe_ix (show IxR _ (rIxL K) from ix_list) (pe_lst (pa_cons (pe_cal c__law_draw (hr.mono (by decide)) (by rfl) pass0 (pa_cons (pv 0) (pa_cons pe_int pa_nil))) (pa_cons (pe_op op_mul (pe_cal c__law_draw (hr.mono (by decide)) (by rfl) pass0 (pa_cons (pv 0) (pa_cons pe_int pa_nil))) (pe_op op_fdivW (pe_cal c__law_draw (hr.mono (by decide)) (by rfl) pass0 (pa_cons (pv 0) (pa_cons pe_int pa_nil))) pe_int)) pa_nil))) (pe_op op_mod (pv 2) pe_int) (fun _ _ => rfl)))
      (pss_cons (ps_if (pt_cmpR op_eq (pv 2) pe_int (nomark _))
      (pss_one (ps_set (i := 5) sc_law_value.nd rfl (Or.inl rfl) (pe_ix (show IxR _ (rIxL K) from ix_list) (pe_lst (pa_cons pe_int (pa_cons pe_int (pa_cons pe_int (pa_cons pe_int (pa_cons pe_int (pa_cons pe_int (pa_cons pe_int (pa_cons pe_int pa_nil))))))))) (pe_cal c__law_draw (hr.mono (by decide)) (by rfl) pass0 (pa_cons (pv 0) (pa_cons pe_int pa_nil))) (fun _ _ => rfl))))
      pss_nil)
      (pss_one (ps_set (i := 3) sc_law_value.nd rfl (Or.inl rfl) (pe_op op_add (pe_op op_mul pe_int (pv 3)) (pv 5)))))))
      (pss_one (ps_ret (pv 3)))))), S.ext ex ?_⟩
    try dsimp only [cxOf]
    walk_at "go"
    refine drawn bs ok (by omega) Ex.rf (by decide) (by decide) fun way s1 w0 w1 ok1 => ?_
    walk_at "go"
    refine ⟨_, _, rfl, ?_⟩
    walk_at "go"
    refine ite2 (fun z => ?_) (fun z => ?_)
    · walk_at "go"
      refine drawn bs ok1 (by omega) Ex.rf (by decide) (by decide) fun g s2 g0 g1 ok2 => ?_
      refine ⟨_, ⟨g.toNat, s2, by rw [Int.toNat_of_nonneg g0], ?_, ok2.mono (by omega), rfl⟩, Ex.rf⟩
      have : 1000 ^ (0 + 1) ≤ 1000 ^ (Ta.scales.length + 1) := Nat.pow_le_pow_right (by decide) (by omega)
      omega
    · obtain ⟨o, te, sc, ha, hb, hc, hd⟩ := hT.up (src_ex (s := s1) bs.na bs.nd)
      walk_at "go"
      refine s_forR1 ?_
      walk_at "go"
      rw [List.length_map]
      refine ⟨_, fun i σ' H' => ∃ (s' : Sst) (fnd : Nat) (z4 z5 : Option V), σ' = [some (.ref a), some (.ref t), some (.int way), some (.int fnd), z4, z5] ∧ fnd < 1000 ^ i ∧ s'.Ok (B + 1 + 4 * i) ∧ H' = SrcH Hb a dg s', rfl, by omega, by omega, ⟨s1, 0, _, _, rfl, by decide, ok1.mono (by omega), rfl⟩, fun i σ' H' hi h => ?_, fun σ' H' h => ?_⟩
      · obtain ⟨s2, fnd, z4, z5, rfl, hf, ok2, rfl⟩ := h
        have hw : way ≠ 3 := fun e => z (by rw [e]; rfl)
        have hi21 : i < 21 := by omega
        walk_at "go"
        refine drawn bs ok2 (by omega) Ex.rf (by decide) (by decide) fun g1 s3 a0 a1 ok3 => ?_
        walk_at "go"
        refine drawn bs ok3 (by omega) Ex.rf (by decide) (by decide) fun g2 s4 b0 b1 ok4 => ?_
        walk_at "go"
        refine drawn bs ok4 (by omega) Ex.rf (by decide) (by decide) fun g3 s5 c0 c1 ok5 => ?_
        walk_at "go"
        refine r_I (C := CDivW) ⟨by decide, by decide⟩ ?_
        walk_at "go"
        refine ⟨by walk_at "sz", fun q nq => ?_⟩
        obtain ⟨nq0, nqa, nqd⟩ := src_free nq
        rw [src_push nqa nqd]
        walk_at "go"
        obtain ⟨gr, hgr, r0, r1⟩ : ∃ gr : Int, atI [V.int g1, V.int (g2 * (g3 / 3))] (way % 2) = some (.int gr) ∧ 0 ≤ gr ∧ gr < 1000 := by
          have h2 : way % 2 = 0 ∨ way % 2 = 1 := by omega
          have h3 : g3 / 3 = 0 ∨ g3 / 3 = 1 := by omega
          rcases h2 with h2 | h2 <;> rw [h2]
          · exact ⟨g1, rfl, a0, a1⟩
          · rcases h3 with h3 | h3 <;> rw [h3]
            · exact ⟨_, rfl, by omega, by omega⟩
            · exact ⟨_, rfl, by omega, by omega⟩
        refine r_ixL (Or.inl (Or.inl (src_get nqa nqd upd_same))) hgr ?_
        have fin : ∀ (gr : Int), 0 ≤ gr → gr < 1000 → ∃ m : Nat, 1000 * (fnd : Int) + gr = (m : Int) ∧ m < 1000 ^ (i + 1) := fun gr r0 r1 => ⟨1000 * fnd + gr.toNat, by omega, by rw [Nat.pow_succ]; omega⟩
        walk_at "go"
        refine ite2 (fun zw => ?_) (fun zw => ?_)
        · refine S.ext (src_up (ex_new nq0)) ?_
          walk_at "go"
          refine ⟨by walk_at "sz", fun q2 nq2 => ?_⟩
          obtain ⟨nq20, nq2a, nq2d⟩ := src_free nq2
          rw [src_push nq2a nq2d]
          walk_at "go"
          refine drawn (bs.upd nq2a nq2d) ok5 (by omega) Ex.rf (by decide) (by decide) fun g4 s6 d0 d1 ok6 => ?_
          walk_at "go"
          obtain ⟨gr, hgr, r0, r1⟩ : ∃ gr : Int, atI [V.int 0, V.int 100, V.int 20, V.int 7, V.int 300, V.int 90, V.int 15, V.int 110] g4 = some (.int gr) ∧ 0 ≤ gr ∧ gr < 1000 := by
            have h2 : g4 = 0 ∨ g4 = 1 ∨ g4 = 2 ∨ g4 = 3 ∨ g4 = 4 ∨ g4 = 5 ∨ g4 = 6 ∨ g4 = 7 := by omega
            rcases h2 with rfl | rfl | rfl | rfl | rfl | rfl | rfl | rfl
            all_goals exact ⟨_, rfl, by decide, by decide⟩
          refine r_ixL (Or.inl (Or.inl (src_get nq2a nq2d upd_same))) hgr ?_
          walk_at "go"
          obtain ⟨m, e, hm⟩ := fin gr r0 r1
          exact ⟨_, ⟨s6, m, _, _, by rw [← e]; rfl, hm, ok6.mono (by omega), rfl⟩, src_up (ex_new nq20)⟩
        · walk_at "go"
          obtain ⟨m, e, hm⟩ := fin gr r0 r1
          exact ⟨_, ⟨s5, m, _, _, by rw [← e]; rfl, hm, ok5.mono (by omega), rfl⟩, src_up (ex_new nq0)⟩
      · obtain ⟨s2, fnd, z4, z5, rfl, hf, ok2, rfl⟩ := h
        walk_at "go"
        have e : ((Ta.scales.length : Int) + 1).toNat = Ta.scales.length + 1 := by omega
        rw [e] at hf
        exact ⟨_, ⟨fnd, s2, rfl, hf, ok2.mono (by omega), rfl⟩, Ex.rf⟩
end
end Mb


namespace Mb
open PySem PyProof.Rows L2
open Evl (Ex)
section
variable {P : Program} {w : World} {K : PySem.W.Frag} {mg : Str → Option Value} {base : Heap} {cc : Addr}
theorem grpsAt_ne {n : Nat} (h : 0 < n) : ∃ x ∈ grpsAt 0 n, 0 < x.1 := by
  suffices ∀ n i, 0 < n → ∃ x ∈ grpsAt i n, 0 < x.1 from this n 0 h
  intro n
  induction n using Nat.strongRecOn with
  | _ n ih =>
    intro i h
    rw [grpsAt_pos h]
    by_cases h2 : 0 < n % 1000
    · exact ⟨(n % 1000, i), List.mem_append_right _ (by rw [if_pos h2]; exact List.mem_singleton.mpr rfl), h2⟩
    · obtain ⟨x, hx, h3⟩ := ih (n / 1000) (by omega) (i + 1) (by omega)
      exact ⟨x, List.mem_append_left _ hx, h3⟩
theorem group_ne (T : Tab) {g : Nat} (h : 0 < g) (h2 : g < 1000) : T.group g ≠ [] := by
  unfold Tab.group
  by_cases h3 : 0 < g / 100
  · rw [if_pos h3]
    exact List.cons_ne_nil _ _
  · rw [if_neg h3, List.nil_append]
    unfold Tab.below
    rw [if_neg (by omega)]
    split
    · exact List.cons_ne_nil _ _
    · split <;> exact List.cons_ne_nil _ _
theorem flat_ne (T : Tab) {n : Nat} (h : 0 < n) : (grpsAt 0 n).flatMap T.part ≠ [] := by
  obtain ⟨x, hx, h2⟩ := grpsAt_ne h
  have h3 := (grpsAt_mem n 0 x hx).2.1
  intro e
  have h4 : T.part x = [] := List.flatMap_eq_nil_iff.mp e x hx
  unfold Tab.part at h4
  exact group_ne T h2 h3 (List.append_eq_nil_iff.mp h4).1
theorem eqv_strs_nil (xs : List Str) : PyData.eqv (.list (xs.map PyData.str)) (.list []) = xs.isEmpty := by
  cases xs <;> rfl
theorem abc_small : ∀ c ∈ abc.cps.toList, c < 0x110000 := by decide +kernel
theorem strOk_of {x : Str} (h : isWord x = true) : PyData.strOk x = true := by
  unfold isWord at h
  rw [Bool.and_eq_true, Bool.and_eq_true] at h
  unfold PyData.strOk
  rw [Array.all_eq_true_iff_forall_mem]
  intro c hc
  exact decide_eq_true (abc_small c (of_decide_eq_true (List.all_eq_true.mp h.2 c (Array.mem_toList_iff.mpr hc))))
theorem lay_strs : ∀ xs : List Str, (∀ x ∈ xs, isWord x = true) → PyData.canLayAll0 (xs.map PyData.str) = true
  | [], _ => rfl
  | x :: r, h => by
    rw [List.map_cons, PyData.canLayAll0, lay_strs r (fun y hy => h y (List.mem_cons_of_mem _ hy)), Bool.and_true]
    exact strOk_of (h x List.mem_cons_self)
theorem shaped_strs {xs : List Str} (h : ∀ x ∈ xs, isWord x = true) : SeqAt.shaped (.list (xs.map PyData.str)) = true := by
  unfold SeqAt.shaped
  rw [PyData.canLay0, lay_strs xs h, PyData.depth, depth_strs]
  rfl
theorem ite_via {b : Bool} {ta tb : TS} {D : KE} {σ : Sg} {H : Hp} (M : Sg → Hp → Prop) (h1 : b = true → S ta ⟨M, D.rt, D.bk, D.ct⟩ σ H) (h2 : b = false → S tb ⟨M, D.rt, D.bk, D.ct⟩ σ H) (k : ∀ σ H, M σ H → D.nx σ H) : if b = true then S ta D σ H else S tb D σ H := by
  cases b
  · rw [if_neg Bool.false_ne_true]
    exact (h2 rfl).mono k (fun _ _ z => z) (fun _ _ z => z) (fun _ _ z => z)
  · rw [if_pos rfl]
    exact (h1 rfl).mono k (fun _ _ z => z) (fun _ _ z => z) (fun _ _ z => z)
theorem below_eq (T : Tab) {m : Nat} (h : m < 100) : T.below m = (if 19 < m then [T.ten (m / 10 - 2)] else []) ++ (if 0 < (if 19 < m then m % 10 else m) then [T.one (if 19 < m then m % 10 else m)] else []) := by
  unfold Tab.below
  by_cases h0 : m = 0
  · subst h0
    rfl
  rw [if_neg h0]
  by_cases h1 : m < 20
  · have h3 : ¬ 19 < m := by omega
    rw [if_pos h1, if_neg h3, if_neg h3, if_pos (Nat.pos_of_ne_zero h0)]
    rfl
  · have h3 : 19 < m := by omega
    rw [if_neg h1, if_pos h3, if_pos h3]
    by_cases h2 : m % 10 = 0
    · rw [if_pos h2, if_neg (by omega)]
      rfl
    · rw [if_neg h2, if_pos (by omega)]
      rfl
abbrev Sp_law_words (K : PySem.W.Frag) : Sp := Sp_words_in K
theorem ok_law_words {f : Addr} {fd : FuncData} (F : Fun K "_law_words" "_law_words" s_law_words f fd) (T : Bi mg) : FnOk P w K mg base CX0 1 f fd ["chart", "value"] (Sp_law_words K) := by
  refine okP F sc_law_words (fun x vs H h => ?_) (fun cdv A outer s H E x vs H0 hr h => ?_)
  · rw [h.1]
    rfl
  · obtain ⟨t, Ta, n⟩ := x
    obtain ⟨rfl, ⟨o, te, sc, ha, hb, hc, hd⟩, ok, hn⟩ := h
    dsimp only at *
    have hs := ok.s
    have hlim : ∀ i, 0 < n / 1000 ^ i → i < Ta.scales.length + 1 := by
      intro i hi
      refine Nat.lt_of_not_le fun hle => ?_
      have h1 : 1000 ^ (Ta.scales.length + 1) ≤ 1000 ^ i := Nat.pow_le_pow_right (by decide) hle
      have := Nat.div_eq_of_lt (Nat.lt_of_lt_of_le hn h1)
      omega
    refine ⟨_, (pss_cons (ps_par (i := 2) (j := 3) rfl sc_law_words.nd rfl rfl (by decide) rfl rfl (pa_cons (pe_lst pa_nil) (pa_cons (pe_lst pa_nil) pa_nil)) rfl)
      (pss_cons (ps_while PassesOwn.never (pt_cmpR op_gt (pv 1) pe_int (nomark _))
      (pss_cons (ps_expr (pe_bm PySem.F.plainAttrs_list PySem.F.slot_list_append PySem.F.type_list_append mt_append (pv 3) (pa_cons (pe_op op_mod (pv 1) pe_int) pa_nil)))
      (pss_one (ps_set (i := 1) sc_law_words.nd rfl (Or.inl rfl) (pe_op op_fdivW (pv 1) pe_int)))))
      (pss_cons (ps_for PassesOwn.never rfl (pi_range3 (by rfl) T.range_ (pa_cons (pe_op op_sub (pe_callB cr_lenS (by rfl) T.len_ boot_len (pa_cons (pv 3) pa_nil)) pe_int) (pa_cons (pe_un un_neg pe_int) (pa_cons (pe_un un_neg pe_int) pa_nil)))) (pg_name (i := 4) sc_law_words.nd rfl (Or.inl rfl))
      (pss_cons (ps_set (i := 5) sc_law_words.nd rfl (Or.inl rfl) (pe_ix (show IxR _ (rIxL K) from ix_list) (pv 3) (pv 4) (fun _ _ => rfl)))
      (pss_cons (ps_if (pt_cmpR op_gt (pv 5) pe_int (nomark _))
      (pss_one (ps_expr (pe_bm PySem.F.plainAttrs_list PySem.F.slot_list_extend PySem.F.type_list_extend mt_extend (pv 2) (pa_cons (pe_lst (pa_cons (pe_ix (show IxR _ (rIxL K) from ix_list) (pe_ix (show IxR _ (rIxT K) from ix_tup) (pv 0) pe_int (fun _ _ => rfl)) (pe_op op_fdivW (pv 5) pe_int) (fun _ _ => rfl)) (pa_cons (pe_ix (show IxR _ (rIxT K) from ix_tup) (pv 0) pe_int (fun _ _ => rfl)) pa_nil))) pa_nil))))
      pss_nil)
      (pss_cons (ps_set (i := 6) sc_law_words.nd rfl (Or.inl rfl) (pe_op op_mod (pv 5) pe_int))
      (pss_cons (ps_if (pt_cmpR op_gt (pv 6) pe_int (nomark _))
      (pss_cons (ps_expr (pe_bm PySem.F.plainAttrs_list PySem.F.slot_list_append PySem.F.type_list_append mt_append (pv 2) (pa_cons (pe_ix (show IxR _ (rIxL K) from ix_list) (pe_ix (show IxR _ (rIxT K) from ix_tup) (pv 0) pe_int (fun _ _ => rfl)) (pe_op op_sub (pe_op op_fdivW (pv 6) pe_int) pe_int) (fun _ _ => rfl)) pa_nil)))
      (pss_one (ps_set (i := 6) sc_law_words.nd rfl (Or.inl rfl) (pe_op op_mod (pv 6) pe_int))))
      pss_nil)
      (pss_cons (ps_if (pt_cmpR op_gt (pv 6) pe_int (nomark _))
      (pss_one (ps_expr (pe_bm PySem.F.plainAttrs_list PySem.F.slot_list_append PySem.F.type_list_append mt_append (pv 2) (pa_cons (pe_ix (show IxR _ (rIxL K) from ix_list) (pe_ix (show IxR _ (rIxT K) from ix_tup) (pv 0) pe_int (fun _ _ => rfl)) (pv 6) (fun _ _ => rfl)) pa_nil))))
      pss_nil)
      (pss_one (ps_if (PW.pt (pw_and (pt_cmpR op_gt (pv 5) pe_int (nomark _)) (pw_and1 (pt_cmpR op_gt (pv 4) pe_int (nomark _)))))
      (pss_one (ps_expr (pe_bm PySem.F.plainAttrs_list PySem.F.slot_list_append PySem.F.type_list_append mt_append (pv 2) (pa_cons (pe_ix (show IxR _ (rIxL K) from ix_list) (pe_ix (show IxR _ (rIxT K) from ix_tup) (pv 0) pe_int (fun _ _ => rfl)) (pe_op op_sub (pv 4) pe_int) (fun _ _ => rfl)) pa_nil))))
      pss_nil))))))))
      (pss_one (ps_ret (pe_ifExp (pt_cmpR (op_neD hr.units) (pv 2) (pe_lst pa_nil) (nomark _)) (pv 2) (pe_lst (pa_cons (pe_ix (show IxR _ (rIxL K) from ix_list) (pe_ix (show IxR _ (rIxT K) from ix_tup) (pv 0) pe_int (fun _ _ => rfl)) pe_int (fun _ _ => rfl)) pa_nil)))))))), ?_⟩
    try dsimp only [cxOf]
    walk_at "go"
    refine ⟨by walk_at "sz", fun p1 n1 => ?_⟩
    walk_at "go"
    refine ⟨by walk_at "sz", fun p2 n2 => ?_⟩
    walk_at "go"
    refine ⟨_, _, rfl, ?_⟩
    obtain ⟨n20, n21⟩ := free_of n2
    walk_at "go"
    refine s_while (fun m σ' H' => ∃ i : Nat, σ' = [some (.ref t), some (.int (n / 1000 ^ i : Nat)), some (.ref p1), some (.ref p2), none, none, none] ∧ m = n / 1000 ^ i ∧ (∀ j, j < i → 0 < n / 1000 ^ j) ∧ H' = upd (upd H0 p1 (.lst [])) p2 (.lst (((List.range i).map fun j => (((n / 1000 ^ j % 1000 : Nat) : Int))).map V.int))) n ⟨0, by rw [Nat.pow_zero, Nat.div_one]; rfl, by rw [Nat.pow_zero, Nat.div_one], fun j hj => absurd hj (Nat.not_lt_zero _), rfl⟩ (fun m σ' H' h => ?_)
    obtain ⟨i, rfl, rfl, hpos, rfl⟩ := h
    walk_at "go"
    refine ite2 (fun z => ?_) (fun z => ?_)
    · have hp : 0 < n / 1000 ^ i := by have := of_decide_eq_true z; omega
      have hi := hlim i hp
      walk_at "go"
      refine ⟨Or.inl ⟨rfl, _, sl_same⟩, ?_⟩
      walk_at "go"
      refine m_append upd_same ?_ ?_
      · rw [List.length_map, List.length_map, List.length_range, sizeLine_eq]; omega
      rw [upd_upd]
      walk_at "go"
      refine r_I (C := CDivW) ⟨by decide, by decide⟩ ?_
      walk_at "go"
      have e1 : n / 1000 ^ (i + 1) = n / 1000 ^ i / 1000 := by rw [Nat.pow_succ, Nat.div_div_eq_div_mul]
      refine ⟨n / 1000 ^ (i + 1), by omega, _, ⟨i + 1, ?_, rfl, ?_, ?_⟩, Ex.rf⟩
      · rw [e1]
        rfl
      · intro j hj
        rcases Nat.lt_succ_iff_lt_or_eq.mp hj with h | rfl
        · exact hpos j h
        · exact hp
      · rw [List.range_succ, List.map_append, List.map_append]
        rfl
    · have hz0 : n / 1000 ^ i = 0 := by
        refine Nat.eq_zero_of_not_pos fun h => z (decide_eq_true ?_)
        omega
      have hi21 : i ≤ 21 := by
        cases i with
        | zero => omega
        | succ i => have := hlim i (hpos i (Nat.lt_succ_self i)); omega
      walk_at "go"
      refine s_forR3 ?_
      walk_at "go"
      rw [List.length_map, List.length_map, List.length_range]
      refine ⟨(i : Int) - 1, -1, -1, i, fun k σ' H' => ∃ z4 z5 z6, σ' = [some (.ref t), some (.int 0), some (.ref p1), some (.ref p2), z4, z5, z6] ∧ H' = upd (upd H0 p1 (.lst (((grpsAt (i - k) (n / 1000 ^ (i - k))).flatMap Ta.part).map V.str))) p2 (.lst (((List.range i).map fun j => (((n / 1000 ^ j % 1000 : Nat) : Int))).map V.int)), rfl, ?_, ?_, fun k σ' H' hk h => ?_, fun σ' H' h => ?_⟩
      · have := RgC.neg (i := (i : Int) - 1) (j := -1) (by omega) (by omega) (by omega) (by omega)
        have e : ((i : Int) - 1 - -1).toNat = i := by omega
        rw [e] at this
        exact this
      · refine ⟨none, none, none, by rw [hz0]; rfl, ?_⟩
        rw [Nat.sub_zero, hz0, grpsAt_zero]
        rfl
      · obtain ⟨z4, z5, z6, rfl, rfl⟩ := h
        have e0 : (i : Int) - 1 + (k : Int) * -1 = ((i - 1 - k : Nat) : Int) := by omega
        have e1 : i - k = i - 1 - k + 1 := by omega
        have e2 : i - (k + 1) = i - 1 - k := by omega
        rw [e0, e1]
        have hsi : i - 1 - k < i := by omega
        generalize i - 1 - k = sp at *
        have hps := hpos sp hsi
        have hsp := hlim sp hps
        have e3 : n / 1000 ^ (sp + 1) = n / 1000 ^ sp / 1000 := by rw [Nat.pow_succ, Nat.div_div_eq_div_mul]
        generalize hW : (grpsAt (sp + 1) (n / 1000 ^ (sp + 1))).flatMap Ta.part = W0
        have hlen : W0.length ≤ 110 := by
          have h1 := flat_len Ta (grpsAt (sp + 1) (n / 1000 ^ (sp + 1)))
          have h2 := grpsAt_len (Ta.scales.length + 1) (n / 1000 ^ (sp + 1)) (sp + 1) (Nat.lt_of_le_of_lt (Nat.div_le_self _ _) hn)
          rw [hW] at h1
          omega
        generalize hg : n / 1000 ^ sp % 1000 = g
        have hg3 : g < 1000 := by rw [← hg]; exact Nat.mod_lt _ (by decide)
        have hfin : (grpsAt sp (n / 1000 ^ sp)).flatMap Ta.part = W0 ++ ((if 0 < g / 100 then [Ta.one (g / 100), Ta.hundred] else []) ++ ((if 19 < g % 100 then [Ta.ten (g % 100 / 10 - 2)] else []) ++ ((if 0 < (if 19 < g % 100 then g % 100 % 10 else g % 100) then [Ta.one (if 19 < g % 100 then g % 100 % 10 else g % 100)] else []) ++ (if 0 < g ∧ 0 < sp then [Ta.sca (sp - 1)] else [])))) := by
          rw [grpsAt_pos hps, List.flatMap_append, ← e3, hW, hg]
          congr 1
          by_cases h0 : 0 < g
          · rw [if_pos h0, List.flatMap_cons, List.flatMap_nil, List.append_nil]
            unfold Tab.part Tab.group
            dsimp only
            rw [below_eq Ta (Nat.mod_lt g (by decide)), List.append_assoc, List.append_assoc]
            by_cases h1 : 0 < sp
            · rw [if_pos h1, if_pos (c := 0 < g ∧ 0 < sp) ⟨h0, h1⟩]
            · rw [if_neg h1, if_neg (c := 0 < g ∧ 0 < sp) (fun z => h1 z.2)]
          · have : g = 0 := by omega
            subst this
            rfl
        walk_at "go"
        refine r_ixL sl_same (i := ((sp : Nat) : Int)) (v := .int g) ?_ ?_
        · refine atI_nat ?_
          rw [List.getElem?_map, List.getElem?_map, List.getElem?_range hsi]
          show some (V.int ((n / 1000 ^ sp % 1000 : Nat) : Int)) = _
          rw [hg]
        walk_at "go"
        generalize hG : (HO.lst (((List.range i).map fun j => (((n / 1000 ^ j % 1000 : Nat) : Int))).map V.int)) = G
        have hq : ∀ W G, SqT K (upd (upd H0 p1 W) p2 G) t [.ref o, .ref te, .str Ta.hundred, .ref sc] ∧ SqL K (upd (upd H0 p1 W) p2 G) o (Ta.ones.map V.str) ∧ SqL K (upd (upd H0 p1 W) p2 G) te (Ta.tens.map V.str) ∧ SqL K (upd (upd H0 p1 W) p2 G) sc (Ta.scales.map V.str) :=
          fun W G => ⟨st_new (up_free n21 n20) (st_new n1 ha), sl_new (up_free n21 n20) (sl_new n1 hb), sl_new (up_free n21 n20) (sl_new n1 hc), sl_new (up_free n21 n20) (sl_new n1 hd)⟩
        have at1 : ∀ W G, upd (upd H0 p1 W) p2 G p1 = some W := fun W G => up_ne n21.symm upd_same
        have swap : ∀ X Y G, upd (upd (upd H0 p1 X) p2 G) p1 Y = upd (upd H0 p1 Y) p2 G := fun X Y G => by rw [upd_comm n21.symm, upd_upd, upd_comm n21]
        have c1 := ok.o
        have c2 := ok.t
        refine ite_via (fun σ H => σ = [some (.ref t), some (.int 0), some (.ref p1), some (.ref p2), some (.int sp), some (.int g), z6] ∧ Ex (upd (upd H0 p1 (.lst ((W0 ++ (if 0 < g / 100 then [Ta.one (g / 100), Ta.hundred] else [])).map V.str))) p2 G) H) (fun z => ?_) (fun z => ?_) ?_
        · have h99 : 99 < g := by have := of_decide_eq_true z; omega
          obtain ⟨qa, qb, qc, qd⟩ := hq (.lst (W0.map V.str)) G
          walk_at "go"
          refine ⟨Or.inl ⟨rfl, _, Or.inl (Or.inl (at1 _ _))⟩, ?_⟩
          walk_at "go"
          refine r_I (C := CDivW) ⟨by decide, by decide⟩ ?_
          walk_at "go"
          refine r_ixL qb (at_str (by omega) (by omega)) ?_
          walk_at "go"
          refine ⟨by walk_at "sz", fun q nq => ?_⟩
          walk_at "go"
          refine m_extend (up_new nq (at1 _ _)) upd_same ?_ ?_
          · rw [List.length_map, sizeLine_eq]
            show _ + 2 ≤ _
            omega
          obtain ⟨nq2, nqp2⟩ := free_of nq
          obtain ⟨nq3, nqp1⟩ := free_of nq2
          refine ⟨rfl, ?_⟩
          rw [if_pos (by omega), upd_comm nqp1, swap, List.map_append]
          have e : ((g : Int) / 100).toNat = g / 100 := by omega
          rw [e]
          exact ex_new (up_free nqp2 (up_free nqp1 nq3))
        · refine s_next ⟨rfl, ?_⟩
          rw [if_neg (by have := of_decide_eq_false z; omega), List.append_nil]
          exact Ex.rf
        · rintro σ H ⟨rfl, e⟩
          refine S.ext e ?_
          generalize hW1 : W0 ++ (if 0 < g / 100 then [Ta.one (g / 100), Ta.hundred] else []) = W1
          have hlen1 : W1.length ≤ 112 := by
            rw [← hW1, List.length_append]
            split <;> simp <;> omega
          obtain ⟨qa, qb, qc, qd⟩ := hq (.lst (W1.map V.str)) G
          walk_at "go"
          have hm : g % 100 < 100 := Nat.mod_lt _ (by decide)
          refine ite_via (fun σ H => σ = [some (.ref t), some (.int 0), some (.ref p1), some (.ref p2), some (.int sp), some (.int g), some (.int (if 19 < g % 100 then g % 100 % 10 else g % 100 : Nat))] ∧ Ex (upd (upd H0 p1 (.lst ((W1 ++ (if 19 < g % 100 then [Ta.ten (g % 100 / 10 - 2)] else [])).map V.str))) p2 G) H) (fun z => ?_) (fun z => ?_) ?_
          · have h19 : 19 < g % 100 := by have := of_decide_eq_true z; omega
            walk_at "go"
            refine ⟨Or.inl ⟨rfl, _, Or.inl (Or.inl (at1 _ _))⟩, ?_⟩
            walk_at "go"
            refine r_I (C := CDivW) ⟨by decide, by decide⟩ ?_
            walk_at "go"
            refine r_ixL qc (at_str (by omega) (by omega)) ?_
            walk_at "go"
            refine m_append (at1 _ _) ?_ ?_
            · rw [List.length_map, sizeLine_eq]; omega
            rw [swap]
            walk_at "go"
            have e : ((g : Int) % 100 / 10 - 2).toNat = g % 100 / 10 - 2 := by omega
            refine ⟨by rw [if_pos h19]; rfl, ?_⟩
            rw [if_pos h19, List.map_append, e]
            exact Ex.rf
          · have h19 : ¬ 19 < g % 100 := by have := of_decide_eq_false z; omega
            refine s_next ⟨by rw [if_neg h19]; rfl, ?_⟩
            rw [if_neg h19, List.append_nil]
            exact Ex.rf
          · rintro σ H ⟨rfl, e⟩
            refine S.ext e ?_
            generalize hW2 : W1 ++ (if 19 < g % 100 then [Ta.ten (g % 100 / 10 - 2)] else []) = W2
            have hlen2 : W2.length ≤ 114 := by
              rw [← hW2, List.length_append]
              split <;> simp <;> omega
            generalize hL : (if 19 < g % 100 then g % 100 % 10 else g % 100) = L at *
            have hL20 : L < 20 := by rw [← hL]; split <;> omega
            obtain ⟨qa, qb, qc, qd⟩ := hq (.lst (W2.map V.str)) G
            walk_at "go"
            refine ite_via (fun σ H => σ = [some (.ref t), some (.int 0), some (.ref p1), some (.ref p2), some (.int sp), some (.int g), some (.int L)] ∧ Ex (upd (upd H0 p1 (.lst ((W2 ++ (if 0 < L then [Ta.one L] else [])).map V.str))) p2 G) H) (fun z => ?_) (fun z => ?_) ?_
            · have h0 : 0 < L := by have := of_decide_eq_true z; omega
              walk_at "go"
              refine ⟨Or.inl ⟨rfl, _, Or.inl (Or.inl (at1 _ _))⟩, ?_⟩
              walk_at "go"
              refine r_ixL qb (at_str (by omega) (by omega)) ?_
              walk_at "go"
              refine m_append (at1 _ _) ?_ ?_
              · rw [List.length_map, sizeLine_eq]; omega
              rw [swap]
              refine ⟨rfl, ?_⟩
              rw [if_pos h0, List.map_append]
              exact Ex.rf
            · have h0 : ¬ 0 < L := by have := of_decide_eq_false z; omega
              refine s_next ⟨rfl, ?_⟩
              rw [if_neg h0, List.append_nil]
              exact Ex.rf
            · rintro σ H ⟨rfl, e⟩
              refine S.ext e ?_
              generalize hW3 : W2 ++ (if 0 < L then [Ta.one L] else []) = W3
              have hlen3 : W3.length ≤ 116 := by
                rw [← hW3, List.length_append]
                split <;> simp <;> omega
              obtain ⟨qa, qb, qc, qd⟩ := hq (.lst (W3.map V.str)) G
              walk_at "go"
              have hfin2 : (grpsAt (i - (k + 1)) (n / 1000 ^ (i - (k + 1)))).flatMap Ta.part = W3 ++ (if 0 < g ∧ 0 < sp then [Ta.sca (sp - 1)] else []) := by
                rw [e2, hfin, ← hW3, ← hW2, ← hW1]
                simp only [List.append_assoc]
              refine ite2 (fun z1 => ?_) (fun z1 => ?_)
              · have hg0 : 0 < g := by have := of_decide_eq_true z1; omega
                walk_at "go"
                refine ite2 (fun z2 => ?_) (fun z2 => ?_)
                · have hs0 : 0 < sp := by have := of_decide_eq_true z2; omega
                  walk_at "go"
                  refine ⟨Or.inl ⟨rfl, _, Or.inl (Or.inl (at1 _ _))⟩, ?_⟩
                  walk_at "go"
                  refine r_ixL qd (at_str (by omega) (by omega)) ?_
                  walk_at "go"
                  refine m_append (at1 _ _) ?_ ?_
                  · rw [List.length_map, sizeLine_eq]; omega
                  rw [swap]
                  refine ⟨_, ⟨_, _, _, rfl, rfl⟩, ?_⟩
                  have e : ((sp : Int) - 1).toNat = sp - 1 := by omega
                  rw [hfin2, if_pos ⟨hg0, hs0⟩, List.map_append, e]
                  exact Ex.rf
                · have hs0 : ¬ 0 < sp := fun h => z2 (decide_eq_true (by omega))
                  refine s_next ⟨_, ⟨_, _, _, rfl, rfl⟩, ?_⟩
                  rw [hfin2, if_neg (fun h => hs0 h.2), List.append_nil]
                  exact Ex.rf
              · have hg0 : ¬ 0 < g := fun h => z1 (decide_eq_true (by omega))
                walk_at "go"
                refine ⟨_, ⟨_, _, _, rfl, rfl⟩, ?_⟩
                rw [hfin2, if_neg (fun h => hg0 h.1), List.append_nil]
                exact Ex.rf
      · obtain ⟨z4, z5, z6, rfl, rfl⟩ := h
        rw [Nat.sub_self, Nat.pow_zero, Nat.div_one]
        have hwl := wordsIn_len ok hn
        have hww : ∀ x ∈ (grpsAt 0 n).flatMap Ta.part, isWord x = true := by
          intro x hx
          have h0 : n ≠ 0 := fun e => by rw [e, grpsAt_zero] at hx; cases hx
          refine ok.w x (wordsIn_mem ok hn x ?_)
          unfold Tab.wordsIn
          rw [if_neg h0]
          exact hx
        generalize hW : (grpsAt 0 n).flatMap Ta.part = W at *
        walk_at "go"
        refine ⟨by decide, fun b nb => ?_⟩
        refine r_ned (d := .list (W.map PyData.str)) (e := .list []) (.lst (Or.inl (Or.inl (up_new nb (up_ne n21.symm upd_same)))) (dpStrs _)) (.lst (Or.inl (Or.inl upd_same)) .nil) (shaped_strs hww) rfl ?_
        rw [eqv_strs_nil]
        refine ⟨_, rfl, ?_⟩
        refine ite2 (fun z => ?_) (fun z => ?_)
        · walk_at "go"
          have h0 : n ≠ 0 := by
            intro e
            rw [e, grpsAt_zero] at hW
            rw [← hW] at z
            cases z
          refine ⟨_, ⟨p1, rfl, n1, rfl⟩, ?_⟩
          unfold Tab.wordsIn
          rw [if_neg h0, hW]
          exact (ex_new (up_free n21 n20)).trans (ex_new nb)
        · have h0 : n = 0 := by
            refine Nat.eq_zero_of_not_pos fun h => z ?_
            have := flat_ne Ta h
            rw [hW] at this
            cases W with
            | nil => exact absurd rfl this
            | cons a r => rfl
          have qb : SqL K (upd (upd (upd H0 p1 (.lst (W.map V.str))) p2 (.lst (((List.range i).map fun j => (((n / 1000 ^ j % 1000 : Nat) : Int))).map V.int))) b (.lst [])) o (Ta.ones.map V.str) := sl_new nb (sl_new (up_free n21 n20) (sl_new n1 hb))
          have qa : SqT K (upd (upd (upd H0 p1 (.lst (W.map V.str))) p2 (.lst (((List.range i).map fun j => (((n / 1000 ^ j % 1000 : Nat) : Int))).map V.int))) b (.lst [])) t [.ref o, .ref te, .str Ta.hundred, .ref sc] := st_new nb (st_new (up_free n21 n20) (st_new n1 ha))
          have c1 := ok.o
          walk_at "go"
          refine r_ixL qb (at_str (by decide) (by show 0 < _; omega)) ?_
          walk_at "go"
          refine ⟨by walk_at "sz", fun q nq => ?_⟩
          obtain ⟨nq1, k1⟩ := free_of nq
          obtain ⟨nq2, k2⟩ := free_of nq1
          obtain ⟨nq3, k3⟩ := free_of nq2
          refine ⟨_, ⟨q, rfl, nq3, rfl⟩, ?_⟩
          unfold Tab.wordsIn
          rw [if_pos h0]
          exact ex_upd ((ex_new n1).trans ((ex_new (up_free n21 n20)).trans (ex_new nb)))
abbrev Sp_law_letters (K : PySem.W.Frag) : Sp := Sp_letters_in K
theorem ok_law_letters {f : Addr} {fd : FuncData} (F : Fun K "_law_letters" "_law_letters" s_law_letters f fd) (T : Bi mg)
    (c__law_words : CalF P w K mg base 1 "_law_words" ["chart", "value"] (Sp_law_words K)) : FnOk P w K mg base CX0 2 f fd ["chart", "value"] (Sp_law_letters K) := by
  refine okP F sc_law_letters (fun x vs H h => ?_) (fun cdv A outer s H E x vs H0 hr h => ?_)
  · rw [h.1]
    rfl
  · obtain ⟨t, Ta, n⟩ := x
    obtain ⟨rfl, hT, ok, hn⟩ := h
    dsimp only at *
    refine ⟨_, (pss_one (ps_ret (pe_callB (cr_sum rfl) (by rfl) T.sum_ boot_sum (pa_cons (pe_lc (own := [("word", 2)]) (g := gName 2) (tt := tYes) rfl sc_law_letters.nd (pi_list (pe_cal c__law_words (hr.mono (by decide)) (by rfl) pass0 (pa_cons (pv 0) (pa_cons (pv 1) pa_nil)))) (blkOk_by (N := N_law_letters) (sc := defScope s_law_letters) (own := [("word", 2)]) (by decide +kernel)) (fun _ _ _ _ _ => (pg_name (i := 2) sc_law_letters.nd rfl (Or.inl rfl))) (fun _ _ _ _ _ => pts_nil) (fun _ _ _ _ _ => (pe_callB cr_lenZ (by rfl) T.len_ boot_len (pa_cons (pv 2) pa_nil)))) pa_nil)))), ?_⟩
    try dsimp only [cxOf]
    walk_at "go"
    have hl := wordsIn_len ok hn
    refine w_lcL_mapE (fun v => match v with | .str s => .int (s.length : Int) | _ => .non) (fun _ => rfl) ?_
    walk_at "go"
    refine ⟨(t, Ta, n), ⟨rfl, hT, ok, hn⟩, ?_⟩
    rintro v H2 ⟨p, rfl, np, rfl⟩
    refine ⟨p, _, rfl, sl_same, ?_, fun x hx H' K' e k => ?_, fun q nq => ?_⟩
    · rw [List.length_map, sizeLine_eq]; dsimp only; omega
    · obtain ⟨s, hs, rfl⟩ := List.mem_map.mp hx
      have := isWord1000 ok (wordsIn_mem ok hn s hs)
      walk_at "go"
      exact k
    · walk_at "go"
      refine c_sum (ns := (Ta.wordsIn n).map fun s => (s.length : Int)) ?_ ?_
      · rw [List.map_map, List.map_map]
        exact sl_same
      · refine ⟨_, ⟨?_, rfl⟩, (ex_new np).trans (ex_new nq)⟩
        unfold lets
        rw [← sum_cast, List.map_map]
        rfl
end
end Mb


namespace Mb
open PySem PyProof.Rows L2
open Evl (Ex)
section
variable {P : Program} {w : World} {K : PySem.W.Frag} {mg : Str → Option Value} {base : Heap} {cc : Addr}
def gvNT : List V → List V → List V := fun _ zs => match zs with
  | [n, t] => [t, n]
  | _ => []
def tabData (T : Tab) : PyData := .tuple [.list (T.ones.map PyData.str), .list (T.tens.map PyData.str), .str T.hundred, .list (T.scales.map PyData.str)]
theorem tab_dp {H : Hp} {t : Addr} {T : Tab} (h : TabAt K H t T) : Dp K H (.ref t) (tabData T) := by
  obtain ⟨o, te, s, a, b, c, d⟩ := h
  exact .tup a (.cons (.lst b (dpStrs _)) (.cons (.lst c (dpStrs _)) (.cons (.str _) (.cons (.lst d (dpStrs _)) .nil))))
theorem shown_strs {xs : List Str} (h : ∀ x ∈ xs, isWord x = true) (hl : xs.length ≤ 20) : (PyData.shown (.list (xs.map PyData.str))).length ≤ 5000 := by
  rw [PyData.shown, shownAll_map]
  have := listText_le (B := 202) (ts := (xs.map PyData.str).map PyData.shown) (by
    intro t ht
    rw [List.map_map] at ht
    obtain ⟨x, hx, rfl⟩ := List.mem_map.mp ht
    show (PyData.shown (.str x)).length ≤ 202
    rw [PyData.shown]
    have h1 := PySem.StrLaws.reprText_len x (fun c hc => by
      have := h x hx
      unfold isWord at this
      rw [Bool.and_eq_true] at this
      have := abc_small c (of_decide_eq_true (List.all_eq_true.mp this.2 c hc))
      omega)
    have h2 := (isWord_len (h x hx)).2
    omega)
  rw [List.length_map, List.length_map] at this
  have h3 : xs.length * 204 ≤ 20 * 204 := Nat.mul_le_mul_right _ hl
  omega
theorem tab_shown {T : Tab} (ok : T.Ok) : (tabData T).shown.length ≤ sizeLine := by
  have h1 : ∀ x ∈ T.ones, isWord x = true := fun x hx => ok.w x (by unfold Tab.words; simp [hx])
  have h2 : ∀ x ∈ T.tens, isWord x = true := fun x hx => ok.w x (by unfold Tab.words; simp [hx])
  have h3 : ∀ x ∈ T.scales, isWord x = true := fun x hx => ok.w x (by unfold Tab.words; simp [hx])
  have h4 : isWord T.hundred = true := ok.w _ hun_mem
  have k1 := shown_strs h1 (by rw [ok.o]; omega)
  have k2 := shown_strs h2 (by rw [ok.t]; omega)
  have k3 := shown_strs h3 ok.s
  have k4 : (PyData.shown (.str T.hundred)).length ≤ 5000 := by
    rw [PyData.shown]
    have h1 := PySem.StrLaws.reprText_len T.hundred (fun c hc => by
      unfold isWord at h4
      rw [Bool.and_eq_true] at h4
      have := abc_small c (of_decide_eq_true (List.all_eq_true.mp h4.2 c hc))
      omega)
    have h2 := (isWord_len h4).2
    omega
  unfold tabData
  rw [PyData.shown, shownAll_map]
  have := tupleText_le (B := 5000) (ts := [PyData.list (T.ones.map PyData.str), .list (T.tens.map PyData.str), .str T.hundred, .list (T.scales.map PyData.str)].map PyData.shown) (List.cons_ne_nil _ _) (by
    intro t ht
    rcases List.mem_cons.mp ht with rfl | ht
    · exact k1
    rcases List.mem_cons.mp ht with rfl | ht
    · exact k2
    rcases List.mem_cons.mp ht with rfl | ht
    · exact k4
    rcases List.mem_cons.mp ht with rfl | ht
    · exact k3
    cases ht)
  rw [sizeLine_eq]
  rw [List.length_map] at this
  simp only [List.length_cons, List.length_nil] at this
  omega
theorem tab_showable (T : Tab) : (tabData T).showable = true := by
  unfold tabData
  simp only [PyData.showable, PyData.showableAll, sshow_strs]
  rfl
theorem tab_hasD (T : Tab) : (tabData T).hasDict = false := by
  unfold tabData
  simp only [PyData.hasDict, PyData.hasDictAll, hasD_strs]
  rfl
theorem tab_depth (T : Tab) : (tabData T).depth ≤ 60 := by
  unfold tabData
  simp only [PyData.depth, PyData.depthAll, depth_strs]
  decide
theorem small21 : 21 < 1000 ^ ((eng 1).scales.length + 1) := by decide +kernel
theorem small0 : 0 < 1000 ^ ((eng 0).scales.length + 1) := by decide +kernel
theorem lets21 : lets ((eng 1).wordsIn 21) = 9 := by
  have e : grpsAt 0 21 = [(21, 0)] := by
    rw [grpsAt_pos (by decide)]
    rw [show 21 / 1000 = 0 from rfl, grpsAt_zero]
    rfl
  unfold Tab.wordsIn
  rw [if_neg (by decide), e]
  decide +kernel
theorem lets0 : lets ((eng 0).wordsIn 0) = 4 := by
  unfold Tab.wordsIn
  rw [if_pos rfl]
  decide +kernel
abbrev Sp_law (K : PySem.W.Frag) : Sp := Pr (fun (x : Addr × List Int) vs H => vs = [.ref x.1] ∧ SqL K H x.1 (x.2.map V.int) ∧ x.2.length ≤ 63) (fun _ _ v _ => v = .bl true)
theorem ok_law {f : Addr} {fd : FuncData} (F : Fun K "law" "law" s_law f fd) (T : Bi mg)
    (c__law_source : CalF P w K mg base 1 "_law_source" ["script"] (Sp_law_source K))
    (c__law_table : CalF P w K mg base 2 "_law_table" ["source", "most"] (Sp_law_table K))
    (c__law_whole : CalF P w K mg base 1 "_law_whole" ["chart"] (Sp_law_whole K))
    (c__law_value : CalF P w K mg base 2 "_law_value" ["source", "chart"] (Sp_law_value K))
    (c__law_letters : CalF P w K mg base 2 "_law_letters" ["chart", "value"] (Sp_law_letters K))
    (c__law_same : CalF P w K mg base 2 "_law_same" ["found", "due"] (Sp_law_same K 1))
    (c_letters : CalF P w K mg base 5 "letters" ["table", "number"] (Sp_letters_in K))
    (c_letters_kw : CalW P w K mg base CX0 5 "letters" ["number", "table"] 0 gvNT (Sp_letters_in K))
    (c_english : CalF P w K mg base 1 "english" ["scales"] (Sp_english K)) : FnG P w K mg base CX0 6 f fd ["script"] (Sp_law K) := by
  refine okG F sc_law (fun x vs H h => ?_) (fun cdv A outer s H E x vs H0 hG hr h => ?_)
  · rw [h.1]
    rfl
  · obtain ⟨sa, ns⟩ := x
    obtain ⟨rfl, hS, hl⟩ := h
    dsimp only at *
    refine ⟨_, (pss_cons (ps_set (i := 1) sc_law.nd rfl (Or.inr rfl) (pe_cal c__law_source (hr.mono (by decide)) (by rfl) pass0 (pa_cons (pv 0) pa_nil)))
      (pss_cons (ps_for PassesOwn.never rfl (pi_range1 (by rfl) T.range_ (pa_cons (pe_op op_add pe_int (pe_callB (cr_min2 rfl) (by rfl) T.min_ boot_min (pa_cons pe_int (pa_cons (pe_callB cr_lenS (by rfl) T.len_ boot_len (pa_cons (pv 0) pa_nil)) pa_nil)))) pa_nil)) (pg_name (i := 2) sc_law.nd rfl (Or.inl rfl))
      (pss_cons (ps_set (i := 3) sc_law.nd rfl (Or.inr rfl) (pe_cal c__law_table (hr.mono (by decide)) (by rfl) pass0 (pa_cons (pv 1) (pa_cons pe_int pa_nil))))
      (pss_cons (ps_par (i := 4) (j := 5) rfl sc_law.nd rfl rfl (by decide) rfl rfl (pa_cons (pe_callB (cr_repr hG hr.units) (by rfl) T.repr_ boot_repr (pa_cons (pv 3) pa_nil)) (pa_cons (pe_op op_sub (pe_cal c__law_whole (hr.mono (by decide)) (by rfl) pass0 (pa_cons (pv 3) pa_nil)) pe_int) pa_nil)) rfl)
      (pss_cons (ps_for PassesOwn.never rfl (pi_list (pe_op op_cat (pe_lc (own := [("time", 8)]) (g := gName 8) (tt := tYes) rfl sc_law.nd (pi_range1 (by rfl) T.range_ (pa_cons pe_int pa_nil)) (blkOk_by (N := N_law) (sc := defScope s_law) (own := [("time", 8)]) (by decide +kernel)) (fun _ _ _ _ _ => (pg_name (i := 8) sc_law.nd rfl (Or.inl rfl))) (fun _ _ _ _ _ => pts_nil) (fun _ _ _ _ _ => (pe_cal c__law_value (hr.mono (by decide)) (by rfl) pass0 (pa_cons (pv 1) (pa_cons (pv 3) pa_nil))))) (pe_lst (pa_cons pe_int (pa_cons pe_int (pa_cons pe_int (pa_cons pe_int (pa_cons pe_int (pa_cons pe_int (pa_cons pe_int (pa_cons pe_int (pa_cons (pv 5) pa_nil)))))))))))) (pg_name (i := 6) sc_law.nd rfl (Or.inl rfl))
      (pss_cons (ps_set (i := 7) sc_law.nd rfl (Or.inl rfl) (pe_cal c__law_letters (hr.mono (by decide)) (by rfl) pass0 (pa_cons (pv 3) (pa_cons (pv 6) pa_nil))))
      (pss_one (ps_if (pt_not (pt_val (pe_cal c__law_same (hr.mono (by decide)) (by rfl) pass0 (pa_cons (pe_lst (pa_cons (pe_cal c_letters (hr.mono (by decide)) (by rfl) pass0 (pa_cons (pv 3) (pa_cons (pv 6) pa_nil))) (pa_cons (pe_calW0 c_letters_kw hG (hr.mono (by decide)) (by rfl) pass0 (pk_cons (pv 6) (pk_cons (pv 3) pk_nil))) pa_nil))) (pa_cons (pe_lst (pa_cons (pv 7) (pa_cons (pv 7) pa_nil))) pa_nil)))))
      (pss_one (ps_ret pe_bl))
      pss_nil))))
      (pss_one (ps_if (pt_cmpR op_ne (pe_callB (cr_repr hG hr.units) (by rfl) T.repr_ boot_repr (pa_cons (pv 3) pa_nil)) (pv 4) (nomark _))
      (pss_one (ps_ret pe_bl))
      pss_nil))))))
      (pss_one (ps_ret (pe_and (pe_cmpR op_eq (pe_cal c_letters (hr.mono (by decide)) (by rfl) pass0 (pa_cons (pe_cal c_english (hr.mono (by decide)) (by rfl) pass0 (pa_cons pe_int pa_nil)) (pa_cons pe_int pa_nil))) pe_int (nomark _)) (pe_one (pe_cmpR op_eq (pe_cal c_letters (hr.mono (by decide)) (by rfl) pass0 (pa_cons (pe_cal c_english (hr.mono (by decide)) (by rfl) pass0 (pa_cons pe_int pa_nil)) (pa_cons pe_int pa_nil))) pe_int (nomark _)))))))), ?_⟩
    try dsimp only [cxOf]
    walk_at "go"
    refine ⟨(sa, ns), ⟨rfl, hS, hl⟩, ?_⟩
    rintro v H2 ⟨a, dg, st, rfl, bs, ok, rfl⟩
    have hS1 : SqL K (SrcH H0 a dg st) sa (ns.map V.int) := Evl.ex_l (src_ex bs.na bs.nd) hS
    walk_at "go"
    refine s_forR1 ?_
    walk_at "go"
    rw [List.length_map]
    refine ⟨_, fun i σ' H' => ∃ (Hb : Hp) (s' : Sst) (z2 z3 z4 z5 z6 z7 : Option V), σ' = [some (.ref sa), some (.ref a), z2, z3, z4, z5, z6, z7, none] ∧ Beside Hb a dg ∧ s'.Ok (2400 * i) ∧ H' = SrcH Hb a dg s', rfl, ?_, ?_, ⟨H0, st, _, _, _, _, _, _, rfl, bs, ok.mono (by omega), rfl⟩, fun i σ' H' hi h => ?_, fun σ' H' h => ?_⟩
    · split <;> omega
    · split <;> omega
    · obtain ⟨Hb, s1, z2, z3, z4, z5, z6, z7, rfl, bs1, ok1, rfl⟩ := h
      have hi6 : i < 6 := by
        have : (2 + if ((ns.length : Nat) : Int) < 4 then ((ns.length : Nat) : Int) else 4) ≤ 6 := by split <;> omega
        omega
      walk_at "go"
      refine ⟨⟨a, dg, s1, Hb, 20, 2400 * i⟩, ⟨rfl, Ex.rf, bs1, ok1, by dsimp only; omega, by dsimp only; omega, by dsimp only; omega⟩, ?_⟩
      rintro v H2 ⟨t, Ta, Hc, s2, rfl, okT, hT, eHc, bs2, ok2, rfl⟩
      dsimp only at bs2 ok2
      have hT2 : ∀ {H' : Hp}, Ex Hc H' → TabAt K H' t Ta := fun e => hT.up e
      walk_at "go"
      obtain ⟨sv, hsv⟩ : ∃ sv, (tabData Ta).shown = sv := ⟨_, rfl⟩
      refine c_repr (tab_dp (hT2 (src_ex bs2.na bs2.nd))) (tab_showable Ta) (tab_hasD Ta) (tab_depth Ta) (tab_shown okT) ?_
      rw [hsv]
      walk_at "go"
      refine ⟨(t, Ta), ⟨rfl, hT2 (src_ex bs2.na bs2.nd), okT.s⟩, ?_⟩
      rintro v H2 ⟨hv, rfl⟩
      have hv : v = V.int (1000 ^ (Ta.scales.length + 1)) := hv
      subst hv
      walk_at "go"
      refine ⟨_, _, rfl, ?_⟩
      walk_at "go"
      refine s_forL ?_
      walk_at "go"
      refine w_lcR1 ?_
      walk_at "go"
      refine ⟨_, rfl, by decide, by decide, fun Dl nd => ?_⟩
      obtain ⟨nd0, nda, ndd⟩ := src_free nd
      refine ⟨fun j H' => ∃ (ms : List Nat) (s' : Sst), ms.length = j ∧ (∀ m ∈ ms, m < 1000 ^ (Ta.scales.length + 1)) ∧ s'.Ok (2400 * i + 1100 + 100 * j) ∧ H' = SrcH (upd Hc Dl (.lst (ms.map fun (m : Nat) => V.int (m : Int)))) a dg s', ⟨[], s2, rfl, (fun m h => nomatch h), ok2.mono (by omega), src_push nda ndd⟩, fun j H' hj h => ?_, fun H' h => ?_⟩
      · obtain ⟨ms, s3, hml, hms, ok3, rfl⟩ := h
        have bs3 : Beside (upd Hc Dl (.lst (ms.map fun (m : Nat) => V.int (m : Int)))) a dg := bs2.upd nda ndd
        have hj12 : j < 12 := hj
        refine g_name ⟨rfl, wt_yes ?_⟩
        rw [if_pos rfl]
        walk_at "go"
        refine ⟨⟨a, dg, s3, upd Hc Dl (.lst (ms.map fun (m : Nat) => V.int (m : Int))), 2400 * i + 1100 + 100 * j, t, Ta⟩, ⟨rfl, Ex.rf, bs3, ok3, by dsimp only; omega, hT2 (ex_new nd0), okT.s⟩, ?_⟩
        rintro v H2 ⟨m, s4, rfl, hm, ok4, rfl⟩
        dsimp only at hm ok4
        refine ⟨_, src_get nda ndd upd_same, ?_, ?_⟩
        · rw [List.length_map, sizeLine_eq]; omega
        rw [src_push nda ndd, upd_upd]
        refine ⟨_, ⟨ms ++ [m], s4, ?_, ?_, ok4.mono (by omega), ?_⟩, Ex.rf⟩
        · rw [List.length_append, hml]; rfl
        · intro x hx
          rcases List.mem_append.mp hx with hx | hx
          · exact hms x hx
          · rw [List.mem_singleton.mp hx]
            exact hm
        · rw [List.map_append]
          rfl
      · obtain ⟨ms, s3, hml, hms, ok3, rfl⟩ := h
        have bs3 : Beside (upd Hc Dl (.lst (ms.map fun (m : Nat) => V.int (m : Int)))) a dg := bs2.upd nda ndd
        walk_at "go"
        refine ⟨by walk_at "sz", fun p1 n1 => ?_⟩
        obtain ⟨n10, n1a, n1d⟩ := src_free n1
        rw [src_push n1a n1d]
        refine r_cat (src_get nda ndd (up_new n10 upd_same)) (src_get n1a n1d upd_same) ?_ fun p2 n2 => ?_
        · rw [List.length_map, sizeLine_eq]
          show _ + 9 ≤ _
          have : (12 : Int).toNat = 12 := rfl
          omega
        obtain ⟨n20, n2a, n2d⟩ := src_free n2
        rw [src_push n2a n2d]
        obtain ⟨Hd, hHd, eHd, bsd, hp2⟩ : ∃ Hd, upd (upd (upd Hc Dl (.lst (ms.map fun (m : Nat) => V.int (m : Int)))) p1 (.lst [.int 0, .int 1, .int 10, .int 19, .int 20, .int 99, .int 100, .int 999, .int (1000 ^ (Ta.scales.length + 1) - 1)])) p2 (.lst ((ms.map fun (m : Nat) => V.int (m : Int)) ++ [.int 0, .int 1, .int 10, .int 19, .int 20, .int 99, .int 100, .int 999, .int (1000 ^ (Ta.scales.length + 1) - 1)])) = Hd ∧ Ex Hc Hd ∧ Beside Hd a dg ∧ Hd p2 = some (.lst ((ms ++ [0, 1, 10, 19, 20, 99, 100, 999, 1000 ^ (Ta.scales.length + 1) - 1]).map fun (m : Nat) => V.int (m : Int))) := by
          refine ⟨_, rfl, (ex_new nd0).trans ((ex_new n10).trans (ex_new n20)), (bs3.upd n1a n1d).upd n2a n2d, ?_⟩
          rw [upd_same, List.map_append]
          have e : ((1000 ^ (Ta.scales.length + 1) - 1 : Nat) : Int) = 1000 ^ (Ta.scales.length + 1) - 1 := by
            rw [Int.natCast_sub (Nat.one_le_pow _ _ (by decide)), Int.natCast_pow]
            rfl
          show some (HO.lst (_ ++ [V.int 0, V.int 1, V.int 10, V.int 19, V.int 20, V.int 99, V.int 100, V.int 999, V.int (1000 ^ (Ta.scales.length + 1) - 1)])) = some (HO.lst (_ ++ [V.int 0, V.int 1, V.int 10, V.int 19, V.int 20, V.int 99, V.int 100, V.int 999, V.int ((1000 ^ (Ta.scales.length + 1) - 1 : Nat) : Int)]))
          rw [e]
        have hys : ∀ m ∈ ms ++ [0, 1, 10, 19, 20, 99, 100, 999, 1000 ^ (Ta.scales.length + 1) - 1], m < 1000 ^ (Ta.scales.length + 1) := by
          have h1 : 1000 ^ 1 ≤ 1000 ^ (Ta.scales.length + 1) := Nat.pow_le_pow_right (by decide) (by omega)
          intro m hm
          rcases List.mem_append.mp hm with hm | hm
          · exact hms m hm
          · simp only [List.mem_cons, List.not_mem_nil, or_false] at hm
            omega
        generalize ms ++ [0, 1, 10, 19, 20, 99, 100, 999, 1000 ^ (Ta.scales.length + 1) - 1] = ys at *
        rw [hHd]
        refine ⟨p2, ys.map fun (m : Nat) => V.int (m : Int), fun i' σ' H' => ∃ z6 z7, σ' = [some (.ref sa), some (.ref a), some (.int i), some (.ref t), some (.str sv), some (.int (1000 ^ (Ta.scales.length + 1) - 1)), z6, z7, none] ∧ H' = SrcH Hd a dg s3, rfl, Or.inl (Or.inl (src_get n2a n2d hp2)), ⟨_, _, rfl, rfl⟩, fun i' σ' H' hi' h => ?_, fun i' x σ' H' hi' h => ?_, fun σ' H' h => ?_⟩
        · obtain ⟨z6, z7, rfl, rfl⟩ := h
          exact Or.inl (Or.inl (src_get n2a n2d hp2))
        · obtain ⟨z6, z7, rfl, rfl⟩ := h
          obtain ⟨m, hm, rfl⟩ := map_get hi'
          have hm2 := hys m (List.mem_of_getElem? hm)
          have hTd : TabAt K (SrcH Hd a dg s3) t Ta := hT2 (eHd.trans (src_ex bsd.na bsd.nd))
          walk_at "go"
          obtain ⟨L, hL⟩ : ∃ L, lets (Ta.wordsIn m) = L := ⟨_, rfl⟩
          refine ⟨(t, Ta, m), ⟨rfl, hTd, okT, hm2⟩, ?_⟩
          rintro v H2 ⟨hv, rfl⟩
          have hv : v = V.int (lets (Ta.wordsIn m)) := hv
          rw [hL] at hv
          subst hv
          walk_at "go"
          refine ⟨(t, Ta, m), ⟨rfl, hTd, okT, hm2⟩, ?_⟩
          rintro v H2 ⟨hv, rfl⟩
          have hv : v = V.int (lets (Ta.wordsIn m)) := hv
          rw [hL] at hv
          subst hv
          walk_at "go"
          refine ⟨rfl, rfl, (t, Ta, m), ⟨rfl, hTd, okT, hm2⟩, ?_⟩
          rintro v H2 ⟨hv, rfl⟩
          have hv : v = V.int (lets (Ta.wordsIn m)) := hv
          rw [hL] at hv
          subst hv
          walk_at "go"
          refine ⟨by walk_at "sz", fun q1 m1 => ?_⟩
          walk_at "go"
          refine ⟨by walk_at "sz", fun q2 m2 => ?_⟩
          walk_at "go"
          refine ⟨(.ref q1, .ref q2), ⟨rfl, ?_⟩, ?_⟩
          · rw [Eqd]
            refine Or.inr ⟨q1, q2, [.int L, .int L], [.int L, .int L], rfl, rfl, Or.inl ⟨sl_new m2 sl_same, sl_same⟩, rfl, by show ((2 : Nat) : Int) < _; decide, fun i a b h1 h2 => ?_⟩
            have hb : b ∈ [V.int L, V.int L] := List.mem_of_getElem? h2
            rw [h1] at h2
            have e := Option.some.inj h2
            subst e
            have : a = V.int L := by simpa using hb
            rw [this]
            unfold Eqd
            exact Or.inr (Or.inr (Or.inl ⟨_, rfl, rfl⟩))
          rintro v H2 ⟨rfl, rfl⟩
          refine ⟨true, rfl, ?_⟩
          refine ite_f (by rfl) (s_next ?_)
          exact ⟨_, ⟨_, _, rfl, rfl⟩, (ex_new m1).trans (ex_new m2)⟩
        · obtain ⟨z6, z7, rfl, rfl⟩ := h
          have hTd : TabAt K (SrcH Hd a dg s3) t Ta := hT2 (eHd.trans (src_ex bsd.na bsd.nd))
          walk_at "go"
          refine c_repr (tab_dp hTd) (tab_showable Ta) (tab_hasD Ta) (tab_depth Ta) (tab_shown okT) ?_
          rw [hsv]
          refine w_var rfl ?_
          refine r_ne rfl ?_
          refine ⟨_, rfl, ?_⟩
          refine ite_f (by rw [decide_eq_true rfl]; rfl) (s_next ?_)
          refine ⟨_, ⟨Hd, s3, _, _, _, _, _, _, rfl, bsd, ok3.mono ?_, rfl⟩, Ex.rf⟩
          have : (12 : Int).toNat = 12 := rfl
          rw [this]
          omega
    · obtain ⟨Hb, s1, z2, z3, z4, z5, z6, z7, rfl, bs1, ok1, rfl⟩ := h
      walk_at "go"
      refine ⟨1, ⟨rfl, by decide⟩, ?_⟩
      rintro v H2 ⟨t, N, rfl, ap, tt, rfl⟩
      walk_at "go"
      refine ⟨(t, eng 1, 21), ⟨rfl, tt.up (ex_plusR ap), eng_ok 1 (by decide), small21⟩, ?_⟩
      rintro v H2 ⟨hv, rfl⟩
      have hv : v = V.int (lets ((eng 1).wordsIn 21)) := hv
      rw [lets21] at hv
      subst hv
      walk_at "go"
      refine ⟨0, ⟨rfl, by decide⟩, ?_⟩
      rintro v H2 ⟨t2, N2, rfl, ap2, tt2, rfl⟩
      walk_at "go"
      refine ⟨(t2, eng 0, 0), ⟨rfl, tt2.up (ex_plusR ap2), eng_ok 0 (by decide), small0⟩, ?_⟩
      rintro v H2 ⟨hv, rfl⟩
      have hv : v = V.int (lets ((eng 0).wordsIn 0)) := hv
      rw [lets0] at hv
      subst hv
      walk_at "go"
      exact ⟨_, by show V.bl (decide (V.int 4 = V.int 4)) = V.bl true; rw [decide_eq_true rfl], Ex.rf⟩
end
end Mb

end
namespace Mb
open PySem PyProof.Rows L2
theorem all_mk {P : Program} {w : World} {K : PySem.W.Frag} {mg : Str → Option Value} {h : Heap} {fa : Addr} (X : K.In h) (G : h.Ns mainGlobals mg) (hfa : mg "law" = some (.ref fa))
    {f0 : Addr} {oc0 kV0 dc0 pm0 cd0 ct0 : Value} {od0 an0 : Option Addr} {sl0 : Array (Option Value)}
    {f1 : Addr} {oc1 kV1 dc1 pm1 cd1 ct1 : Value} {od1 an1 : Option Addr} {sl1 : Array (Option Value)}
    {f2 : Addr} {oc2 kV2 dc2 pm2 cd2 ct2 : Value} {od2 an2 : Option Addr} {sl2 : Array (Option Value)}
    {f3 : Addr} {oc3 kV3 dc3 pm3 cd3 ct3 : Value} {od3 an3 : Option Addr} {sl3 : Array (Option Value)}
    {f4 : Addr} {oc4 kV4 dc4 pm4 cd4 ct4 : Value} {od4 an4 : Option Addr} {sl4 : Array (Option Value)}
    {f5 : Addr} {oc5 kV5 dc5 pm5 cd5 ct5 : Value} {od5 an5 : Option Addr} {sl5 : Array (Option Value)}
    {f6 : Addr} {oc6 kV6 dc6 pm6 cd6 ct6 : Value} {od6 an6 : Option Addr} {sl6 : Array (Option Value)}
    {f7 : Addr} {oc7 kV7 dc7 pm7 cd7 ct7 : Value} {od7 an7 : Option Addr} {sl7 : Array (Option Value)}
    {f8 : Addr} {oc8 kV8 dc8 pm8 cd8 ct8 : Value} {od8 an8 : Option Addr} {sl8 : Array (Option Value)}
    {f9 : Addr} {oc9 kV9 dc9 pm9 cd9 ct9 : Value} {od9 an9 : Option Addr} {sl9 : Array (Option Value)}
    {f10 : Addr} {oc10 kV10 dc10 pm10 cd10 ct10 : Value} {od10 an10 : Option Addr} {sl10 : Array (Option Value)}
    {f11 : Addr} {oc11 kV11 dc11 pm11 cd11 ct11 : Value} {od11 an11 : Option Addr} {sl11 : Array (Option Value)}
    {f12 : Addr} {oc12 kV12 dc12 pm12 cd12 ct12 : Value} {od12 an12 : Option Addr} {sl12 : Array (Option Value)}
    {f13 : Addr} {oc13 kV13 dc13 pm13 cd13 ct13 : Value} {od13 an13 : Option Addr} {sl13 : Array (Option Value)}
    {f14 : Addr} {oc14 kV14 dc14 pm14 cd14 ct14 : Value} {od14 an14 : Option Addr} {sl14 : Array (Option Value)}
    {f15 : Addr} {oc15 kV15 dc15 pm15 cd15 ct15 : Value} {od15 an15 : Option Addr} {sl15 : Array (Option Value)}
    {f16 : Addr} {oc16 kV16 dc16 pm16 cd16 ct16 : Value} {od16 an16 : Option Addr} {sl16 : Array (Option Value)}
    {f17 : Addr} {oc17 kV17 dc17 pm17 cd17 ct17 : Value} {od17 an17 : Option Addr} {sl17 : Array (Option Value)}
    {f18 : Addr} {oc18 kV18 dc18 pm18 cd18 ct18 : Value} {od18 an18 : Option Addr} {sl18 : Array (Option Value)}
    {f19 : Addr} {oc19 kV19 dc19 pm19 cd19 ct19 : Value} {od19 an19 : Option Addr} {sl19 : Array (Option Value)}
    {f20 : Addr} {oc20 kV20 dc20 pm20 cd20 ct20 : Value} {od20 an20 : Option Addr} {sl20 : Array (Option Value)}
    {f21 : Addr} {oc21 kV21 dc21 pm21 cd21 ct21 : Value} {od21 an21 : Option Addr} {sl21 : Array (Option Value)}
    {f22 : Addr} {oc22 kV22 dc22 pm22 cd22 ct22 : Value} {od22 an22 : Option Addr} {sl22 : Array (Option Value)}
    {t_LETTERS : Tok}
    {t_MOST_LETTERS : Tok}
    {t_ONES : Tok}
    {t_TEENS : Tok}
    {t_TENS : Tok}
    {t_SCALES : Tok}
    {t_THOUSAND : Tok}
    {t_HUNDRED : Tok}
    {t_TWENTY : Tok}
    {cc : Addr} {od_COUNTS : Option Addr} {sl_COUNTS : Array (Option Value)} {n_COUNTS_len : Nat} {t_COUNTS0 : Tok} {t_COUNTS1 : Tok}
    (a0 : PySem.W.nsIn K mainGlobals "is_word" = some (some (.ref f0))) (l0 : K.lookup f0 = some ⟨oc0, od0, .func (PySem.W.fnOf "is_word" "is_word" (defArgs s_is_word) (defBody s_is_word) (defScope s_is_word) .none kV0 dc0 pm0 an0 cd0 ct0), sl0⟩) (c0 : PySem.W.codeIn K cd0 "is_word" = true) (k0 : PySem.W.keepIn K (.ref f0) = true)
    (a1 : PySem.W.nsIn K mainGlobals "all_words" = some (some (.ref f1))) (l1 : K.lookup f1 = some ⟨oc1, od1, .func (PySem.W.fnOf "all_words" "all_words" (defArgs s_all_words) (defBody s_all_words) (defScope s_all_words) .none kV1 dc1 pm1 an1 cd1 ct1), sl1⟩) (c1 : PySem.W.codeIn K cd1 "all_words" = true) (k1 : PySem.W.keepIn K (.ref f1) = true)
    (a2 : PySem.W.nsIn K mainGlobals "check_table" = some (some (.ref f2))) (l2 : K.lookup f2 = some ⟨oc2, od2, .func (PySem.W.fnOf "check_table" "check_table" (defArgs s_check_table) (defBody s_check_table) (defScope s_check_table) .none kV2 dc2 pm2 an2 cd2 ct2), sl2⟩) (c2 : PySem.W.codeIn K cd2 "check_table" = true) (k2 : PySem.W.keepIn K (.ref f2) = true)
    (a3 : PySem.W.nsIn K mainGlobals "power_of_thousand" = some (some (.ref f3))) (l3 : K.lookup f3 = some ⟨oc3, od3, .func (PySem.W.fnOf "power_of_thousand" "power_of_thousand" (defArgs s_power_of_thousand) (defBody s_power_of_thousand) (defScope s_power_of_thousand) .none kV3 dc3 pm3 an3 cd3 ct3), sl3⟩) (c3 : PySem.W.codeIn K cd3 "power_of_thousand" = true) (k3 : PySem.W.keepIn K (.ref f3) = true)
    (a4 : PySem.W.nsIn K mainGlobals "limit_in" = some (some (.ref f4))) (l4 : K.lookup f4 = some ⟨oc4, od4, .func (PySem.W.fnOf "limit_in" "limit_in" (defArgs s_limit_in) (defBody s_limit_in) (defScope s_limit_in) .none kV4 dc4 pm4 an4 cd4 ct4), sl4⟩) (c4 : PySem.W.codeIn K cd4 "limit_in" = true) (k4 : PySem.W.keepIn K (.ref f4) = true)
    (a5 : PySem.W.nsIn K mainGlobals "check_number" = some (some (.ref f5))) (l5 : K.lookup f5 = some ⟨oc5, od5, .func (PySem.W.fnOf "check_number" "check_number" (defArgs s_check_number) (defBody s_check_number) (defScope s_check_number) .none kV5 dc5 pm5 an5 cd5 ct5), sl5⟩) (c5 : PySem.W.codeIn K cd5 "check_number" = true) (k5 : PySem.W.keepIn K (.ref f5) = true)
    (a6 : PySem.W.nsIn K mainGlobals "english" = some (some (.ref f6))) (l6 : K.lookup f6 = some ⟨oc6, od6, .func (PySem.W.fnOf "english" "english" (defArgs s_english) (defBody s_english) (defScope s_english) .none kV6 dc6 pm6 an6 cd6 ct6), sl6⟩) (c6 : PySem.W.codeIn K cd6 "english" = true) (k6 : PySem.W.keepIn K (.ref f6) = true)
    (a7 : PySem.W.nsIn K mainGlobals "groups_of" = some (some (.ref f7))) (l7 : K.lookup f7 = some ⟨oc7, od7, .func (PySem.W.fnOf "groups_of" "groups_of" (defArgs s_groups_of) (defBody s_groups_of) (defScope s_groups_of) .none kV7 dc7 pm7 an7 cd7 ct7), sl7⟩) (c7 : PySem.W.codeIn K cd7 "groups_of" = true) (k7 : PySem.W.keepIn K (.ref f7) = true)
    (a8 : PySem.W.nsIn K mainGlobals "words_below_hundred" = some (some (.ref f8))) (l8 : K.lookup f8 = some ⟨oc8, od8, .func (PySem.W.fnOf "words_below_hundred" "words_below_hundred" (defArgs s_words_below_hundred) (defBody s_words_below_hundred) (defScope s_words_below_hundred) .none kV8 dc8 pm8 an8 cd8 ct8), sl8⟩) (c8 : PySem.W.codeIn K cd8 "words_below_hundred" = true) (k8 : PySem.W.keepIn K (.ref f8) = true)
    (a9 : PySem.W.nsIn K mainGlobals "words_of_group" = some (some (.ref f9))) (l9 : K.lookup f9 = some ⟨oc9, od9, .func (PySem.W.fnOf "words_of_group" "words_of_group" (defArgs s_words_of_group) (defBody s_words_of_group) (defScope s_words_of_group) .none kV9 dc9 pm9 an9 cd9 ct9), sl9⟩) (c9 : PySem.W.codeIn K cd9 "words_of_group" = true) (k9 : PySem.W.keepIn K (.ref f9) = true)
    (a10 : PySem.W.nsIn K mainGlobals "words_in" = some (some (.ref f10))) (l10 : K.lookup f10 = some ⟨oc10, od10, .func (PySem.W.fnOf "words_in" "words_in" (defArgs s_words_in) (defBody s_words_in) (defScope s_words_in) .none kV10 dc10 pm10 an10 cd10 ct10), sl10⟩) (c10 : PySem.W.codeIn K cd10 "words_in" = true) (k10 : PySem.W.keepIn K (.ref f10) = true)
    (a11 : PySem.W.nsIn K mainGlobals "letters_of" = some (some (.ref f11))) (l11 : K.lookup f11 = some ⟨oc11, od11, .func (PySem.W.fnOf "letters_of" "letters_of" (defArgs s_letters_of) (defBody s_letters_of) (defScope s_letters_of) .none kV11 dc11 pm11 an11 cd11 ct11), sl11⟩) (c11 : PySem.W.codeIn K cd11 "letters_of" = true) (k11 : PySem.W.keepIn K (.ref f11) = true)
    (a12 : PySem.W.nsIn K mainGlobals "letters_in" = some (some (.ref f12))) (l12 : K.lookup f12 = some ⟨oc12, od12, .func (PySem.W.fnOf "letters_in" "letters_in" (defArgs s_letters_in) (defBody s_letters_in) (defScope s_letters_in) .none kV12 dc12 pm12 an12 cd12 ct12), sl12⟩) (c12 : PySem.W.codeIn K cd12 "letters_in" = true) (k12 : PySem.W.keepIn K (.ref f12) = true)
    (a13 : PySem.W.nsIn K mainGlobals "letters" = some (some (.ref f13))) (l13 : K.lookup f13 = some ⟨oc13, od13, .func (PySem.W.fnOf "letters" "letters" (defArgs s_letters) (defBody s_letters) (defScope s_letters) .none kV13 dc13 pm13 an13 cd13 ct13), sl13⟩) (c13 : PySem.W.codeIn K cd13 "letters" = true) (k13 : PySem.W.keepIn K (.ref f13) = true)
    (a14 : PySem.W.nsIn K mainGlobals "_law_source" = some (some (.ref f14))) (l14 : K.lookup f14 = some ⟨oc14, od14, .func (PySem.W.fnOf "_law_source" "_law_source" (defArgs s_law_source) (defBody s_law_source) (defScope s_law_source) .none kV14 dc14 pm14 an14 cd14 ct14), sl14⟩) (c14 : PySem.W.codeIn K cd14 "_law_source" = true) (k14 : PySem.W.keepIn K (.ref f14) = true)
    (a15 : PySem.W.nsIn K mainGlobals "_law_draw" = some (some (.ref f15))) (l15 : K.lookup f15 = some ⟨oc15, od15, .func (PySem.W.fnOf "_law_draw" "_law_draw" (defArgs s_law_draw) (defBody s_law_draw) (defScope s_law_draw) .none kV15 dc15 pm15 an15 cd15 ct15), sl15⟩) (c15 : PySem.W.codeIn K cd15 "_law_draw" = true) (k15 : PySem.W.keepIn K (.ref f15) = true)
    (a16 : PySem.W.nsIn K mainGlobals "_law_same" = some (some (.ref f16))) (l16 : K.lookup f16 = some ⟨oc16, od16, .func (PySem.W.fnOf "_law_same" "_law_same" (defArgs s_law_same) (defBody s_law_same) (defScope s_law_same) .none kV16 dc16 pm16 an16 cd16 ct16), sl16⟩) (c16 : PySem.W.codeIn K cd16 "_law_same" = true) (k16 : PySem.W.keepIn K (.ref f16) = true)
    (a17 : PySem.W.nsIn K mainGlobals "_law_table" = some (some (.ref f17))) (l17 : K.lookup f17 = some ⟨oc17, od17, .func (PySem.W.fnOf "_law_table" "_law_table" (defArgs s_law_table) (defBody s_law_table) (defScope s_law_table) .none kV17 dc17 pm17 an17 cd17 ct17), sl17⟩) (c17 : PySem.W.codeIn K cd17 "_law_table" = true) (k17 : PySem.W.keepIn K (.ref f17) = true)
    (a18 : PySem.W.nsIn K mainGlobals "_law_whole" = some (some (.ref f18))) (l18 : K.lookup f18 = some ⟨oc18, od18, .func (PySem.W.fnOf "_law_whole" "_law_whole" (defArgs s_law_whole) (defBody s_law_whole) (defScope s_law_whole) .none kV18 dc18 pm18 an18 cd18 ct18), sl18⟩) (c18 : PySem.W.codeIn K cd18 "_law_whole" = true) (k18 : PySem.W.keepIn K (.ref f18) = true)
    (a19 : PySem.W.nsIn K mainGlobals "_law_value" = some (some (.ref f19))) (l19 : K.lookup f19 = some ⟨oc19, od19, .func (PySem.W.fnOf "_law_value" "_law_value" (defArgs s_law_value) (defBody s_law_value) (defScope s_law_value) .none kV19 dc19 pm19 an19 cd19 ct19), sl19⟩) (c19 : PySem.W.codeIn K cd19 "_law_value" = true) (k19 : PySem.W.keepIn K (.ref f19) = true)
    (a20 : PySem.W.nsIn K mainGlobals "_law_words" = some (some (.ref f20))) (l20 : K.lookup f20 = some ⟨oc20, od20, .func (PySem.W.fnOf "_law_words" "_law_words" (defArgs s_law_words) (defBody s_law_words) (defScope s_law_words) .none kV20 dc20 pm20 an20 cd20 ct20), sl20⟩) (c20 : PySem.W.codeIn K cd20 "_law_words" = true) (k20 : PySem.W.keepIn K (.ref f20) = true)
    (a21 : PySem.W.nsIn K mainGlobals "_law_letters" = some (some (.ref f21))) (l21 : K.lookup f21 = some ⟨oc21, od21, .func (PySem.W.fnOf "_law_letters" "_law_letters" (defArgs s_law_letters) (defBody s_law_letters) (defScope s_law_letters) .none kV21 dc21 pm21 an21 cd21 ct21), sl21⟩) (c21 : PySem.W.codeIn K cd21 "_law_letters" = true) (k21 : PySem.W.keepIn K (.ref f21) = true)
    (a22 : PySem.W.nsIn K mainGlobals "law" = some (some (.ref f22))) (l22 : K.lookup f22 = some ⟨oc22, od22, .func (PySem.W.fnOf "law" "law" (defArgs s_law) (defBody s_law) (defScope s_law) .none kV22 dc22 pm22 an22 cd22 ct22), sl22⟩) (c22 : PySem.W.codeIn K cd22 "law" = true) (k22 : PySem.W.keepIn K (.ref f22) = true)
    (n_LETTERS : PySem.W.nsIn K mainGlobals "LETTERS" = some (some (.str abc t_LETTERS)))
    (n_MOST_LETTERS : PySem.W.nsIn K mainGlobals "MOST_LETTERS" = some (some (.int 20 t_MOST_LETTERS)))
    (n_ONES : PySem.W.nsIn K mainGlobals "ONES" = some (some (.str ONESs t_ONES)))
    (n_TEENS : PySem.W.nsIn K mainGlobals "TEENS" = some (some (.str TEENSs t_TEENS)))
    (n_TENS : PySem.W.nsIn K mainGlobals "TENS" = some (some (.str TENSs t_TENS)))
    (n_SCALES : PySem.W.nsIn K mainGlobals "SCALES" = some (some (.str SCALESs t_SCALES)))
    (n_THOUSAND : PySem.W.nsIn K mainGlobals "THOUSAND" = some (some (.int 1000 t_THOUSAND)))
    (n_HUNDRED : PySem.W.nsIn K mainGlobals "HUNDRED" = some (some (.int 100 t_HUNDRED)))
    (n_TWENTY : PySem.W.nsIn K mainGlobals "TWENTY" = some (some (.int 20 t_TWENTY)))
    (n_COUNTS : PySem.W.nsIn K mainGlobals "COUNTS" = some (some (.ref cc))) (l_COUNTS : K.lookup cc = some ⟨.type "tuple", od_COUNTS, .seq #[.int 20 t_COUNTS0, .int 8 t_COUNTS1] n_COUNTS_len, sl_COUNTS⟩)
    (z_len : PySem.W.nsIn K mainGlobals "len" = some none)
    (z_sum : PySem.W.nsIn K mainGlobals "sum" = some none)
    (z_all : PySem.W.nsIn K mainGlobals "all" = some none)
    (z_any : PySem.W.nsIn K mainGlobals "any" = some none)
    (z_max : PySem.W.nsIn K mainGlobals "max" = some none)
    (z_min : PySem.W.nsIn K mainGlobals "min" = some none)
    (z_abs : PySem.W.nsIn K mainGlobals "abs" = some none)
    (z_divmod : PySem.W.nsIn K mainGlobals "divmod" = some none)
    (z_range : PySem.W.nsIn K mainGlobals "range" = some none)
    (z_isinstance : PySem.W.nsIn K mainGlobals "isinstance" = some none)
    (z_repr : PySem.W.nsIn K mainGlobals "repr" = some none)
    (z_sorted : PySem.W.nsIn K mainGlobals "sorted" = some none)
    (z_list : PySem.W.nsIn K mainGlobals "list" = some none)
    (z_int : PySem.W.nsIn K mainGlobals "int" = some none)
    (z_str : PySem.W.nsIn K mainGlobals "str" = some none)
    (z_bool : PySem.W.nsIn K mainGlobals "bool" = some none)
    (z_tuple : PySem.W.nsIn K mainGlobals "tuple" = some none)
    (z_enumerate : PySem.W.nsIn K mainGlobals "enumerate" = some none)
    (z_zip : PySem.W.nsIn K mainGlobals "zip" = some none)
    (z_set : PySem.W.nsIn K mainGlobals "set" = some none)
    (z_reversed : PySem.W.nsIn K mainGlobals "reversed" = some none)
    : ∃ fd : FuncData, (∀ (s : Shared) (v : Value), BindsTo s fd ⟨[v], []⟩ [("script", v)]) ∧ ∀ base : Heap, K.In base → base.Ns mainGlobals mg → FnG P w K mg base CX0 6 fa fd ["script"] (Sp_law K) := by
  have e := hfa.symm.trans (PySem.W.mg_of X G a22)
  cases e
  have F0 := fun_mk (st := s_is_word) l0 c0 k0
  have F1 := fun_mk (st := s_all_words) l1 c1 k1
  have F2 := fun_mk (st := s_check_table) l2 c2 k2
  have F3 := fun_mk (st := s_power_of_thousand) l3 c3 k3
  have F4 := fun_mk (st := s_limit_in) l4 c4 k4
  have F5 := fun_mk (st := s_check_number) l5 c5 k5
  have F6 := fun_mk (st := s_english) l6 c6 k6
  have F7 := fun_mk (st := s_groups_of) l7 c7 k7
  have F8 := fun_mk (st := s_words_below_hundred) l8 c8 k8
  have F9 := fun_mk (st := s_words_of_group) l9 c9 k9
  have F10 := fun_mk (st := s_words_in) l10 c10 k10
  have F11 := fun_mk (st := s_letters_of) l11 c11 k11
  have F12 := fun_mk (st := s_letters_in) l12 c12 k12
  have F13 := fun_mk (st := s_letters) l13 c13 k13
  have F14 := fun_mk (st := s_law_source) l14 c14 k14
  have F15 := fun_mk (st := s_law_draw) l15 c15 k15
  have F16 := fun_mk (st := s_law_same) l16 c16 k16
  have F17 := fun_mk (st := s_law_table) l17 c17 k17
  have F18 := fun_mk (st := s_law_whole) l18 c18 k18
  have F19 := fun_mk (st := s_law_value) l19 c19 k19
  have F20 := fun_mk (st := s_law_words) l20 c20 k20
  have F21 := fun_mk (st := s_law_letters) l21 c21 k21
  have F22 := fun_mk (st := s_law) l22 c22 k22
  have T : Bi mg := ⟨PySem.W.mg_none_of X G z_len, PySem.W.mg_none_of X G z_sum, PySem.W.mg_none_of X G z_all, PySem.W.mg_none_of X G z_any, PySem.W.mg_none_of X G z_max, PySem.W.mg_none_of X G z_min, PySem.W.mg_none_of X G z_abs, PySem.W.mg_none_of X G z_divmod, PySem.W.mg_none_of X G z_range, PySem.W.mg_none_of X G z_isinstance, PySem.W.mg_none_of X G z_repr, PySem.W.mg_none_of X G z_sorted, PySem.W.mg_none_of X G z_list, PySem.W.mg_none_of X G z_int, PySem.W.mg_none_of X G z_str, PySem.W.mg_none_of X G z_bool, PySem.W.mg_none_of X G z_tuple, PySem.W.mg_none_of X G z_enumerate, PySem.W.mg_none_of X G z_zip, PySem.W.mg_none_of X G z_set, PySem.W.mg_none_of X G z_reversed⟩
  have C : Cons K mg cc := ⟨⟨_, PySem.W.mg_of X G n_LETTERS, ⟨_, rfl⟩⟩, ⟨_, PySem.W.mg_of X G n_MOST_LETTERS, ⟨_, rfl⟩⟩, ⟨_, PySem.W.mg_of X G n_ONES, ⟨_, rfl⟩⟩, ⟨_, PySem.W.mg_of X G n_TEENS, ⟨_, rfl⟩⟩, ⟨_, PySem.W.mg_of X G n_TENS, ⟨_, rfl⟩⟩, ⟨_, PySem.W.mg_of X G n_SCALES, ⟨_, rfl⟩⟩, ⟨_, PySem.W.mg_of X G n_COUNTS, rfl⟩, fun _ => Or.inr ⟨_, _, _, l_COUNTS, rfl, rfl, by rw [sizeLine_eq]; show 2 ≤ _; omega, .cons ⟨_, rfl⟩ (.cons ⟨_, rfl⟩ .nil)⟩, ⟨_, PySem.W.mg_of X G n_THOUSAND, ⟨_, rfl⟩⟩, ⟨_, PySem.W.mg_of X G n_HUNDRED, ⟨_, rfl⟩⟩, ⟨_, PySem.W.mg_of X G n_TWENTY, ⟨_, rfl⟩⟩⟩
  refine ⟨PySem.W.fnOf "law" "law" (defArgs s_law) (defBody s_law) (defScope s_law) .none kV22 dc22 pm22 an22 cd22 ct22, fun s v => .of_eq rfl, fun base _ _ => ?_⟩
  have c_is_word := Fun.cal F0 (ps := ["text"]) (P := P) (w := w) (base := base) (ok_is_word F0 T C) (PySem.W.mg_of X G a0) (fun _ _ _ _ _ _ us hl => match us, hl with | [_], _ => rfl)
  have c_all_words := Fun.cal F1 (ps := ["table"]) (P := P) (w := w) (base := base) (ok_all_words F1 T C) (PySem.W.mg_of X G a1) (fun _ _ _ _ _ _ us hl => match us, hl with | [_], _ => rfl)
  have c_check_table := Fun.cal F2 (ps := ["table"]) (P := P) (w := w) (base := base) (ok_check_table F2 T C c_all_words c_is_word) (PySem.W.mg_of X G a2) (fun _ _ _ _ _ _ us hl => match us, hl with | [_], _ => rfl)
  have c_power_of_thousand := Fun.cal F3 (ps := ["exponent"]) (P := P) (w := w) (base := base) (ok_power_of_thousand F3 T) (PySem.W.mg_of X G a3) (fun _ _ _ _ _ _ us hl => match us, hl with | [_], _ => rfl)
  have c_limit_in := Fun.cal F4 (ps := ["table"]) (P := P) (w := w) (base := base) (ok_limit_in F4 T c_power_of_thousand) (PySem.W.mg_of X G a4) (fun _ _ _ _ _ _ us hl => match us, hl with | [_], _ => rfl)
  have c_check_number := Fun.cal F5 (ps := ["table", "number"]) (P := P) (w := w) (base := base) (ok_check_number F5 T c_limit_in) (PySem.W.mg_of X G a5) (fun _ _ _ _ _ _ us hl => match us, hl with | [_, _], _ => rfl)
  have c_english := Fun.cal F6 (ps := ["scales"]) (P := P) (w := w) (base := base) (ok_english F6 T C) (PySem.W.mg_of X G a6) (fun _ _ _ _ _ _ us hl => match us, hl with | [_], _ => rfl)
  have c_groups_of := Fun.cal F7 (ps := ["number"]) (P := P) (w := w) (base := base) (ok_groups_of F7 T C) (PySem.W.mg_of X G a7) (fun _ _ _ _ _ _ us hl => match us, hl with | [_], _ => rfl)
  have c_words_below_hundred := Fun.cal F8 (ps := ["table", "number"]) (P := P) (w := w) (base := base) (ok_words_below_hundred F8 T C) (PySem.W.mg_of X G a8) (fun _ _ _ _ _ _ us hl => match us, hl with | [_, _], _ => rfl)
  have c_words_of_group := Fun.cal F9 (ps := ["table", "group"]) (P := P) (w := w) (base := base) (ok_words_of_group F9 T C c_words_below_hundred) (PySem.W.mg_of X G a9) (fun _ _ _ _ _ _ us hl => match us, hl with | [_, _], _ => rfl)
  have c_words_in := Fun.cal F10 (ps := ["table", "number"]) (P := P) (w := w) (base := base) (ok_words_in F10 T C c_groups_of c_words_of_group) (PySem.W.mg_of X G a10) (fun _ _ _ _ _ _ us hl => match us, hl with | [_, _], _ => rfl)
  have c_letters_of := Fun.cal F11 (ps := ["words"]) (P := P) (w := w) (base := base) (ok_letters_of F11 T) (PySem.W.mg_of X G a11) (fun _ _ _ _ _ _ us hl => match us, hl with | [_], _ => rfl)
  have c_letters_in := Fun.cal F12 (ps := ["table", "number"]) (P := P) (w := w) (base := base) (ok_letters_in F12 T c_letters_of c_words_in) (PySem.W.mg_of X G a12) (fun _ _ _ _ _ _ us hl => match us, hl with | [_, _], _ => rfl)
  have c_letters := Fun.cal F13 (ps := ["table", "number"]) (P := P) (w := w) (base := base) (ok_letters F13 T c_check_table c_check_number c_letters_in) (PySem.W.mg_of X G a13) (fun _ _ _ _ _ _ us hl => match us, hl with | [_, _], _ => rfl)
  have c__law_source := Fun.cal F14 (ps := ["script"]) (P := P) (w := w) (base := base) (ok_law_source F14 T) (PySem.W.mg_of X G a14) (fun _ _ _ _ _ _ us hl => match us, hl with | [_], _ => rfl)
  have c__law_draw := Fun.cal F15 (ps := ["source", "wide"]) (P := P) (w := w) (base := base) (ok_law_draw F15 T) (PySem.W.mg_of X G a15) (fun _ _ _ _ _ _ us hl => match us, hl with | [_, _], _ => rfl)
  have c__law_table := Fun.cal F17 (ps := ["source", "most"]) (P := P) (w := w) (base := base) (ok_law_table F17 T c__law_draw c_english) (PySem.W.mg_of X G a17) (fun _ _ _ _ _ _ us hl => match us, hl with | [_, _], _ => rfl)
  have c__law_whole := Fun.cal F18 (ps := ["chart"]) (P := P) (w := w) (base := base) (ok_law_whole F18 T) (PySem.W.mg_of X G a18) (fun _ _ _ _ _ _ us hl => match us, hl with | [_], _ => rfl)
  have c__law_value := Fun.cal F19 (ps := ["source", "chart"]) (P := P) (w := w) (base := base) (ok_law_value F19 T c__law_draw) (PySem.W.mg_of X G a19) (fun _ _ _ _ _ _ us hl => match us, hl with | [_, _], _ => rfl)
  have c__law_words := Fun.cal F20 (ps := ["chart", "value"]) (P := P) (w := w) (base := base) (ok_law_words F20 T) (PySem.W.mg_of X G a20) (fun _ _ _ _ _ _ us hl => match us, hl with | [_, _], _ => rfl)
  have c__law_letters := Fun.cal F21 (ps := ["chart", "value"]) (P := P) (w := w) (base := base) (ok_law_letters F21 T c__law_words) (PySem.W.mg_of X G a21) (fun _ _ _ _ _ _ us hl => match us, hl with | [_, _], _ => rfl)
  have c__law_same := Fun.cal F16 (ps := ["found", "due"]) (P := P) (w := w) (base := base) (ok_law_same F16 T (fun G1 => Fun.cal F16 G1 (PySem.W.mg_of X G a16) (fun _ _ _ _ _ _ us hl => match us, hl with | [_, _], _ => rfl)) 1) (PySem.W.mg_of X G a16) (fun _ _ _ _ _ _ us hl => match us, hl with | [_, _], _ => rfl)
  have c_letters_kw : CalW P w K mg base CX0 5 "letters" ["number", "table"] 0 gvNT (Sp_letters_in K) := ⟨_, _, _, .of (ok_letters F13 T c_check_table c_check_number c_letters_in), PySem.W.mg_of X G a13, F13.kp, fun us ws => match ws with | [n, t] => [t, n] | _ => [], fun s us ws hu hw => match us, ws, hu, hw with | [], [_, _], _, _ => .of_eq rfl, fun us ws vs zs hu hw r1 r2 => match us, ws, vs, zs, hu, hw, r1, r2 with | [], [_, _], [], [_, _], _, _, .nil, .cons a (.cons b .nil) => .cons b (.cons a .nil)⟩
  exact ok_law F22 T c__law_source c__law_table c__law_whole c__law_value c__law_letters c__law_same c_letters c_letters_kw c_english
theorem walk {l : PySem.W.OpenLaw} {q : Program} {loose : List Str} {XP : (Str → Option Value) → Heap → Prop} {YP : World → Heap → Prop} {d : DefRec} {K : Params → PySem.W.Frag} (hn : l.most = some 63) (hdf : d.params.defaults = [])
    (hY : ∀ (w : World) (h : Heap), YP w h → (K w.params).In h)
    (F : ∀ (w : World) (mg : Str → Option Value) (fa : Addr) (h : Heap), (K w.params).In h → h.Ns mainGlobals mg → mg d.name = some (.ref fa) →
      ∃ fd : FuncData, (∀ (s : Shared) (u : Value), BindsTo s fd ⟨[u], []⟩ [("script", u)]) ∧ ∀ base : Heap, (K w.params).In base → base.Ns mainGlobals mg → FnG l.prog w (K w.params) mg base CX0 6 fa fd ["script"] (Sp_law (K w.params))) :
    PySem.W.WalkO q loose XP YP l.row.toRowW d [] (fun f vs => PySem.call f vs) :=
  walkG (n := 63) (k := 6) (x := "script") (CX := fun _ => CX0) (sp := fun w => Sp_law (K w.params)) hn (by decide) hdf ⟨rfl, by decide, by decide⟩ hY F (fun w H a ns hl hb hO hS => ⟨(a, ns), H, fun _ _ z => z, ⟨rfl, hS, hl⟩, fun _ _ _ z _ => z⟩) (fun _ _ _ _ _ z => z)
end Mb
open PySem PySem.W PyProof.Rows
set_option maxRecDepth 100000 in
set_option maxHeartbeats 0 in
theorem PySem.Challenge.cw_wordorder_k23_letters_of_names_holds : PySem.Challenge.rw_wordorder_k23_letters_of_names.Holds := by
  w_on; o_law; k_head; (case hw => w_witness2)
  k_fill
  refine Mb.walk (l := PySem.Challenge.rw_wordorder_k23_letters_of_names) rfl rfl (fun w h Y => PySem.W.kIn_of Y) ?F
  case F =>
    intro w mg fa h KX G hmg
    refine' Mb.all_mk KX G hmg ?a0 ?l0 ?c0 ?k0 ?a1 ?l1 ?c1 ?k1 ?a2 ?l2 ?c2 ?k2 ?a3 ?l3 ?c3 ?k3 ?a4 ?l4 ?c4 ?k4 ?a5 ?l5 ?c5 ?k5 ?a6 ?l6 ?c6 ?k6 ?a7 ?l7 ?c7 ?k7 ?a8 ?l8 ?c8 ?k8 ?a9 ?l9 ?c9 ?k9 ?a10 ?l10 ?c10 ?k10 ?a11 ?l11 ?c11 ?k11 ?a12 ?l12 ?c12 ?k12 ?a13 ?l13 ?c13 ?k13 ?a14 ?l14 ?c14 ?k14 ?a15 ?l15 ?c15 ?k15 ?a16 ?l16 ?c16 ?k16 ?a17 ?l17 ?c17 ?k17 ?a18 ?l18 ?c18 ?k18 ?a19 ?l19 ?c19 ?k19 ?a20 ?l20 ?c20 ?k20 ?a21 ?l21 ?c21 ?k21 ?a22 ?l22 ?c22 ?k22 ?n_LETTERS ?n_MOST_LETTERS ?n_ONES ?n_TEENS ?n_TENS ?n_SCALES ?n_THOUSAND ?n_HUNDRED ?n_TWENTY ?n_COUNTS ?l_COUNTS ?z_len ?z_sum ?z_all ?z_any ?z_max ?z_min ?z_abs ?z_divmod ?z_range ?z_isinstance ?z_repr ?z_sorted ?z_list ?z_int ?z_str ?z_bool ?z_tuple ?z_enumerate ?z_zip ?z_set ?z_reversed
    (case a0 => k_is)
    (case l0 => k_is)
    (case c0 => k_is)
    (case k0 => k_is)
    (case a1 => k_is)
    (case l1 => k_is)
    (case c1 => k_is)
    (case k1 => k_is)
    (case a2 => k_is)
    (case l2 => k_is)
    (case c2 => k_is)
    (case k2 => k_is)
    (case a3 => k_is)
    (case l3 => k_is)
    (case c3 => k_is)
    (case k3 => k_is)
    (case a4 => k_is)
    (case l4 => k_is)
    (case c4 => k_is)
    (case k4 => k_is)
    (case a5 => k_is)
    (case l5 => k_is)
    (case c5 => k_is)
    (case k5 => k_is)
    (case a6 => k_is)
    (case l6 => k_is)
    (case c6 => k_is)
    (case k6 => k_is)
    (case a7 => k_is)
    (case l7 => k_is)
    (case c7 => k_is)
    (case k7 => k_is)
    (case a8 => k_is)
    (case l8 => k_is)
    (case c8 => k_is)
    (case k8 => k_is)
    (case a9 => k_is)
    (case l9 => k_is)
    (case c9 => k_is)
    (case k9 => k_is)
    (case a10 => k_is)
    (case l10 => k_is)
    (case c10 => k_is)
    (case k10 => k_is)
    (case a11 => k_is)
    (case l11 => k_is)
    (case c11 => k_is)
    (case k11 => k_is)
    (case a12 => k_is)
    (case l12 => k_is)
    (case c12 => k_is)
    (case k12 => k_is)
    (case a13 => k_is)
    (case l13 => k_is)
    (case c13 => k_is)
    (case k13 => k_is)
    (case a14 => k_is)
    (case l14 => k_is)
    (case c14 => k_is)
    (case k14 => k_is)
    (case a15 => k_is)
    (case l15 => k_is)
    (case c15 => k_is)
    (case k15 => k_is)
    (case a16 => k_is)
    (case l16 => k_is)
    (case c16 => k_is)
    (case k16 => k_is)
    (case a17 => k_is)
    (case l17 => k_is)
    (case c17 => k_is)
    (case k17 => k_is)
    (case a18 => k_is)
    (case l18 => k_is)
    (case c18 => k_is)
    (case k18 => k_is)
    (case a19 => k_is)
    (case l19 => k_is)
    (case c19 => k_is)
    (case k19 => k_is)
    (case a20 => k_is)
    (case l20 => k_is)
    (case c20 => k_is)
    (case k20 => k_is)
    (case a21 => k_is)
    (case l21 => k_is)
    (case c21 => k_is)
    (case k21 => k_is)
    (case a22 => k_is)
    (case l22 => k_is)
    (case c22 => k_is)
    (case k22 => k_is)
    (case n_LETTERS => k_is)
    (case n_MOST_LETTERS => k_is)
    (case n_ONES => k_is)
    (case n_TEENS => k_is)
    (case n_TENS => k_is)
    (case n_SCALES => k_is)
    (case n_THOUSAND => k_is)
    (case n_HUNDRED => k_is)
    (case n_TWENTY => k_is)
    (case n_COUNTS => k_is)
    (case l_COUNTS => k_is)
    (case z_len => k_is)
    (case z_sum => k_is)
    (case z_all => k_is)
    (case z_any => k_is)
    (case z_max => k_is)
    (case z_min => k_is)
    (case z_abs => k_is)
    (case z_divmod => k_is)
    (case z_range => k_is)
    (case z_isinstance => k_is)
    (case z_repr => k_is)
    (case z_sorted => k_is)
    (case z_list => k_is)
    (case z_int => k_is)
    (case z_str => k_is)
    (case z_bool => k_is)
    (case z_tuple => k_is)
    (case z_enumerate => k_is)
    (case z_zip => k_is)
    (case z_set => k_is)
    (case z_reversed => k_is)

