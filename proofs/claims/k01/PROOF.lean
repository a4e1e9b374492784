import PyProof.Rows.All
import Wide.All
import OpenK.AllK
import Wide.FinOn
import HandS.ForMost
import HandS.Evl
import HandS.Wide
import HandS.Star
import HandS.IsInst
import HandS.Exc
import HandS.Defaults
import HandS.Flow
import HandS.EndBits
import HandS.SetFor
import HandS.SortInts
import HandS.WideBits
import HandS.Strs
import HandS.Walk
import HandS.More
import HandS.Conv
import HandS.Style
import KE.KExcSuper
import HandS.ExcInit
import HandS.ExcIs
import HandS.ExcField
import HandS.FStr
import HandS.FStrTup
import HandS.ExcValue
import HandS.Small
import PySem.Challenge.RW_wordorder_k01_errors_and_their_values
set_option Elab.async false
set_option linter.all false
set_option maxRecDepth 100000
set_option maxHeartbeats 4000000
namespace Mb
open PySem PySem.Spec PyProof.Rows L2
/-- a promise that is kept where no repr is under way -/
structure FnG (P : Program) (w : World) (K : PySem.W.Frag) (mg : Str → Option Value) (base : Heap) (CX : CXT) (k : Nat) (f : Addr)
    (fd : FuncData) (ps : List Str) (sp : Sp) : Prop where
  lenG : ∀ vs H Q E, sp vs H Q E → vs.length = ps.length
  runG : ∀ (A : Around) (outer : List Env) (s : Shared) (H : Hp) (args : Args) (us : List Value) (vs : List V) (Q : VK) (E : XK),
    A.guards = some [] → Room k A → Env0 P w K mg base A outer s H → BindsTo s fd args (ps.zip us) → Vals vs us → sp vs H Q E →
    codeAny (model P w) A (.call (.ref f) args) (CR CX outer P w H s Q E) s
theorem FnG.of {P : Program} {w : World} {K : PySem.W.Frag} {mg : Str → Option Value} {base : Heap} {CX : CXT} {k : Nat} {f : Addr}
    {fd : FuncData} {ps : List Str} {sp : Sp} (F : FnOk P w K mg base CX k f fd ps sp) : FnG P w K mg base CX k f fd ps sp :=
  ⟨F.len, fun A o s H a us vs Q E _ r e b v h => F.run A o s H a us vs Q E r e b v h⟩
theorem FnG.okX {P : Program} {w : World} {K : PySem.W.Frag} {mg : Str → Option Value} {base : Heap} {x qual : Str} {st : Stmt} {f : Addr}
    {fd : FuncData} {N ps : List Str} {k : Nat} {sp : Sp} {CX : CXT} (F : Fun K x qual st f fd) (S : FnScope N ps (defScope st))
    (len : ∀ vs H Q E, sp vs H Q E → vs.length = ps.length)
    (hbody : ∀ (cdv : Value) (A : Around) (outer : List Env) (s : Shared) (H : Hp) (vs : List V) (Q : VK) (E : XK), A.guards = some [] →
      Room k (A.deeper (envOfC qual (defScope st) s.heap.objs.size f cdv)) → sp vs H Q E →
      ∃ t, PSs (cxOf CX P w K mg base N qual (defScope st) f cdv A outer s H E) (defBody st) t ∧
        t { nx := fun _ H' => Q .non H', rt := Q } (start N vs) H) : FnG P w K mg base CX (k + 1) f fd ps sp := by
  obtain ⟨oc, od, kV, doc, pm, an, cdv, ct, osl, rfl, lk, hcd⟩ := F.ex
  constructor
  · exact len
  intro A outer s H args us vs Q E hG hr e0 hb r hsp
  have nlim := e0.mod.nolimit.keeps fun b o e => (e0.bs b o e).left
  have inK := e0.mod.kin.keeps fun b o e => (e0.bs b o e).left
  have kinds : ∀ y ∈ ps.zip us, (defScope st).names.lookup y.1 = some NameKind.local ∨
      ((defScope st).names.lookup y.1 = some NameKind.cell ∧
        ((cellsFrom (s.heap.objs.size + 1) (defScope st).names []).lookup y.1).isSome = true) := by
    intro y hy
    obtain ⟨n, v⟩ := y
    have hn := S.par n (List.of_mem_zip hy).1
    rcases hn with hn | hn
    · exact Or.inl hn
    · refine Or.inr ⟨hn, ?_⟩
      exact PySem.W.cellsFrom_some _ _ _ (Or.inl hn)
  have room := hr.depth
  apply codeAny_call_function room (inK _ _ lk) rfl S.co S.gen rfl (PySem.W.codeRec_of inK hcd)
  apply hb
  apply wpAny_newFunctionEnv_cells S.kind kinds
  intro env he s1 xc
  subst he
  refine ⟨nlim.keeps xc.toInCall.keep, codeAny_func ?_⟩
  obtain ⟨t, ht, hq⟩ := hbody cdv A outer s H vs Q E hG (hr.deeper _) hsp
  have I0 := inv_start (CX := CX) (E := E) S hr.hd e0 (len _ _ _ _ hsp) r xc
  apply wpAny_mono (ht.run [] s1 (start N vs) H _ I0 hq)
  · intro fl s' hs
    cases fl with
    | brk => exact hs.elim fun _ h => h.elim fun _ h => h.2.elim
    | cont => exact hs.elim fun _ h => h.elim fun _ h => h.2.elim
    | next =>
      obtain ⟨σ', H', J, q⟩ := hs
      exact ⟨V.non, H', J.os, J.bare, J.base, J.hok, rfl, q⟩
    | ret u =>
      obtain ⟨v, σ', H', J, rv, q⟩ := hs
      exact ⟨v, H', J.os, J.bare, J.base, J.hok, rv, q⟩
  · intro e s' hs
    exact hs
end Mb

namespace Mb
open PySem PySem.Spec PyProof.Rows L2
section
variable {X : Cx} {CX : CXT} {k : Nat} {f : Addr} {fd : FuncData} {ps : List Str} {sp : Sp} {E : XK} {x : Str} {p pos : Pos} {e : Expr} {es : List Expr} {t tk : TA}
/-- how arguments by place (n of them) and by name (ks) come to the parameters -/
def KwB (fd : FuncData) (ps ks : List Str) (n : Nat) (gV : List V → List V → List V) : Prop :=
  ∃ g : List Value → List Value → List Value, (∀ (s : Shared) (us ws : List Value), us.length = n → ws.length = ks.length → BindsTo s fd ⟨us, ks.zip ws⟩ (ps.zip (g us ws))) ∧
    (∀ (us ws : List Value) (vs zs : List V), us.length = n → ws.length = ks.length → Vals vs us → Vals zs ws → Vals (gV vs zs) (g us ws))
theorem runG {pins : List (Addr × Obj)} {σ : List (Option V)} {H : Hp} {s : Shared} {Q : VK} {us ws : List Value} {vs zs : List V} {ks : List Str} {n : Nat} {gV : List V → List V → List V}
    (F : FnG X.prog X.w X.K X.mg X.base CX k f fd ps sp) (hG : X.A.guards = some []) (hr : Room k X.A) (hb : KwB fd ps ks n gV) (hx : Passes CX X E)
    (I : L2.Inv X pins σ H s) (r : Vals vs us) (rz : Vals zs ws) (hn : us.length = n) (hk : ws.length = ks.length) (h : sp (gV vs zs) H Q E) :
    wpAny (model X.prog X.w) X.A (call (.ref f) us (ks.zip ws)) (EP X pins σ Q) X.xe s := by
  obtain ⟨g, b1, b2⟩ := hb
  refine wpAny_call (codeAny_mono (F.runG X.A X.stack s H ⟨us, ks.zip ws⟩ (g us ws) (gV vs zs) Q E hG hr I.env0 (b1 s us ws hn hk) (b2 us ws vs zs hn hk r rz) h) ?_)
  intro res s' hq
  cases res with
  | error e => exact hx pins σ H s e s' I hq
  | ok fl =>
    cases fl with
    | ret u => exact I.after hq
    | next => exact hq.elim
    | brk => exact hq.elim
    | cont => exact hq.elim
/-- f(a, .., k = v, ..) -/
def tCallW (sp : Sp) (gV : List V → List V → List V) (E : XK) (n m : Nat) (t tk : TA) : TE := fun σ H Q => t σ H fun vs H1 => tk σ H1 fun zs H2 => vs.length = n ∧ zs.length = m ∧ sp (gV vs zs) H2 Q E
theorem pe_callW {kws : List Keyword} {ks : List Str} {n : Nat} {gV : List V → List V → List V} (F : FnG X.prog X.w X.K X.mg X.base CX k f fd ps sp) (hG : X.A.guards = some []) (hr : Room k X.A) (hg : Gl X x) (hm : X.mg x = some (.ref f))
    (hk : PySem.W.keepIn X.K (.ref f) = true) (hb : KwB fd ps ks n gV) (hx : Passes CX X E) (ha : PA X (e :: es) t) (hkw : PK X kws tk)
    (hall : (backToKw pos (keywordEach kws X.env)).all (·.1.isSome) = true := by rfl) (hks : (backToKw pos (keywordEach kws X.env)).filterMap (·.1) = ks := by rfl)
    (hdb : (x == ("__debug__" : Str)) = false := by decide) (he : starEach (e :: es) X.env = (false, eval e X.env) :: starEach es X.env := by rfl)
    (hpl : ((backTo pos (starEach (e :: es) X.env)).any (·.1) || (backToKw pos (keywordEach kws X.env)).any (·.1.isNone)) = false := by rfl) :
    PE X (.Call (.Name x p) (e :: es) kws pos) (tCallW sp gV E n ks.length t tk) := by
  refine ⟨fun pins s σ H Q I h => ?_⟩
  refine wpAny_Call_Name_kw (ld_glob I hg hm ?_ hdb)
  refine PySem.W.callWith_KW (h₀ := X.base) I.ok.mod.kin hk hall (thn (ha.run pos pins s σ H _ I h) fun us s1 z1 => ?_) hpl he
  obtain ⟨vs, H1, I1, r, q⟩ := z1
  refine thn (hkw.run pos pins s1 σ H1 _ I1 q) fun ws s2 z2 => ?_
  obtain ⟨zs, H2, I2, rz, l1, l2, q2⟩ := z2
  refine ⟨I2.kIn, ?_⟩
  rw [hks]
  exact runG F hG hr hb hx I2 r rz (r.length.symm.trans l1) (rz.length.symm.trans l2) q2
theorem pe_callW0 {kws : List Keyword} {ks : List Str} {gV : List V → List V → List V} (F : FnG X.prog X.w X.K X.mg X.base CX k f fd ps sp) (hG : X.A.guards = some []) (hr : Room k X.A) (hg : Gl X x) (hm : X.mg x = some (.ref f))
    (hk : PySem.W.keepIn X.K (.ref f) = true) (hb : KwB fd ps ks 0 gV) (hx : Passes CX X E) (hkw : PK X kws tk)
    (hall : (backToKw pos (keywordEach kws X.env)).all (·.1.isSome) = true := by rfl) (hks : (backToKw pos (keywordEach kws X.env)).filterMap (·.1) = ks := by rfl)
    (hdb : (x == ("__debug__" : Str)) = false := by decide)
    (hpl : ((backTo pos (starEach [] X.env)).any (·.1) || (backToKw pos (keywordEach kws X.env)).any (·.1.isNone)) = false := by rfl) :
    PE X (.Call (.Name x p) [] kws pos) (tCallW sp gV E 0 ks.length tNil tk) := by
  refine ⟨fun pins s σ H Q I h => ?_⟩
  refine wpAny_Call_Name_kw (ld_glob I hg hm ?_ hdb)
  refine PySem.W.callWith_KW0 (h₀ := X.base) I.ok.mod.kin hk hall (thn (hkw.run pos pins s σ H _ I h) fun ws s2 z2 => ?_) hpl
  obtain ⟨zs, H2, I2, rz, l1, l2, q2⟩ := z2
  refine ⟨I2.kIn, ?_⟩
  rw [hks]
  exact runG (us := []) (vs := []) F hG hr hb hx I2 .nil rz rfl (rz.length.symm.trans l2) q2
/-- a keyword-free call of a def that is promised where no repr is under way -/
theorem pe_callG {ds : List Value} {dvs : List V} (F : FnG X.prog X.w X.K X.mg X.base CX k f fd ps sp) (hG : X.A.guards = some []) (hr : Room k X.A) (hg : Gl X x) (hm : X.mg x = some (.ref f))
    (hk : PySem.W.keepIn X.K (.ref f) = true) (hb : Binds X.K fd ps ds) (hd : Vals dvs ds) (hx : Passes CX X E) (ha : PA X (e :: es) t) (hdb : (x == ("__debug__" : Str)) = false := by decide)
    (he : starEach (e :: es) X.env = (false, eval e X.env) :: starEach es X.env := by rfl) (hpl : (backTo pos (starEach es X.env)).any (·.1) = false := by rfl) :
    PE X (.Call (.Name x p) (e :: es) [] pos) (tCall sp dvs E t) := by
  refine ⟨fun pins s σ H Q I h => ?_⟩
  refine wpAny_Call_Name_kw (ld_glob I hg hm ?_ hdb)
  refine PySem.W.callWith_K (h₀ := X.base) I.ok.mod.kin hk (thn (ha.run pos pins s σ H _ I h) fun us s1 z => ?_) he hpl
  obtain ⟨vs, H1, I1, r, q⟩ := z
  refine ⟨I1.kIn, ?_⟩
  have r2 : Vals (vs ++ dvs) (us ++ ds) := r.append hd
  have hl : (us ++ ds).length = ps.length := r2.length.symm.trans (F.lenG _ _ _ _ q)
  refine wpAny_call (codeAny_mono (F.runG X.A X.stack s1 H1 ⟨us, []⟩ (us ++ ds) (vs ++ dvs) Q E hG hr I1.env0 (hb s1 us I1.kIn hl) r2 q) ?_)
  intro res s' hq
  cases res with
  | error e => exact hx pins σ H1 s1 e s' I1 hq
  | ok fl =>
    cases fl with
    | ret u => exact I1.after hq
    | next => exact hq.elim
    | brk => exact hq.elim
    | cont => exact hq.elim

/-! ### repr of data -/
/-- repr(x), x a list or a tuple of data -/
abbrev rRepr (K : PySem.W.Frag) : List V → Hp → VK → Prop := fun xs H Q => ∃ (a : Addr) (d : PyData), xs = [.ref a] ∧ Dp K H (.ref a) d ∧ d.showable = true ∧ d.hasDict = false ∧ d.depth ≤ 60 ∧ d.shown.length ≤ sizeLine ∧ Q (.str d.shown) H
theorem cr_repr (hG : X.A.guards = some []) (hu : X.A.units + 64 < cLine) : CallR X (.builtin "repr") (rRepr X.K) := by
  intro pins s σ H xs us Q I r h
  obtain ⟨a, d, rfl, hd, h1, h2, h3, h4, q⟩ := h
  cases r with
  | cons rv rn =>
    rename_i u us'
    cases rn
    obtain rfl : u = Value.ref a := rv
    obtain ⟨as, hr⟩ := Dp.reads I d (.ref a) (.ref a) hd rfl
    refine repr_of_reads' hr h1 (PyData.noDict_hsm h2) hG (by omega) (fun _ _ z => z) (fun h' u tk hk => ?_) h4
    exact ⟨.str d.shown, H, I.kept hk, ⟨u, rfl⟩, q⟩
end
end Mb

namespace Mb
open PySem PySem.Spec PyProof.Rows L2
/-- the law's call, from a promise that may ask that no repr is under way: H tells of nothing but the script -/
theorem lawG_core {P : Program} {w : World} {K : PySem.W.Frag} {mg mb : Str → Option Value} {CX : CXT} {k : Nat} {fa a : Addr} {fd : FuncData} {x : Str} {sp : Sp} {s₁ : Shared} {vs : List Value}
    (inK : K.In s₁.heap) (gl : s₁.heap.Ns mainGlobals mg) (bt : s₁.heap.Ns builtinsNs mb) (bb : ∀ x : Str, x ≠ "__name__" → mb x = bootBuiltins x) (nl : s₁.heap.NoLimit) (hg : s₁.gens = #[])
    (at_a : s₁.heap.get? a = some { cls := .type "list", data := .seq vs.toArray }) (hr : Room k callerA)
    (F : ∀ base : Heap, K.In base → base.Ns mainGlobals mg → FnG P w K mg base CX k fa fd [x] sp) (hbind : ∀ (s : Shared) (u : Value), BindsTo s fd ⟨[u], []⟩ [(x, u)])
    (H : Hp) (only : Only H) (hsp : sp [.ref a] H (fun v _ => v = .bl true) fun _ _ _ => False) (ok : HOk P w H s₁.heap) (at1 : ∀ b, H b ≠ none → b = a) (off : H a ≠ none → K.lookup a = none)
    (noX : ∀ e s', CX [] H s₁ (fun _ _ _ => False) e s' → False) :
    codeAny (model P w) callerA (.call (.ref fa) ⟨[.ref a], []⟩) (fun r s' => r = .ok (.ret (.bool true)) ∧ OldK s₁.heap s'.heap ∧ s'.os = s₁.os ∧ AllBare s'.gens) s₁ := by
  have keep : ∀ {b : Addr} {o : Obj}, s₁.heap.get? b = some o → H b = none → (hidT s₁.heap H).get? b = some o := fun u v => hidT_get u v
  have isA : ∀ {b : Addr} {u : HO}, H b = some u → b = a := fun {b u} q => at1 b (fun z => by rw [z] at q; cases q)
  have dict_free : ∀ {b : Addr} {o : Obj} {es : Array DictEntry} {ep : Nat}, s₁.heap.get? b = some o → o.data = .dict es ep → H b = none := by
    intro b o es ep e d
    cases q : H b with
    | none => rfl
    | some u =>
      rw [isA q, at_a] at e
      injection e with e
      rw [← e] at d
      cases d
  have nss : ∀ {b : Addr} {m : Str → Option Value}, s₁.heap.Ns b m → (hidT s₁.heap H).Ns b m := by
    intro b m hn
    obtain ⟨o, es, ep, e, d, r⟩ := hn
    exact ⟨o, es, ep, keep e (dict_free e d), d, r⟩
  have kb : K.In (hidT s₁.heap H) := by
    intro b o e
    refine keep (inK b o e) ?_
    cases q : H b with
    | none => rfl
    | some u =>
      have eb := isA q
      rw [eb] at e q
      rw [off (by rw [q]; simp)] at e
      cases e
  obtain ⟨ml, l1, l2⟩ := nl
  have modul : Mod K mg (hidT s₁.heap H) := ⟨kb, nss gl, ⟨mb, nss bt, bb⟩, ⟨ml, nss l1, l2⟩⟩
  have env : Env0 P w K mg (hidT s₁.heap H) callerA [] s₁ H := by
    refine ⟨rfl, modul, fun b o e => of_hidT e, Nat.le_of_eq (hidT_size _ _), trivial, fun b hb => ?_, ok, .of_eq hg⟩
    cases hb
  have run := (F _ kb (nss gl)).runG callerA [] s₁ H ⟨[.ref a], []⟩ [.ref a] [.ref a] _ _ rfl hr env (hbind s₁ (.ref a)) (.cons rfl .nil) hsp
  refine codeAny_mono run ?_
  intro r s' h
  cases r with
  | error e => exact absurd h (noX e s')
  | ok fl =>
    cases fl with
    | next => exact h.elim
    | brk => exact h.elim
    | cont => exact h.elim
    | ret u =>
      obtain ⟨v, H', os, bare, un, ok', rv, q⟩ := h
      have ev : v = .bl true := q
      rw [ev] at rv
      have eu : u = Value.bool true := rv
      rw [eu]
      refine ⟨rfl, OldK.of_keep ?_, os, bare⟩
      intro b o e
      cases q : H b with
      | none => exact un.keep b o e q (fun z => by cases z) (fun z => by cases z)
      | some u =>
        obtain z | z := only b
        · rw [q] at z
          cases z
        · obtain ⟨ob, xs, z⟩ := z
          have g1 := (ok b _ z).1
          have g2 := (ok' b _ (un.frzs b ob _ z)).1
          rw [e] at g1
          injection g1 with g1
          rw [g1]
          exact g2
theorem lawG_call {P : Program} {w : World} {K : PySem.W.Frag} {mg mb : Str → Option Value} {CX : CXT} {k : Nat} {fa a : Addr} {fd : FuncData} {x : Str} {sp : Sp} {s₁ : Shared} {vs : List Value} {ns : List Int}
    (inK : K.In s₁.heap) (gl : s₁.heap.Ns mainGlobals mg) (bt : s₁.heap.Ns builtinsNs mb) (bb : ∀ x : Str, x ≠ "__name__" → mb x = bootBuiltins x) (nl : s₁.heap.NoLimit) (hg : s₁.gens = #[])
    (at_a : s₁.heap.get? a = some { cls := .type "list", data := .seq vs.toArray }) (hin : IntsAre vs ns) (fits : ns.length ≤ sizeLine) (hr : Room k callerA)
    (F : ∀ base : Heap, K.In base → base.Ns mainGlobals mg → FnG P w K mg base CX k fa fd [x] sp) (hbind : ∀ (s : Shared) (u : Value), BindsTo s fd ⟨[u], []⟩ [(x, u)])
    (hsp : ∀ H : Hp, Only H → SqL K H a (ns.map V.int) → sp [.ref a] H (fun v _ => v = .bl true) fun _ _ _ => False)
    (noX : ∀ H e s', CX [] H s₁ (fun _ _ _ => False) e s' → False) :
    codeAny (model P w) callerA (.call (.ref fa) ⟨[.ref a], []⟩) (fun r s' => r = .ok (.ret (.bool true)) ∧ OldK s₁.heap s'.heap ∧ s'.os = s₁.os ∧ AllBare s'.gens) s₁ := by
  have rv := vals_ints hin
  have len := hin.length
  cases hk : K.lookup a with
  | some o =>
    have e := inK a o hk
    rw [at_a] at e
    injection e with e
    rw [← e] at hk
    have hS : SqL K (fun _ => none) a (ns.map V.int) := by
      refine Or.inr ⟨_, vs.toArray, _, hk, rfl, rfl, rfl, ?_, ?_⟩
      · rw [List.size_toArray, len]
        exact fits
      · simpa using rv
    refine lawG_core inK gl bt bb nl hg at_a hr F hbind (fun _ => none) (fun _ => Or.inl rfl) (hsp _ (fun _ => Or.inl rfl) hS) ?_ ?_ ?_ (noX _)
    · intro b u z
      cases z
    · intro b z
      exact (z rfl).elim
    · intro z
      exact (z rfl).elim
  | none =>
    have there : (fun b => if b = a then some (HO.frz { cls := .type "list", data := .seq vs.toArray } (.lst (ns.map V.int))) else none : Hp) a = some (HO.frz { cls := .type "list", data := .seq vs.toArray } (.lst (ns.map V.int))) := by
      show (if a = a then _ else none) = _
      rw [if_pos rfl]
    have off : ∀ b, b ≠ a → (fun b => if b = a then some (HO.frz { cls := .type "list", data := .seq vs.toArray } (.lst (ns.map V.int))) else none : Hp) b = none := by
      intro b hb
      show (if b = a then _ else none) = _
      rw [if_neg hb]
    have only : Only (fun b => if b = a then some (HO.frz { cls := .type "list", data := .seq vs.toArray } (.lst (ns.map V.int))) else none) := by
      intro b
      by_cases hb : b = a
      · rw [hb]
        exact Or.inr ⟨_, _, there⟩
      · exact Or.inl (off b hb)
    refine lawG_core inK gl bt bb nl hg at_a hr F hbind _ only (hsp _ only (Or.inl (Or.inr ⟨_, there⟩))) ?_ ?_ (fun _ => hk) (noX _)
    · intro b u z
      by_cases hb : b = a
      · rw [hb] at z ⊢
        rw [there] at z
        injection z with z
        rw [← z]
        refine ⟨at_a, ?_, vs, _, rv, at_a⟩
        rw [List.length_map]
        exact fits
      · rw [off b hb] at z
        cases z
    · intro b z
      by_cases hb : b = a
      · exact hb
      · exact (z (off b hb)).elim
theorem walkG {l : PySem.W.OpenLaw} {n k : Nat} {q : Program} {loose : List Str} {XP : (Str → Option Value) → Heap → Prop} {YP : World → Heap → Prop} {d : DefRec} {K : Params → PySem.W.Frag} {CX : World → CXT} {sp : World → Sp} {x : Str}
    (hn : l.most = some n) (hn2 : n ≤ sizeLine) (hdf : d.params.defaults = []) (hr : Room k callerA)
    (hY : ∀ (w : World) (h : Heap), YP w h → (K w.params).In h)
    (F : ∀ (w : World) (mg : Str → Option Value) (fa : Addr) (h : Heap), (K w.params).In h → h.Ns mainGlobals mg → mg d.name = some (.ref fa) →
      ∃ fd : FuncData, (∀ (s : Shared) (u : Value), BindsTo s fd ⟨[u], []⟩ [(x, u)]) ∧
        ∀ base : Heap, (K w.params).In base → base.Ns mainGlobals mg → FnG l.prog w (K w.params) mg base (CX w) k fa fd [x] (sp w))
    (hsp : ∀ (w : World) (H : Hp) (a : Addr) (ns : List Int), ns.length ≤ n → (∀ z ∈ ns, Builtin.Int.intBits z ≤ 1048576) → Only H → SqL (K w.params) H a (ns.map V.int) → sp w [.ref a] H (fun v _ => v = .bl true) fun _ _ _ => False)
    (noX : ∀ (w : World) (H : Hp) (s : Shared) (e : Value) (s' : Shared), CX w [] H s (fun _ _ _ => False) e s' → False) :
    PySem.W.WalkO q loose XP YP l.row.toRowW d [] (fun f vs => PySem.call f vs) := by
  refine Att.attach_callB hn hdf ?_
  intro w s₀ s₁ mg mb fa o pm cd doc a vs ns G Y ho hd hcd hmg hobj hints hlen hbits hg
  obtain ⟨fd, hb, hF⟩ := F w mg fa _ (hY w _ Y) G.T.g hmg
  exact lawG_call (hY w _ Y) G.T.g G.T.b G.T.builtins G.T.nolimit hg hobj hints (Nat.le_trans hlen hn2) hr hF hb (fun H hO hS => hsp w H a ns hlen hbits hO hS) fun H e s' => noX w H s₁ e s'
end Mb

namespace Mb
open PySem L2
open Evl (Ex)
abbrev Sg := L2.St
theorem Ex.rf {H : Hp} : Ex H H := Evl.Ex.refl H
theorem ex_upd {H H1 : Hp} {p : Addr} {o : HO} (e : Ex H H1) : Ex (upd H p o) (upd H1 p o) := fun a u h => by
  by_cases ha : a = p
  · rw [ha, upd_same] at h ⊢
    exact h
  · rw [upd_ne ha] at h ⊢
    exact e a u h
theorem ex_new {H : Hp} {p : Addr} {o : HO} (h : H p = none) : Ex H (upd H p o) := Evl.Ex.new h
theorem ex_free {H H1 : Hp} {p : Addr} (e : Ex H H1) (h : H1 p = none) : H p = none := Evl.fresh_back e h

/-! ### readings over what is known of the heap: K asks of a heap that holds at least what is told -/
abbrev KV := V → Hp → Prop
abbrev KB := Bool → Hp → Prop
abbrev KA := List V → Hp → Prop
abbrev KS := Sg → Hp → Prop
def W (t : TE) (σ : Sg) (H : Hp) (K : KV) : Prop := ∀ H1, Ex H H1 → ∀ Q : VK, (∀ v H2 H3, K v H2 → Ex H2 H3 → Q v H3) → t σ H1 Q
def WT (t : TT) (σ : Sg) (H : Hp) (K : KB) : Prop := ∀ H1, Ex H H1 → ∀ Q : Bool → Hp → Prop, (∀ v H2 H3, K v H2 → Ex H2 H3 → Q v H3) → t σ H1 Q
def WA (t : TA) (σ : Sg) (H : Hp) (K : KA) : Prop := ∀ H1, Ex H H1 → ∀ Q : List V → Hp → Prop, (∀ v H2 H3, K v H2 → Ex H2 H3 → Q v H3) → t σ H1 Q
def WO (t : TO) (σ : Sg) (H : Hp) (K : Option Int → Hp → Prop) : Prop := ∀ H1, Ex H H1 → ∀ Q : Option Int → Hp → Prop, (∀ v H2 H3, K v H2 → Ex H2 H3 → Q v H3) → t σ H1 Q
def WR (r : R2) (x y : V) (H : Hp) (K : KV) : Prop := ∀ H1, Ex H H1 → ∀ Q : VK, (∀ v H2 H3, K v H2 → Ex H2 H3 → Q v H3) → r x y H1 Q
def WU (r : V → Hp → VK → Prop) (x : V) (H : Hp) (K : KV) : Prop := ∀ H1, Ex H H1 → ∀ Q : VK, (∀ v H2 H3, K v H2 → Ex H2 H3 → Q v H3) → r x H1 Q
def WC (r : List V → Hp → VK → Prop) (x : List V) (H : Hp) (K : KV) : Prop := ∀ H1, Ex H H1 → ∀ Q : VK, (∀ v H2 H3, K v H2 → Ex H2 H3 → Q v H3) → r x H1 Q
def WM (r : V → List V → Hp → VK → Prop) (x : V) (ys : List V) (H : Hp) (K : KV) : Prop := ∀ H1, Ex H H1 → ∀ Q : VK, (∀ v H2 H3, K v H2 → Ex H2 H3 → Q v H3) → r x ys H1 Q
def WG (g : TG) (v : V) (σ : Sg) (H : Hp) (K : KS) : Prop := ∀ H1, Ex H H1 → ∀ Q : Sg → Hp → Prop, (∀ σ2 H2 H3, K σ2 H2 → Ex H2 H3 → Q σ2 H3) → g v σ H1 Q
def WGs (g : TGs) (v : List V) (σ : Sg) (H : Hp) (K : KS) : Prop := ∀ H1, Ex H H1 → ∀ Q : Sg → Hp → Prop, (∀ σ2 H2 H3, K σ2 H2 → Ex H2 H3 → Q σ2 H3) → g v σ H1 Q
/-- what is wanted at a block's ends -/
structure KE where
  nx : KS
  rt : KV
  bk : KS
  ct : KS
structure Le (D : KE) (D1 : Ends) : Prop where
  nx : ∀ σ H2 H3, D.nx σ H2 → Ex H2 H3 → D1.nx σ H3
  rt : ∀ v H2 H3, D.rt v H2 → Ex H2 H3 → D1.rt v H3
  bk : ∀ σ H2 H3, D.bk σ H2 → Ex H2 H3 → D1.bk σ H3
  ct : ∀ σ H2 H3, D.ct σ H2 → Ex H2 H3 → D1.ct σ H3
def S (t : TS) (D : KE) (σ : Sg) (H : Hp) : Prop := ∀ H1, Ex H H1 → ∀ D1 : Ends, Le D D1 → t D1 σ H1

section
variable {K : KV} {σ : Sg} {H H' : Hp} {ta tb te tc : TE} {v x y : V} {tt tu : TT} {KB' : KB}
/-- what a rule hands on stands in a heap that knows at least this -/
theorem W.mono {K' : KV} (h : W te σ H K) (k : ∀ v H, K v H → K' v H) : W te σ H K' := fun H1 e Q q => h H1 e Q fun v H2 H3 z e2 => q v H2 H3 (k v H2 z) e2
theorem W.ext (e : Ex H H') (h : W te σ H K) : W te σ H' K := fun H1 e1 Q q => h H1 (e.trans e1) Q q
theorem S.ext {t : TS} {D : KE} (e : Ex H H') (h : S t D σ H) : S t D σ H' := fun H1 e1 Q q => h H1 (e.trans e1) Q q
theorem WT.ext (e : Ex H H') (h : WT tt σ H KB') : WT tt σ H' KB' := fun H1 e1 Q q => h H1 (e.trans e1) Q q
theorem S.mono {t : TS} {D D' : KE} (h : S t D σ H) (n : ∀ σ H, D.nx σ H → D'.nx σ H) (r : ∀ v H, D.rt v H → D'.rt v H) (b : ∀ σ H, D.bk σ H → D'.bk σ H) (c : ∀ σ H, D.ct σ H → D'.ct σ H) : S t D' σ H :=
  fun H1 e D1 l => h H1 e D1 ⟨fun _ _ _ z => l.nx _ _ _ (n _ _ z), fun _ _ _ z => l.rt _ _ _ (r _ _ z), fun _ _ _ z => l.bk _ _ _ (b _ _ z), fun _ _ _ z => l.ct _ _ _ (c _ _ z)⟩

/-! ### expressions -/
theorem w_var {i : Nat} (h : σ[i]? = some (some v)) (k : K v H) : W (tVar i) σ H K := fun H1 e Q q => ⟨v, h, q v H H1 k e⟩
theorem w_c (k : K v H) : W (tC v) σ H K := fun H1 e Q q => q v H H1 k e
theorem w_op {r : R2} (h : W ta σ H fun x H1 => W tb σ H1 fun y H2 => WR r x y H2 K) : W (tOp r ta tb) σ H K := fun H1 e Q q =>
  h H1 e _ fun x H2 H3 h2 e2 => h2 H3 e2 _ fun y H4 H5 h4 e4 => h4 H5 e4 Q q
theorem w_un {r : V → Hp → VK → Prop} (h : W ta σ H fun x H1 => WU r x H1 K) : W (tUn r ta) σ H K := fun H1 e Q q => h H1 e _ fun x H2 H3 h2 e2 => h2 H3 e2 Q q
theorem w_cb {r : List V → Hp → VK → Prop} {t : TA} (h : WA t σ H fun vs H1 => WC r vs H1 K) : W (tCB r t) σ H K := fun H1 e Q q => h H1 e _ fun x H2 H3 h2 e2 => h2 H3 e2 Q q
theorem if_up {p q : Prop} {b : Bool} (h : if b = true then p else q) {p' q' : Prop} (hp : p → p') (hq : q → q') : if b = true then p' else q' := by
  cases b with
  | true =>
    rw [if_pos rfl] at h ⊢
    exact hp h
  | false =>
    rw [if_neg Bool.false_ne_true] at h ⊢
    exact hq h
theorem w_if (h : WT tt σ H fun b H1 => if b = true then W ta σ H1 K else W tb σ H1 K) : W (tIf tt ta tb) σ H K := fun H1 e Q q => h H1 e _ fun b H2 H3 h2 e2 =>
  if_up h2 (fun z => z H3 e2 Q q) (fun z => z H3 e2 Q q)
theorem wa_nil {K : KA} (k : K [] H) : WA tNil σ H K := fun H1 e Q q => q [] H H1 k e
theorem wa_cons {K : KA} {t : TA} (h : W te σ H fun x H1 => WA t σ H1 fun xs H2 => K (x :: xs) H2) : WA (tCons te t) σ H K := fun H1 e Q q =>
  h H1 e _ fun x H2 H3 h2 e2 => h2 H3 e2 _ fun xs H4 H5 h4 e4 => q (x :: xs) H4 H5 h4 e4
theorem w_tup {t : TA} (h : WA t σ H fun xs H1 => xs.length ≤ sizeLine ∧ ∀ p, H1 p = none → K (.ref p) (upd H1 p (.tup xs))) : W (tTup t) σ H K := fun H1 e Q q =>
  h H1 e _ fun xs H2 H3 h2 e2 => ⟨h2.1, fun p hp => q _ _ _ (h2.2 p (ex_free e2 hp)) (ex_upd e2)⟩
theorem w_lst {t : TA} (h : WA t σ H fun xs H1 => xs.length ≤ sizeLine ∧ ∀ p, H1 p = none → K (.ref p) (upd H1 p (.lst xs))) : W (tLst t) σ H K := fun H1 e Q q =>
  h H1 e _ fun xs H2 H3 h2 e2 => ⟨h2.1, fun p hp => q _ _ _ (h2.2 p (ex_free e2 hp)) (ex_upd e2)⟩
theorem w_dnew (h : ∀ p, H p = none → K (.ref p) (upd H p (.dK []))) : W tDNewK σ H K := fun H1 e Q q p hp => q _ _ _ (h p (ex_free e hp)) (ex_upd e)
theorem wa_star {Kf : PySem.W.Frag} {K : KA} {t : TA} (h : W te σ H fun x H1 => ∃ p xs, x = V.ref p ∧ (SqT Kf H1 p xs ∨ SqL Kf H1 p xs) ∧ WA t σ H1 fun ys H2 => K (xs ++ ys) H2) : WA (StX.tStar Kf te t) σ H K := fun H1 e Q q =>
  h H1 e _ fun x H2 H3 h2 e2 => by
    obtain ⟨p, xs, rfl, hs, h3⟩ := h2
    refine ⟨p, xs, rfl, ?_, h3 H3 e2 _ fun ys H4 H5 h4 e4 => q _ H4 H5 h4 e4⟩
    rcases hs with hs | hs
    · exact Or.inl (Evl.ex_t e2 hs)
    · exact Or.inr (Evl.ex_l e2 hs)
/-! ### tests -/
theorem wt_test (h : W te σ H fun x H1 => ∃ k, x = .bl k ∧ KB' k H1) : WT (tTest te) σ H KB' := fun H1 e Q q => h H1 e _ fun x H2 H3 h2 e2 => by
  obtain ⟨k, hk, z⟩ := h2
  exact ⟨k, hk, q k H2 H3 z e2⟩
theorem wt_b (h : W te σ H fun x H1 => ∃ k, x = .bl k ∧ KB' k H1) : WT (tB te) σ H KB' := fun H1 e Q q => h H1 e _ fun x H2 H3 h2 e2 => by
  obtain ⟨k, hk, z⟩ := h2
  exact ⟨k, hk, q k H2 H3 z e2⟩
theorem wt_yes (k : KB' true H) : WT tYes σ H KB' := fun H1 e Q q => q true H H1 k e
theorem wt_not (h : WT tt σ H fun b H1 => KB' (!b) H1) : WT (tNot tt) σ H KB' := fun H1 e Q q => h H1 e _ fun b H2 H3 h2 e2 => q _ H2 H3 h2 e2
theorem wt_and (h : WT tt σ H fun b H1 => if b = true then WT tu σ H1 KB' else KB' false H1) : WT (tAnd tt tu) σ H KB' := fun H1 e Q q => h H1 e _ fun b H2 H3 h2 e2 => by
  cases b with
  | true =>
    have z : WT tu σ H2 KB' := by rw [if_pos rfl] at h2; exact h2
    show (if true = true then tu σ H3 Q else Q false H3)
    rw [if_pos rfl]
    exact z H3 e2 Q q
  | false =>
    have z : KB' false H2 := by rw [if_neg Bool.false_ne_true] at h2; exact h2
    show (if false = true then tu σ H3 Q else Q false H3)
    rw [if_neg Bool.false_ne_true]
    exact q false H2 H3 z e2
theorem wt_or (h : WT tt σ H fun b H1 => if b = true then KB' true H1 else WT tu σ H1 KB') : WT (tOr tt tu) σ H KB' := fun H1 e Q q => h H1 e _ fun b H2 H3 h2 e2 => by
  cases b with
  | true =>
    have z : KB' true H2 := by rw [if_pos rfl] at h2; exact h2
    show (if true = true then Q true H3 else tu σ H3 Q)
    rw [if_pos rfl]
    exact q true H2 H3 z e2
  | false =>
    have z : WT tu σ H2 KB' := by rw [if_neg Bool.false_ne_true] at h2; exact h2
    show (if false = true then Q true H3 else tu σ H3 Q)
    rw [if_neg Bool.false_ne_true]
    exact z H3 e2 Q q
theorem w_andV (h : W ta σ H fun x H1 => ∃ c, x = .bl c ∧ if c = true then W tb σ H1 K else K (.bl false) H1) : W (tAndV ta tb) σ H K := fun H1 e Q q => h H1 e _ fun x H2 H3 h2 e2 => by
  obtain ⟨c, rfl, z⟩ := h2
  refine ⟨c, rfl, ?_⟩
  cases c with
  | true =>
    rw [if_pos rfl] at z ⊢
    exact z H3 e2 Q q
  | false =>
    rw [if_neg Bool.false_ne_true] at z ⊢
    exact q _ H2 H3 z e2
theorem w_orV (h : W ta σ H fun x H1 => ∃ c, x = .bl c ∧ if c = true then K (.bl true) H1 else W tb σ H1 K) : W (tOrV ta tb) σ H K := fun H1 e Q q => h H1 e _ fun x H2 H3 h2 e2 => by
  obtain ⟨c, rfl, z⟩ := h2
  refine ⟨c, rfl, ?_⟩
  cases c with
  | true =>
    rw [if_pos rfl] at z ⊢
    exact q _ H2 H3 z e2
  | false =>
    rw [if_neg Bool.false_ne_true] at z ⊢
    exact z H3 e2 Q q
theorem w_notV (h : W ta σ H fun x H1 => ∃ c, x = .bl c ∧ K (.bl (!c)) H1) : W (tNotV ta) σ H K := fun H1 e Q q => h H1 e _ fun x H2 H3 h2 e2 => by
  obtain ⟨c, rfl, z⟩ := h2
  exact ⟨c, rfl, q _ H2 H3 z e2⟩
theorem w_isN (h : W ta σ H fun x H1 => K (.bl (decide (x = .non))) H1) : W (tIsN ta) σ H K := fun H1 e Q q => h H1 e _ fun x H2 H3 h2 e2 => q _ H2 H3 h2 e2
theorem w_chain {r r' : R2} (h : W ta σ H fun x H1 => W tb σ H1 fun y H2 => WR r x y H2 fun z H3 => ∃ k, z = .bl k ∧ (if k = true then W tc σ H3 fun w' H4 => WR r' y w' H4 K else K (.bl false) H3)) : W (tChain r r' ta tb tc) σ H K := fun H1 e Q q =>
  h H1 e _ fun x H2 H3 h2 e2 => h2 H3 e2 _ fun y H4 H5 h4 e4 => h4 H5 e4 _ fun z H6 H7 h6 e6 => by
    obtain ⟨k, rfl, z⟩ := h6
    refine ⟨k, rfl, ?_⟩
    cases k with
    | true =>
      rw [if_pos rfl] at z ⊢
      exact z H7 e6 _ fun w' H8 H9 h8 e8 => h8 H9 e8 Q q
    | false =>
      rw [if_neg Bool.false_ne_true] at z ⊢
      exact q _ H6 H7 z e6
/-! ### slices' parts -/
theorem wo_none {K : Option Int → Hp → Prop} (k : K none H) : WO tNoPart σ H K := fun H1 e Q q => q none H H1 k e
theorem wo_some {K : Option Int → Hp → Prop} (h : W te σ H fun x H1 => ∃ i, x = .int i ∧ K (some i) H1) : WO (tPart te) σ H K := fun H1 e Q q => h H1 e _ fun x H2 H3 h2 e2 => by
  obtain ⟨i, rfl, z⟩ := h2
  exact ⟨i, rfl, q _ H2 H3 z e2⟩
def WL (r : V → Option Int → Option Int → Hp → VK → Prop) (x : V) (lo hi : Option Int) (H : Hp) (K : KV) : Prop := ∀ H1, Ex H H1 → ∀ Q : VK, (∀ v H2 H3, K v H2 → Ex H2 H3 → Q v H3) → r x lo hi H1 Q
theorem w_sl {r : V → Option Int → Option Int → Hp → VK → Prop} {tl th : TO} (h : W te σ H fun x H1 => WO tl σ H1 fun lo H2 => WO th σ H2 fun hi H3 => WL r x lo hi H3 K) : W (tSl r te tl th) σ H K := fun H1 e Q q =>
  h H1 e _ fun x H2 H3 h2 e2 => h2 H3 e2 _ fun lo H4 H5 h4 e4 => h4 H5 e4 _ fun hi H6 H7 h6 e6 => h6 H7 e6 Q q
/-! ### methods, calls -/
theorem w_bm {Kf : PySem.W.Frag} {T : String} {r : V → List V → Hp → VK → Prop} {t : TA} (h : W te σ H fun x H1 => tyV Kf T x H1 ∧ WA t σ H1 fun ys H2 => WM r x ys H2 K) (tyE : ∀ x H H', Ex H H' → tyV Kf T x H → tyV Kf T x H') : W (tBM Kf T r te t) σ H K := fun H1 e Q q =>
  h H1 e _ fun x H2 H3 h2 e2 => ⟨tyE x _ _ e2 h2.1, h2.2 H3 e2 _ fun ys H4 H5 h4 e4 => h4 H5 e4 Q q⟩
theorem w_bm0 {Kf : PySem.W.Frag} {T : String} {r : V → List V → Hp → VK → Prop} (h : W te σ H fun x H1 => tyV Kf T x H1 ∧ WM r x [] H1 K) (tyE : ∀ x H H', Ex H H' → tyV Kf T x H → tyV Kf T x H') : W (tBM0 Kf T r te) σ H K := fun H1 e Q q =>
  h H1 e _ fun x H2 H3 h2 e2 => ⟨tyE x _ _ e2 h2.1, h2.2 H3 e2 Q q⟩
theorem w_m0 {r : V → List V → Hp → VK → Prop} (h : W te σ H fun x H1 => (∃ a, x = .str a) ∧ WM r x [] H1 K) : W (tM0 r te) σ H K := fun H1 e Q q =>
  h H1 e _ fun x H2 H3 h2 e2 => ⟨h2.1, h2.2 H3 e2 Q q⟩
theorem w_m1 {r : V → List V → Hp → VK → Prop} (h : W te σ H fun x H1 => (∃ a, x = .str a) ∧ W ta σ H1 fun y H2 => WM r x [y] H2 K) : W (tM1 r te ta) σ H K := fun H1 e Q q =>
  h H1 e _ fun x H2 H3 h2 e2 => ⟨h2.1, h2.2 H3 e2 _ fun y H4 H5 h4 e4 => h4 H5 e4 Q q⟩
/-- a promise: for a the arguments and the heap are so (pre); what comes back and what is then known of the heap (post) -/
def Pr {α : Type} (pre : α → List V → Hp → Prop) (post : α → Hp → V → Hp → Prop) : Sp := fun vs H Q _ => ∃ (a : α) (H0 : Hp), Ex H0 H ∧ pre a vs H0 ∧ ∀ v H1 H2, post a H0 v H1 → Ex H1 H2 → Q v H2
theorem w_call {α : Type} {pre : α → List V → Hp → Prop} {post : α → Hp → V → Hp → Prop} {dvs : List V} {E : XK} {t : TA} (h : WA t σ H fun vs H1 => ∃ a, pre a (vs ++ dvs) H1 ∧ ∀ v H2, post a H1 v H2 → K v H2) : W (tCall (Pr pre post) dvs E t) σ H K := fun H1 e Q q =>
  h H1 e _ fun vs H2 H3 h2 e2 => by
    obtain ⟨a, p, k⟩ := h2
    exact ⟨a, H2, e2, p, fun v H4 H5 z e5 => q v H4 H5 (k v H4 z) e5⟩
theorem w_callW {α : Type} {pre : α → List V → Hp → Prop} {post : α → Hp → V → Hp → Prop} {gV : List V → List V → List V} {n m : Nat} {E : XK} {t tk : TA} (h : WA t σ H fun vs H1 => WA tk σ H1 fun zs H2 => vs.length = n ∧ zs.length = m ∧ ∃ a, pre a (gV vs zs) H2 ∧ ∀ v H3, post a H2 v H3 → K v H3) : W (tCallW (Pr pre post) gV E n m t tk) σ H K := fun H1 e Q q =>
  h H1 e _ fun vs H2 H3 h2 e2 => h2 H3 e2 _ fun zs H4 H5 h4 e4 => by
    obtain ⟨l1, l2, a, p, k⟩ := h4
    exact ⟨l1, l2, a, H4, e4, p, fun v H6 H7 z e7 => q v H6 H7 (k v H6 z) e7⟩
end
end Mb

namespace Mb
open PySem L2
open Evl (Ex)
theorem tyV_ext {Kf : PySem.W.Frag} {T : String} : ∀ x H H', Ex H H' → tyV Kf T x H → tyV Kf T x H' := fun x H H' e h => by
  cases x with
  | ref p =>
    rcases h with ⟨a, xs, b⟩ | h | ⟨a, ⟨k, b⟩ | ⟨k, b⟩⟩ | ⟨a, S, n, b⟩
    · exact Or.inl ⟨a, xs, Evl.ex_l e b⟩
    · exact Or.inr (Or.inl h)
    · exact Or.inr (Or.inr (Or.inl ⟨a, Or.inl ⟨k, e _ _ b⟩⟩))
    · exact Or.inr (Or.inr (Or.inl ⟨a, Or.inr ⟨k, e _ _ b⟩⟩))
    · exact Or.inr (Or.inr (Or.inr ⟨a, S, n, e _ _ b⟩))
  | str _ => exact h
  | int _ => exact h
  | non => exact h
  | bl _ => exact h
  | byt _ => exact h
  | flt _ => exact h
  | ty _ => exact h
section
variable {K : KV} {σ : Sg} {H H' : Hp} {ta tb te tc : TE} {v x y : V} {tt tu : TT} {D : KE} {t u : TS} {g : TG}
/-! ### statements -/
theorem s_seq (h : S t { D with nx := fun σ1 H1 => S u D σ1 H1 } σ H) : S (tSeq t u) D σ H := fun H1 e D1 l =>
  h H1 e { D1 with nx := u D1 } ⟨fun σ2 H2 H3 z e3 => z H3 e3 D1 l, l.rt, l.bk, l.ct⟩
theorem s_next (k : D.nx σ H) : S tNext D σ H := fun H1 e D1 l => l.nx _ _ _ k e
theorem s_brk (k : D.bk σ H) : S tBreak D σ H := fun H1 e D1 l => l.bk _ _ _ k e
theorem s_cont (k : D.ct σ H) : S tCont D σ H := fun H1 e D1 l => l.ct _ _ _ k e
theorem s_drop (h : W te σ H fun _ H1 => D.nx σ H1) : S (tDrop te) D σ H := fun H1 e D1 l => h H1 e _ fun v H2 H3 k e2 => l.nx _ _ _ k e2
theorem s_ret (h : W te σ H D.rt) : S (tRet te) D σ H := fun H1 e D1 l => h H1 e _ fun v H2 H3 k e2 => l.rt _ _ _ k e2
theorem s_retN (h : D.rt .non H) : S tRetN D σ H := fun H1 e D1 l => l.rt _ _ _ h e
theorem s_if (h : WT tt σ H fun b H1 => if b = true then S t D σ H1 else S u D σ H1) : S (tIfS tt t u) D σ H := fun H1 e D1 l => h H1 e _ fun b H2 H3 h2 e2 =>
  if_up h2 (fun z => z H3 e2 D1 l) (fun z => z H3 e2 D1 l)
theorem s_asg (h : W te σ H fun x H1 => WG g x σ H1 D.nx) : S (tAsg te g) D σ H := fun H1 e D1 l => h H1 e _ fun v H2 H3 k e2 => k H3 e2 _ fun σ2 H4 H5 k4 e4 => l.nx _ _ _ k4 e4
theorem s_aug {i : Nat} {ti : TIp} (hx : σ[i]? = some (some x)) (h : W te σ H fun y H1 => WR ti x y H1 fun z H2 => D.nx (σ.set i (some z)) H2) : S (tAug i te ti) D σ H := fun H1 e D1 l =>
  ⟨x, hx, h H1 e _ fun v H2 H3 k e2 => k H3 e2 _ fun z H4 H5 k4 e4 => l.nx _ _ _ k4 e4⟩
theorem s_par {i j : Nat} {ta : TA} (h : WA ta σ H fun vs H1 => ∃ v w, vs = [v, w] ∧ D.nx ((σ.set i (some v)).set j (some w)) H1) : S (tPar i j ta) D σ H := fun H1 e D1 l =>
  h H1 e _ fun vs H2 H3 h2 e2 => by
    obtain ⟨v, w, rfl, k⟩ := h2
    exact ⟨v, w, rfl, l.nx _ _ _ k e2⟩
theorem s_cut {M : KS} (h : S t { D with nx := M } σ H) (k : ∀ σ1 H1, M σ1 H1 → S u D σ1 H1) : S (tSeq t u) D σ H := s_seq (h.mono (fun σ1 H1 m => k σ1 H1 m) (fun _ _ z => z) (fun _ _ z => z) (fun _ _ z => z))
/-! ### targets -/
theorem g_name {i : Nat} {K : KS} (k : K (σ.set i (some v)) H) : WG (gName i) v σ H K := fun H1 e Q q => q _ H H1 k e
theorem gs_nil {K : KS} (k : K σ H) : WGs gNil [] σ H K := fun H1 e Q q => ⟨rfl, q _ H H1 k e⟩
theorem gs_cons {gs : TGs} {vs : List V} {K : KS} (h : WG g v σ H fun σ1 H1 => WGs gs vs σ1 H1 K) : WGs (gCons g gs) (v :: vs) σ H K := fun H1 e Q q =>
  ⟨v, vs, rfl, h H1 e _ fun σ2 H2 H3 k e2 => k H3 e2 Q q⟩
theorem g_tup {Kf : PySem.W.Frag} {a : Addr} {xs : List V} {n : Nat} {gs : TGs} {K : KS} (h : SqT Kf H a xs) (hn : xs.length = n) (k : WGs gs xs σ H K) : WG (gTup Kf n gs) (.ref a) σ H K := fun H1 e Q q =>
  ⟨a, xs, rfl, Evl.ex_t e h, hn, k H1 e Q q⟩
theorem g_setL {l : Addr} {xs : List V} {i : Int} {j : Nat} {K : KS} (h : W ta σ H fun o H1 => W tb σ H1 fun z H2 => ∃ xs i j, o = .ref l ∧ z = .int i ∧ H2 l = some (.lst xs) ∧ ixN xs.length i = some j ∧ K σ (upd H2 l (.lst (xs.set j v)))) : WG (gSub ta tb rSetL) v σ H K := fun H1 e Q q =>
  h H1 e _ fun o H2 H3 h2 e2 => h2 H3 e2 _ fun z H4 H5 h4 e4 => by
    obtain ⟨xs, i, j, rfl, rfl, a1, a2, k⟩ := h4
    exact ⟨l, xs, i, j, rfl, rfl, e4 _ _ a1, a2, q _ _ _ k (ex_upd e4)⟩
/-! ### operators -/
theorem r_I0 {g : Int → Int → V} {i j : Int} (k : K (g i j) H) : WR (rI0 g) (.int i) (.int j) H K := fun H1 e Q q => ⟨i, j, rfl, rfl, q _ _ _ k e⟩
theorem r_I {C : Int → Int → Prop} {g : Int → Int → V} {i j : Int} (c : C i j) (k : K (g i j) H) : WR (rI C g) (.int i) (.int j) H K := fun H1 e Q q => ⟨i, j, rfl, rfl, c, q _ _ _ k e⟩
theorem r_U {g : Int → V} {i : Int} (k : K (g i) H) : WU (rU g) (.int i) H K := fun H1 e Q q => ⟨i, rfl, q _ _ _ k e⟩
theorem r_eq (hs : scal x y = true) (k : K (.bl (decide (x = y))) H) : WR rEq x y H K := fun H1 e Q q => ⟨hs, q _ _ _ k e⟩
theorem r_ne (hs : scal x y = true) (k : K (.bl (!decide (x = y))) H) : WR rNe x y H K := fun H1 e Q q => ⟨hs, q _ _ _ k e⟩
theorem r_ixL {Kf : PySem.W.Frag} {p : Addr} {xs : List V} {i : Int} (h : SqL Kf H p xs) (a : atI xs i = some v) (k : K v H) : WR (rIxL Kf) (.ref p) (.int i) H K := fun H1 e Q q => ⟨p, xs, i, v, rfl, rfl, Evl.ex_l e h, a, q _ _ _ k e⟩
theorem r_ixT {Kf : PySem.W.Frag} {p : Addr} {xs : List V} {i : Int} (h : SqT Kf H p xs) (a : atI xs i = some v) (k : K v H) : WR (rIxT Kf) (.ref p) (.int i) H K := fun H1 e Q q => ⟨p, xs, i, v, rfl, rfl, Evl.ex_t e h, a, q _ _ _ k e⟩
theorem r_ixS {z : Str} {i : Int} {c : Nat} (h : z.length ≤ sizeLine) (a : atI z.cps.toList i = some c) (k : K (.str ⟨#[c]⟩) H) : WR rIxS (.str z) (.int i) H K := fun H1 e Q q => ⟨z, i, c, rfl, rfl, h, a, q _ _ _ k e⟩
theorem r_in {Kf : PySem.W.Frag} {neg : Bool} {p : Addr} {xs : List V} (h : SqL Kf H p xs ∨ SqT Kf H p xs) (f1 : flatV x = true) (f2 : xs.all flatV = true) (k : K (.bl (if neg then !inV x xs else inV x xs)) H) : WR (rIn Kf neg) x (.ref p) H K := fun H1 e Q q =>
  ⟨p, xs, rfl, h.elim (fun z => Or.inl (Evl.ex_l e z)) (fun z => Or.inr (Evl.ex_t e z)), f1, f2, q _ _ _ k e⟩
theorem r_cat {l b : Addr} {xs zs : List V} (h1 : H l = some (.lst xs)) (h2 : H b = some (.lst zs)) (hz : xs.length + zs.length ≤ sizeLine) (k : ∀ p, H p = none → K (.ref p) (upd H p (.lst (xs ++ zs)))) : WR rCat (.ref l) (.ref b) H K := fun H1 e Q q =>
  ⟨l, b, xs, zs, rfl, rfl, e _ _ h1, e _ _ h2, hz, fun p hp => q _ _ _ (k p (ex_free e hp)) (ex_upd e)⟩
theorem r_addS {i j : Str} (h : i.length + j.length ≤ sizeLine) (k : K (.str (i ++ j)) H) : WR (fun x y H Q => ∃ i j, x = .str i ∧ y = .str j ∧ i.length + j.length ≤ sizeLine ∧ Q (.str (i ++ j)) H) (.str i) (.str j) H K := fun H1 e Q q => ⟨i, j, rfl, rfl, h, q _ _ _ k e⟩
theorem r_eqD {Kf : PySem.W.Frag} {d e : PyData} (h1 : Dp Kf H x d) (h2 : Dp Kf H y e) (s1 : SeqAt.shaped d = true) (s2 : SeqAt.shaped e = true) (k : K (.bl (PyData.eqv d e)) H) (dx : ∀ H' v d, Ex H H' → Dp Kf H v d → Dp Kf H' v d) : WR (rEqD Kf) x y H K := fun H1 ee Q q => ⟨d, e, dx _ _ _ ee h1, dx _ _ _ ee h2, s1, s2, q _ _ _ k ee⟩
theorem r_neD {Kf : PySem.W.Frag} {d e : PyData} (h1 : Dp Kf H x d) (h2 : Dp Kf H y e) (s1 : SeqAt.shaped d = true) (s2 : SeqAt.shaped e = true) (k : K (.bl (!PyData.eqv d e)) H) (dx : ∀ H' v d, Ex H H' → Dp Kf H v d → Dp Kf H' v d) : WR (rNeD Kf) x y H K := fun H1 ee Q q => ⟨d, e, dx _ _ _ ee h1, dx _ _ _ ee h2, s1, s2, q _ _ _ k ee⟩
theorem r_slL {Kf : PySem.W.Frag} {a : Addr} {xs : List V} {lo hi : Option Int} (h : SqL Kf H a xs) (k : ∀ p, H p = none → K (.ref p) (upd H p (.lst (cutV xs lo hi)))) : WL (rSlL Kf) (.ref a) lo hi H K := fun H1 e Q q =>
  ⟨a, xs, rfl, Evl.ex_l e h, fun p hp => q _ _ _ (k p (ex_free e hp)) (ex_upd e)⟩
theorem r_slT {Kf : PySem.W.Frag} {a : Addr} {xs : List V} {lo hi : Option Int} (h : SqT Kf H a xs) (hw : ¬ (HT.sIx xs.length 0 lo = 0 ∧ HT.sIx xs.length xs.length hi = xs.length)) (k : ∀ p, H p = none → K (.ref p) (upd H p (.tup (cutV xs lo hi)))) : WL (rSlT Kf) (.ref a) lo hi H K := fun H1 e Q q =>
  ⟨a, xs, rfl, Evl.ex_t e h, hw, fun p hp => q _ _ _ (k p (ex_free e hp)) (ex_upd e)⟩
/-! ### methods -/
theorem m_append {l : Addr} {xs : List V} (h : H l = some (.lst xs)) (hz : xs.length < sizeLine) (k : K .non (upd H l (.lst (xs ++ [y])))) : WM rAppend (.ref l) [y] H K := fun H1 e Q q => ⟨l, xs, y, rfl, rfl, e _ _ h, hz, q _ _ _ k (ex_upd e)⟩
theorem m_extend {l b : Addr} {xs zs : List V} (h : H l = some (.lst xs)) (h2 : H b = some (.lst zs)) (hz : xs.length + zs.length ≤ sizeLine) (k : K .non (upd H l (.lst (xs ++ zs)))) : WM rExtend (.ref l) [.ref b] H K := fun H1 e Q q =>
  ⟨l, b, xs, zs, rfl, rfl, e _ _ h, e _ _ h2, hz, q _ _ _ k (ex_upd e)⟩
theorem m_popAt {l : Addr} {xs : List V} {i : Int} {j : Nat} (h : H l = some (.lst xs)) (h1 : -(2 ^ 63) ≤ i) (h2 : i < 2 ^ 63) (hi : seqIndex? i xs.length = some j) (hj : xs[j]? = some y) (k : K y (upd H l (.lst (xs.eraseIdx j)))) : WM rPopAt (.ref l) [.int i] H K := fun H1 e Q q =>
  ⟨l, xs, i, j, y, rfl, rfl, e _ _ h, h1, h2, hi, hj, q _ _ _ k (ex_upd e)⟩
theorem m_insert {l : Addr} {xs : List V} {i : Int} (h : H l = some (.lst xs)) (hz : xs.length < sizeLine) (h1 : 0 ≤ i) (h2 : i < 2 ^ 63) (k : K .non (upd H l (.lst (xs.take i.toNat ++ [y] ++ xs.drop i.toNat)))) :
    WM (fun x vs H Q => ∃ (l : Addr) (xs : List V) (i : Int) (y : V), x = .ref l ∧ vs = [.int i, y] ∧ H l = some (.lst xs) ∧ xs.length < sizeLine ∧ 0 ≤ i ∧ i < 2 ^ 63 ∧ Q .non (upd H l (.lst (xs.take i.toNat ++ [y] ++ xs.drop i.toNat)))) (.ref l) [.int i, y] H K := fun H1 e Q q =>
  ⟨l, xs, i, y, rfl, rfl, e _ _ h, hz, h1, h2, q _ _ _ k (ex_upd e)⟩
end
/-! ### heaps: facts carried over what is laid -/
theorem sl_new {Kf : PySem.W.Frag} {H : Hp} {a p : Addr} {o : HO} {xs : List V} (hp : H p = none) (h : SqL Kf H a xs) : SqL Kf (upd H p o) a xs := Evl.ex_l (ex_new hp) h
theorem st_new {Kf : PySem.W.Frag} {H : Hp} {a p : Addr} {o : HO} {xs : List V} (hp : H p = none) (h : SqT Kf H a xs) : SqT Kf (upd H p o) a xs := Evl.ex_t (ex_new hp) h
theorem sl_same {Kf : PySem.W.Frag} {H : Hp} {a : Addr} {xs : List V} : SqL Kf (upd H a (.lst xs)) a xs := Or.inl (Or.inl upd_same)
theorem st_same {Kf : PySem.W.Frag} {H : Hp} {a : Addr} {xs : List V} : SqT Kf (upd H a (.tup xs)) a xs := Or.inl (Or.inl upd_same)
theorem up_ne {H : Hp} {a p : Addr} {o u : HO} (hp : a ≠ p) (h : H a = some u) : upd H p o a = some u := (upd_ne hp).trans h
theorem up_new {H : Hp} {a p : Addr} {o u : HO} (hp : H p = none) (h : H a = some u) : upd H p o a = some u := up_ne (ne_of_none h hp) h
theorem up_free {H : Hp} {a p : Addr} {o : HO} (hp : a ≠ p) (h : H a = none) : upd H p o a = none := (upd_ne hp).trans h
theorem free_of {H : Hp} {a p : Addr} {o : HO} (h : upd H p o a = none) : H a = none ∧ a ≠ p := by
  by_cases e : a = p
  · rw [e, upd_same] at h
    cases h
  · rw [upd_ne e] at h
    exact ⟨h, e⟩
end Mb

namespace Mb
open PySem L2
open Evl (Ex)
/-- what is known holds of some heap that this one extends -/
def Up (P : Sg → Hp → Prop) : Sg → Hp → Prop := fun σ H => ∃ H0, P σ H0 ∧ Ex H0 H
theorem Up.in' {P : Sg → Hp → Prop} {σ : Sg} {H : Hp} (h : P σ H) : Up P σ H := ⟨H, h, Ex.rf⟩
section
variable {K : KV} {σ : Sg} {H H' : Hp} {ta tb te tc : TE} {v x y : V} {tt tu : TT} {D : KE} {t u : TS} {g : TG} {Kf : PySem.W.Frag}
theorem Up.ext {P : Sg → Hp → Prop} {σ : Sg} {H H' : Hp} (h : Up P σ H) (e : Ex H H') : Up P σ H' := by
  obtain ⟨H0, p, e0⟩ := h
  exact ⟨H0, p, e0.trans e⟩
theorem le_loop {D : KE} {D1 : Ends} (l : Le D D1) (P : Sg → Hp → Prop) : Le { D with nx := Up P, ct := Up P, bk := D.nx } { D1 with nx := Up P, ct := Up P, bk := D1.nx } :=
  ⟨fun σ H2 H3 z e => z.ext e, l.rt, l.nx, fun σ H2 H3 z e => z.ext e⟩
def UpH (P : Hp → Prop) : Hp → Prop := fun H => ∃ H0, P H0 ∧ Ex H0 H
theorem UpH.ext {P : Hp → Prop} {H H' : Hp} (h : UpH P H) (e : Ex H H') : UpH P H' := by
  obtain ⟨H0, p, e0⟩ := h
  exact ⟨H0, p, e0.trans e⟩
/-- for over a list -/
theorem s_forL {tl : TE} (h : W tl σ H fun v H1 => ∃ (a : Addr) (xs : List V) (Pv : Nat → Sg → Hp → Prop), v = .ref a ∧ SqL Kf H1 a xs ∧ Pv 0 σ H1 ∧ (∀ i σ' H', i ≤ xs.length → Pv i σ' H' → SqL Kf H' a xs) ∧
      (∀ i x σ' H', xs[i]? = some x → Pv i σ' H' → WG g x σ' H' fun σ2 H2 => S t { D with nx := Up (Pv (i + 1)), ct := Up (Pv (i + 1)), bk := D.nx } σ2 H2) ∧ (∀ σ' H', Pv xs.length σ' H' → D.nx σ' H')) : S (tFor (iList Kf tl) g t) D σ H := fun H1 e D1 l =>
  h H1 e _ fun v H2 H3 h2 e2 => by
    obtain ⟨a, xs, Pv, rfl, hs, p0, pl, ps, pd⟩ := h2
    refine ⟨a, rfl, ⟨xs, Evl.ex_l e2 hs⟩, for_list (K := Kf) (xs := xs) (fun i => Up (Pv i)) ⟨H2, p0, e2⟩ (fun i σ' H' hi q => ?_) (fun i x σ' H' hi q => ?_) (fun σ' H' q => ?_)⟩
    · obtain ⟨H0, p, e0⟩ := q
      exact Evl.ex_l e0 (pl i σ' H0 hi p)
    · obtain ⟨H0, p, e0⟩ := q
      exact ps i x σ' H0 hi p H' e0 _ fun σ2 H4 H5 z e5 => z H5 e5 _ (le_loop l _)
    · obtain ⟨H0, p, e0⟩ := q
      exact l.nx _ _ _ (pd σ' H0 p) e0
theorem s_forT {tl : TE} (h : W tl σ H fun v H1 => ∃ (a : Addr) (xs : List V) (Pv : Nat → Sg → Hp → Prop), v = .ref a ∧ SqT Kf H1 a xs ∧ Pv 0 σ H1 ∧ (∀ i σ' H', i ≤ xs.length → Pv i σ' H' → SqT Kf H' a xs) ∧
      (∀ i x σ' H', xs[i]? = some x → Pv i σ' H' → WG g x σ' H' fun σ2 H2 => S t { D with nx := Up (Pv (i + 1)), ct := Up (Pv (i + 1)), bk := D.nx } σ2 H2) ∧ (∀ σ' H', Pv xs.length σ' H' → D.nx σ' H')) : S (tFor (iTup Kf tl) g t) D σ H := fun H1 e D1 l =>
  h H1 e _ fun v H2 H3 h2 e2 => by
    obtain ⟨a, xs, Pv, rfl, hs, p0, pl, ps, pd⟩ := h2
    refine ⟨a, rfl, ⟨xs, Evl.ex_t e2 hs⟩, for_tup (K := Kf) (xs := xs) (fun i => Up (Pv i)) ⟨H2, p0, e2⟩ (fun i σ' H' hi q => ?_) (fun i x σ' H' hi q => ?_) (fun σ' H' q => ?_)⟩
    · obtain ⟨H0, p, e0⟩ := q
      exact Evl.ex_t e0 (pl i σ' H0 hi p)
    · obtain ⟨H0, p, e0⟩ := q
      exact ps i x σ' H0 hi p H' e0 _ fun σ2 H4 H5 z e5 => z H5 e5 _ (le_loop l _)
    · obtain ⟨H0, p, e0⟩ := q
      exact l.nx _ _ _ (pd σ' H0 p) e0
/-- for i in range(n) -/
theorem s_forR1 {tn : TA} (h : WA tn σ H fun vs H1 => ∃ (n : Int) (Pv : Nat → Sg → Hp → Prop), vs = [.int n] ∧ -(2 ^ 62) ≤ n ∧ n < 2 ^ 62 ∧ Pv 0 σ H1 ∧
      (∀ (i : Nat) σ' H', i < n.toNat → Pv i σ' H' → WG g (.int (i : Int)) σ' H' fun σ2 H2 => S t { D with nx := Up (Pv (i + 1)), ct := Up (Pv (i + 1)), bk := D.nx } σ2 H2) ∧ (∀ σ' H', Pv n.toNat σ' H' → D.nx σ' H')) : S (tFor (iRng1 tn) g t) D σ H := fun H1 e D1 l =>
  h H1 e _ fun vs H2 H3 h2 e2 => by
    obtain ⟨n, Pv, rfl, b1, b2, p0, ps, pd⟩ := h2
    refine ⟨n, rfl, b1, b2, for_range (lo := 0) (n := n.toNat) (fun i => Up (Pv i)) ⟨H2, p0, e2⟩ (fun i σ' H' hi q => ?_) (fun σ' H' q => ?_)⟩
    · obtain ⟨H0, p, e0⟩ := q
      rw [Int.zero_add]
      exact ps i σ' H0 hi p H' e0 _ fun σ2 H4 H5 z e5 => z H5 e5 _ (le_loop l _)
    · obtain ⟨H0, p, e0⟩ := q
      exact l.nx _ _ _ (pd σ' H0 p) e0
theorem s_forR2 {tn : TA} (h : WA tn σ H fun vs H1 => ∃ (lo n : Int) (Pv : Nat → Sg → Hp → Prop), vs = [.int lo, .int n] ∧ (-(2 ^ 62) ≤ lo ∧ lo < 2 ^ 62 ∧ -(2 ^ 62) ≤ n ∧ n < 2 ^ 62) ∧ Pv 0 σ H1 ∧
      (∀ (i : Nat) σ' H', i < (n - lo).toNat → Pv i σ' H' → WG g (.int (lo + (i : Int))) σ' H' fun σ2 H2 => S t { D with nx := Up (Pv (i + 1)), ct := Up (Pv (i + 1)), bk := D.nx } σ2 H2) ∧ (∀ σ' H', Pv (n - lo).toNat σ' H' → D.nx σ' H')) : S (tFor (iRng2 tn) g t) D σ H := fun H1 e D1 l =>
  h H1 e _ fun vs H2 H3 h2 e2 => by
    obtain ⟨lo, n, Pv, rfl, b1, p0, ps, pd⟩ := h2
    refine ⟨lo, n, rfl, b1, for_range (lo := lo) (n := (n - lo).toNat) (fun i => Up (Pv i)) ⟨H2, p0, e2⟩ (fun i σ' H' hi q => ?_) (fun σ' H' q => ?_)⟩
    · obtain ⟨H0, p, e0⟩ := q
      exact ps i σ' H0 hi p H' e0 _ fun σ2 H4 H5 z e5 => z H5 e5 _ (le_loop l _)
    · obtain ⟨H0, p, e0⟩ := q
      exact l.nx _ _ _ (pd σ' H0 p) e0
theorem s_forR3 {tn : TA} (h : WA tn σ H fun vs H1 => ∃ (i0 j0 c : Int) (n : Nat) (Pv : Nat → Sg → Hp → Prop), vs = [.int i0, .int j0, .int c] ∧ RgC i0 j0 c n ∧ Pv 0 σ H1 ∧
      (∀ (i : Nat) σ' H', i < n → Pv i σ' H' → WG g (.int (i0 + (i : Nat) * c)) σ' H' fun σ2 H2 => S t { D with nx := Up (Pv (i + 1)), ct := Up (Pv (i + 1)), bk := D.nx } σ2 H2) ∧ (∀ σ' H', Pv n σ' H' → D.nx σ' H')) : S (tFor (iRng3 tn) g t) D σ H := fun H1 e D1 l =>
  h H1 e _ fun vs H2 H3 h2 e2 => by
    obtain ⟨i0, j0, c, n, Pv, rfl, b1, p0, ps, pd⟩ := h2
    refine ⟨i0, j0, c, n, rfl, b1, for_rangeC (lo := i0) (c := c) (n := n) (fun i => Up (Pv i)) ⟨H2, p0, e2⟩ (fun i σ' H' hi q => ?_) (fun σ' H' q => ?_)⟩
    · obtain ⟨H0, p, e0⟩ := q
      exact ps i σ' H0 hi p H' e0 _ fun σ2 H4 H5 z e5 => z H5 e5 _ (le_loop l _)
    · obtain ⟨H0, p, e0⟩ := q
      exact l.nx _ _ _ (pd σ' H0 p) e0
/-- while, by a word that falls -/
theorem s_while (Pv : Nat → Sg → Hp → Prop) (m0 : Nat) (p0 : Pv m0 σ H)
    (ps : ∀ m σ' H', Pv m σ' H' → WT tt σ' H' fun b H1 => if b = true then S t { D with nx := fun σ2 H2 => ∃ m', m' < m ∧ Up (Pv m') σ2 H2, ct := fun σ2 H2 => ∃ m', m' < m ∧ Up (Pv m') σ2 H2, bk := D.nx } σ' H1 else D.nx σ' H1) : S (tWhile tt t) D σ H := fun H1 e D1 l => by
  refine ⟨fun m => Up (Pv m), ⟨m0, H, p0, e⟩, fun m σ' H' q => ?_⟩
  obtain ⟨H0, p, e0⟩ := q
  refine ps m σ' H0 p H' e0 _ fun b H2 H3 h2 e2 => ?_
  refine if_up h2 (fun z => ?_) (fun z => l.nx _ _ _ z e2)
  refine ⟨fun σ2 H4 => ∃ m', m' < m ∧ Up (Pv m') σ2 H4, fun _ _ z => z, ?_⟩
  refine z H3 e2 _ ⟨fun σ2 H4 H5 y e5 => ?_, l.rt, l.nx, fun σ2 H4 H5 y e5 => ?_⟩
  · obtain ⟨m', hm, y⟩ := y
    exact ⟨m', hm, y.ext e5⟩
  · obtain ⟨m', hm, y⟩ := y
    exact ⟨m', hm, y.ext e5⟩
/-! ### comprehensions -/
/-- what a turn of a comprehension asks: the element is appended to the list at D, or nothing -/
def Trn (tt : TT) (te : TE) (vs : List Nat) (σ0 : Sg) (D : Addr) (N : Hp → Prop) : KS := fun σ2 H2 => wipe σ2 vs = wipe σ0 vs ∧ WT tt σ2 H2 fun b H3 => if b = true then W te σ2 H3 fun y H4 => ∃ acc, H4 D = some (.lst acc) ∧ acc.length < sizeLine ∧ N (upd H4 D (.lst (acc ++ [y]))) else N H3
theorem trn_up {vs : List Nat} {σ0 σ2 : Sg} {D : Addr} {N : Hp → Prop} {H2 H3 : Hp} (h : Trn tt te vs σ0 D N σ2 H2) (e : Ex H2 H3) (N1 : Hp → Prop) (hN : ∀ H4 H5, N H4 → Ex H4 H5 → N1 H5) :
    wipe σ2 vs = wipe σ0 vs ∧ tt σ2 H3 fun b H3 => if b = true then te σ2 H3 fun y H4 => ∃ acc, H4 D = some (.lst acc) ∧ acc.length < sizeLine ∧ N1 (upd H4 D (.lst (acc ++ [y]))) else N1 H3 := by
  refine ⟨h.1, h.2 H3 e _ fun b H4 H5 z e5 => ?_⟩
  refine if_up z (fun z => ?_) (fun z => hN _ _ z e5)
  refine z H5 e5 _ fun y H6 H7 z e7 => ?_
  obtain ⟨acc, a1, a2, a3⟩ := z
  exact ⟨acc, e7 _ _ a1, a2, hN _ _ a3 (ex_upd e7)⟩
theorem w_lcL {vs : List Nat} {tl : TE} (h : W tl σ H fun v H1 => ∃ (a : Addr) (xs : List V), v = .ref a ∧ SqL Kf H1 a xs ∧ ∀ Dl, H1 Dl = none → ∃ Pv : Nat → Hp → Prop, Pv 0 (upd H1 Dl (.lst [])) ∧ (∀ i H', i ≤ xs.length → Pv i H' → SqL Kf H' a xs) ∧
      (∀ i x H', xs[i]? = some x → Pv i H' → WG g x (wipe σ vs) H' (Trn tt te vs σ Dl (UpH (Pv (i + 1))))) ∧ (∀ H', Pv xs.length H' → K (.ref Dl) H')) : W (tLc (iList Kf tl) g tt te vs) σ H K := fun H1 e Q q =>
  h H1 e _ fun v H2 H3 h2 e2 => by
    obtain ⟨a, xs, rfl, hs, h3⟩ := h2
    refine ⟨a, rfl, ⟨xs, Evl.ex_l e2 hs⟩, fun Dl hD => ?_⟩
    obtain ⟨Pv, p0, pl, ps, pd⟩ := h3 Dl (ex_free e2 hD)
    refine lc_list (K := Kf) (xs := xs) (fun i H' => ∃ H0, Pv i H0 ∧ Ex H0 H') ⟨_, p0, ex_upd e2⟩ (fun i H' hi z => ?_) (fun i x H' hi z => ?_) (fun H' z => ?_)
    · obtain ⟨H0, p, e0⟩ := z
      exact Evl.ex_l e0 (pl i H0 hi p)
    · obtain ⟨H0, p, e0⟩ := z
      exact ps i x H0 hi p H' e0 _ fun σ2 H4 H5 z e5 => trn_up z e5 _ fun H6 H7 n e7 => n.ext e7
    · obtain ⟨H0, p, e0⟩ := z
      exact q _ _ _ (pd H0 p) e0
theorem w_lcT {vs : List Nat} {tl : TE} (h : W tl σ H fun v H1 => ∃ (a : Addr) (xs : List V), v = .ref a ∧ SqT Kf H1 a xs ∧ ∀ Dl, H1 Dl = none → ∃ Pv : Nat → Hp → Prop, Pv 0 (upd H1 Dl (.lst [])) ∧ (∀ i H', i ≤ xs.length → Pv i H' → SqT Kf H' a xs) ∧
      (∀ i x H', xs[i]? = some x → Pv i H' → WG g x (wipe σ vs) H' (Trn tt te vs σ Dl (UpH (Pv (i + 1))))) ∧ (∀ H', Pv xs.length H' → K (.ref Dl) H')) : W (tLc (iTup Kf tl) g tt te vs) σ H K := fun H1 e Q q =>
  h H1 e _ fun v H2 H3 h2 e2 => by
    obtain ⟨a, xs, rfl, hs, h3⟩ := h2
    refine ⟨a, rfl, ⟨xs, Evl.ex_t e2 hs⟩, fun Dl hD => ?_⟩
    obtain ⟨Pv, p0, pl, ps, pd⟩ := h3 Dl (ex_free e2 hD)
    refine lc_tup (K := Kf) (xs := xs) (fun i H' => ∃ H0, Pv i H0 ∧ Ex H0 H') ⟨_, p0, ex_upd e2⟩ (fun i H' hi z => ?_) (fun i x H' hi z => ?_) (fun H' z => ?_)
    · obtain ⟨H0, p, e0⟩ := z
      exact Evl.ex_t e0 (pl i H0 hi p)
    · obtain ⟨H0, p, e0⟩ := z
      exact ps i x H0 hi p H' e0 _ fun σ2 H4 H5 z e5 => trn_up z e5 _ fun H6 H7 n e7 => n.ext e7
    · obtain ⟨H0, p, e0⟩ := z
      exact q _ _ _ (pd H0 p) e0
theorem w_lcR1 {vs : List Nat} {tn : TA} (h : WA tn σ H fun ws H1 => ∃ n : Int, ws = [.int n] ∧ -(2 ^ 62) ≤ n ∧ n < 2 ^ 62 ∧ ∀ Dl, H1 Dl = none → ∃ Pv : Nat → Hp → Prop, Pv 0 (upd H1 Dl (.lst [])) ∧
      (∀ (i : Nat) H', i < n.toNat → Pv i H' → WG g (.int (i : Int)) (wipe σ vs) H' (Trn tt te vs σ Dl (UpH (Pv (i + 1))))) ∧ (∀ H', Pv n.toNat H' → K (.ref Dl) H')) : W (tLc (iRng1 tn) g tt te vs) σ H K := fun H1 e Q q =>
  h H1 e _ fun ws H2 H3 h2 e2 => by
    obtain ⟨n, rfl, b1, b2, h3⟩ := h2
    refine ⟨n, rfl, b1, b2, fun Dl hD => ?_⟩
    obtain ⟨Pv, p0, ps, pd⟩ := h3 Dl (ex_free e2 hD)
    refine lc_range (lo := 0) (n := n.toNat) (fun i H' => ∃ H0, Pv i H0 ∧ Ex H0 H') ⟨_, p0, ex_upd e2⟩ (fun i H' hi z => ?_) (fun H' z => ?_)
    · obtain ⟨H0, p, e0⟩ := z
      rw [Int.zero_add]
      exact ps i H0 hi p H' e0 _ fun σ2 H4 H5 z e5 => trn_up z e5 _ fun H6 H7 n e7 => n.ext e7
    · obtain ⟨H0, p, e0⟩ := z
      exact q _ _ _ (pd H0 p) e0
theorem w_lcR2 {vs : List Nat} {tn : TA} (h : WA tn σ H fun ws H1 => ∃ lo n : Int, ws = [.int lo, .int n] ∧ (-(2 ^ 62) ≤ lo ∧ lo < 2 ^ 62 ∧ -(2 ^ 62) ≤ n ∧ n < 2 ^ 62) ∧ ∀ Dl, H1 Dl = none → ∃ Pv : Nat → Hp → Prop, Pv 0 (upd H1 Dl (.lst [])) ∧
      (∀ (i : Nat) H', i < (n - lo).toNat → Pv i H' → WG g (.int (lo + (i : Int))) (wipe σ vs) H' (Trn tt te vs σ Dl (UpH (Pv (i + 1))))) ∧ (∀ H', Pv (n - lo).toNat H' → K (.ref Dl) H')) : W (tLc (iRng2 tn) g tt te vs) σ H K := fun H1 e Q q =>
  h H1 e _ fun ws H2 H3 h2 e2 => by
    obtain ⟨lo, n, rfl, b1, h3⟩ := h2
    refine ⟨lo, n, rfl, b1, fun Dl hD => ?_⟩
    obtain ⟨Pv, p0, ps, pd⟩ := h3 Dl (ex_free e2 hD)
    refine lc_range (lo := lo) (n := (n - lo).toNat) (fun i H' => ∃ H0, Pv i H0 ∧ Ex H0 H') ⟨_, p0, ex_upd e2⟩ (fun i H' hi z => ?_) (fun H' z => ?_)
    · obtain ⟨H0, p, e0⟩ := z
      exact ps i H0 hi p H' e0 _ fun σ2 H4 H5 z e5 => trn_up z e5 _ fun H6 H7 n e7 => n.ext e7
    · obtain ⟨H0, p, e0⟩ := z
      exact q _ _ _ (pd H0 p) e0
/-! ### comprehensions whose elements change nothing -/
theorem take_map_some {α β : Type} {f : α → β} {xs : List α} {i : Nat} {x : α} (h : xs[i]? = some x) : (xs.take (i + 1)).map f = (xs.take i).map f ++ [f x] := by
  rw [List.take_add_one, h, List.map_append]
  rfl
/-- [e for x in xs], e a value of x alone -/
theorem w_lcL_map {j : Nat} {vs : List Nat} {tl : TE} {a : Addr} {xs : List V} (f : V → V) (hw : ∀ x, wipe ((wipe σ vs).set j (some x)) vs = wipe σ vs)
    (h : W tl σ H fun v H1 => v = .ref a ∧ SqL Kf H1 a xs ∧ xs.length < sizeLine ∧ (∀ x ∈ xs, ∀ (H' : Hp) (K' : KV), Ex H1 H' → K' (f x) H' → W te ((wipe σ vs).set j (some x)) H' K') ∧
      ∀ p, H1 p = none → K (.ref p) (upd H1 p (.lst (xs.map f)))) : W (tLc (iList Kf tl) (gName j) tYes te vs) σ H K :=
  w_lcL (h.mono fun v H1 z => by
    obtain ⟨rfl, hs, hz, he, k⟩ := z
    refine ⟨a, xs, rfl, hs, fun Dl hD => ⟨fun i H' => H' = upd H1 Dl (.lst ((xs.take i).map f)), rfl, fun i H' _ p => ?_, fun i x H' hi p => ?_, fun H' p => ?_⟩⟩
    · rw [p]
      exact sl_new hD hs
    · have hx : x ∈ xs := List.mem_of_getElem? hi
      refine g_name ⟨hw x, wt_yes ?_⟩
      rw [if_pos rfl]
      refine he x hx H' _ (by rw [p]; exact ex_new hD) ⟨(xs.take i).map f, by rw [p]; exact upd_same, ?_, ?_⟩
      · rw [List.length_map, List.length_take]
        exact Nat.lt_of_le_of_lt (Nat.min_le_right _ _) hz
      · refine ⟨_, ?_, Ex.rf⟩
        show upd H' Dl (.lst ((xs.take i).map f ++ [f x])) = upd H1 Dl (.lst ((xs.take (i + 1)).map f))
        rw [p, upd_upd, take_map_some hi]
    · have p' : H' = upd H1 Dl (.lst ((xs.take xs.length).map f)) := p
      rw [List.take_length] at p'
      rw [p']
      exact k Dl hD)
end
end Mb

namespace Mb
open PySem L2
open Evl (Ex)
section
variable {X : Cx}
abbrev rLenS (K : PySem.W.Frag) : List V → Hp → VK → Prop := fun xs H Q => ∃ p ys, xs = [.ref p] ∧ (SqL K H p ys ∨ SqT K H p ys) ∧ Q (.int ys.length) H
theorem cr_lenS : CallR X (.builtin "len") (rLenS X.K) := call_len_seq
abbrev rLenZ : List V → Hp → VK → Prop := fun xs H Q => ∃ z, xs = [.str z] ∧ z.length ≤ sizeLine ∧ Q (.int z.length) H
theorem cr_lenZ : CallR X (.builtin "len") rLenZ := call_len_str
abbrev rLenD : List V → Hp → VK → Prop := fun xs H Q => ∃ a kvs, xs = [V.ref a] ∧ H a = some (.dK kvs) ∧ Q (.int kvs.length) H
theorem cr_lenD : CallR X (.builtin "len") rLenD := call_lenD
abbrev rMax2 : List V → Hp → VK → Prop := fun xs H Q => ∃ i j, xs = [.int i, .int j] ∧ Q (.int (if j > i then j else i)) H
theorem cr_max2 (hc : X.calm = true) : CallR X (.builtin "max") rMax2 := call_max2 hc
abbrev rMin2 : List V → Hp → VK → Prop := fun xs H Q => ∃ i j, xs = [.int i, .int j] ∧ Q (.int (if j < i then j else i)) H
theorem cr_min2 (hc : X.calm = true) : CallR X (.builtin "min") rMin2 := call_min2 hc
abbrev rAbs : List V → Hp → VK → Prop := fun xs H Q => ∃ i, xs = [.int i] ∧ Q (.int (if i < 0 then -i else i)) H
theorem cr_abs : CallR X (.builtin "abs") rAbs := call_abs
abbrev rDivm : List V → Hp → VK → Prop := fun xs H Q => ∃ i j, xs = [.int i, .int j] ∧ CDiv i j ∧ ∀ p, H p = none → Q (.ref p) (upd H p (.tup [.int (i / j), .int (i % j)]))
theorem cr_divm : CallR X (.builtin "divmod") rDivm := call_divmod
abbrev rInt1 : List V → Hp → VK → Prop := fun xs H Q => (∃ i, xs = [.int i] ∧ Q (.int i) H) ∨ ∃ k, xs = [.bl k] ∧ Q (.int (if k then 1 else 0)) H
theorem cr_int1 : CallR X (.type "int") rInt1 := call_int1
abbrev rJoin (K : PySem.W.Frag) : V → List V → Hp → VK → Prop := fun x xs H Q => ∃ a p, ∃ ys : List Str, x = .str a ∧ xs = [.ref p] ∧ (SqL K H p (ys.map V.str) ∨ SqT K H p (ys.map V.str)) ∧ (ys.map (·.length)).sum + ys.length * a.length ≤ 16777216 ∧ Q (.str (Txt.join a ys)) H
abbrev rSplit : V → List V → Hp → VK → Prop := fun x xs H Q => ∃ a b, x = .str a ∧ xs = [.str b] ∧ (b.length == 0) = false ∧ a.length + 2 ≤ sizeLine ∧ rNewStrs (Txt.split a b) H Q
abbrev rWords : V → List V → Hp → VK → Prop := fun x xs H Q => ∃ a, x = .str a ∧ xs = [] ∧ a.length + 2 ≤ sizeLine ∧ rNewStrs (Txt.words a) H Q
abbrev rInZ : R2 := fun x y H Q => ∃ (c : Nat) (z : Str), x = .str ⟨#[c]⟩ ∧ y = .str z ∧ Q (.bl (decide (c ∈ z.cps.toList))) H
theorem op_inZ : OpR X (compareOp .In) rInZ := op_in_sign
abbrev rNotInZ : R2 := fun x y H Q => ∃ (c : Nat) (z : Str), x = .str ⟨#[c]⟩ ∧ y = .str z ∧ Q (.bl (!decide (c ∈ z.cps.toList))) H
theorem op_notInZ : OpR X (compareOp .NotIn) rNotInZ := op_notIn_sign
abbrev rAddS : R2 := fun x y H Q => ∃ i j, x = .str i ∧ y = .str j ∧ i.length + j.length ≤ sizeLine ∧ Q (.str (i ++ j)) H
theorem op_addS : OpR X (binaryOp .Add) rAddS := op_add_str
abbrev rIsN2 : R2 := fun x y H Q => y = .non ∧ Q (.bl (decide (x = .non))) H
theorem op_isN2 : OpR X (compareOp .Is) rIsN2 := op_isN
abbrev rNotN2 : R2 := fun x y H Q => y = .non ∧ Q (.bl (!decide (x = .non))) H
theorem op_notN2 : OpR X (compareOp .IsNot) rNotN2 := op_notN
abbrev rIns : V → List V → Hp → VK → Prop := fun x vs H Q => ∃ (l : Addr) (xs : List V) (i : Int) (y : V), x = .ref l ∧ vs = [.int i, y] ∧ H l = some (.lst xs) ∧ xs.length < sizeLine ∧ 0 ≤ i ∧ i < 2 ^ 63 ∧ Q .non (upd H l (.lst (xs.take i.toNat ++ [y] ++ xs.drop i.toNat)))
theorem mt_ins : MtR X "list.insert" rIns := mt_insert
end
section
variable {K : KV} {σ : Sg} {H H' : Hp} {ta tb te tc : TE} {v x y : V} {Kf : PySem.W.Frag}
theorem c_lenL {p : Addr} {ys : List V} (h : SqL Kf H p ys) (k : K (.int ys.length) H) : WC (rLenS Kf) [.ref p] H K := fun H1 e Q q => ⟨p, ys, rfl, Or.inl (Evl.ex_l e h), q _ _ _ k e⟩
theorem c_lenT {p : Addr} {ys : List V} (h : SqT Kf H p ys) (k : K (.int ys.length) H) : WC (rLenS Kf) [.ref p] H K := fun H1 e Q q => ⟨p, ys, rfl, Or.inr (Evl.ex_t e h), q _ _ _ k e⟩
theorem c_lenZ {z : Str} (h : z.length ≤ sizeLine) (k : K (.int z.length) H) : WC rLenZ [.str z] H K := fun H1 e Q q => ⟨z, rfl, h, q _ _ _ k e⟩
theorem c_lenD {p : Addr} {kvs : List (Key × V)} (h : H p = some (.dK kvs)) (k : K (.int kvs.length) H) : WC rLenD [.ref p] H K := fun H1 e Q q => ⟨p, kvs, rfl, e _ _ h, q _ _ _ k e⟩
theorem c_max2 {i j : Int} (k : K (.int (if j > i then j else i)) H) : WC rMax2 [.int i, .int j] H K := fun H1 e Q q => ⟨i, j, rfl, q _ _ _ k e⟩
theorem c_min2 {i j : Int} (k : K (.int (if j < i then j else i)) H) : WC rMin2 [.int i, .int j] H K := fun H1 e Q q => ⟨i, j, rfl, q _ _ _ k e⟩
theorem c_abs {i : Int} (k : K (.int (if i < 0 then -i else i)) H) : WC rAbs [.int i] H K := fun H1 e Q q => ⟨i, rfl, q _ _ _ k e⟩
theorem c_divm {i j : Int} (h1 : 0 < j) (h2 : j < 1073741824) (k : ∀ p, H p = none → K (.ref p) (upd H p (.tup [.int (i / j), .int (i % j)]))) : WC rDivm [.int i, .int j] H K := fun H1 e Q q =>
  ⟨i, j, rfl, ⟨h1, h2⟩, fun p hp => q _ _ _ (k p (ex_free e hp)) (ex_upd e)⟩
theorem c_intI {i : Int} (k : K (.int i) H) : WC rInt1 [.int i] H K := fun H1 e Q q => Or.inl ⟨i, rfl, q _ _ _ k e⟩
theorem c_intB {b : Bool} (k : K (.int (if b then 1 else 0)) H) : WC rInt1 [.bl b] H K := fun H1 e Q q => Or.inr ⟨b, rfl, q _ _ _ k e⟩
theorem c_sum {a : Addr} {ns : List Int} (h : SqL Kf H a (ns.map V.int)) (k : K (.int ns.sum) H) : WC (rSum Kf) [.ref a] H K := fun H1 e Q q => ⟨a, ns, rfl, Evl.ex_l e h, q _ _ _ k e⟩
theorem c_all {a : Addr} {bs : List Bool} (h : SqL Kf H a (bs.map V.bl)) (k : K (.bl (bs.all id)) H) : WC (rAll Kf) [.ref a] H K := fun H1 e Q q => ⟨a, bs, rfl, Evl.ex_l e h, q _ _ _ k e⟩
theorem c_any {a : Addr} {bs : List Bool} (h : SqL Kf H a (bs.map V.bl)) (k : K (.bl (bs.any id)) H) : WC (rAny Kf) [.ref a] H K := fun H1 e Q q => ⟨a, bs, rfl, Evl.ex_l e h, q _ _ _ k e⟩
theorem c_max {a : Addr} {ns : List Int} (h : SqL Kf H a (ns.map V.int)) (hn : 0 < ns.length) (k : ∀ m, m ∈ ns → (∀ y, y ∈ ns → y ≤ m) → K (.int m) H) : WC (rMax Kf) [.ref a] H K := fun H1 e Q q => ⟨a, ns, rfl, Evl.ex_l e h, hn, fun m h1 h2 => q _ _ _ (k m h1 h2) e⟩
theorem c_min {a : Addr} {ns : List Int} (h : SqL Kf H a (ns.map V.int)) (hn : 0 < ns.length) (k : ∀ m, m ∈ ns → (∀ y, y ∈ ns → m ≤ y) → K (.int m) H) : WC (rMin Kf) [.ref a] H K := fun H1 e Q q => ⟨a, ns, rfl, Evl.ex_l e h, hn, fun m h1 h2 => q _ _ _ (k m h1 h2) e⟩
theorem tyX_ext {t : Value} (e : Ex H H') (h : TyX Kf H x t) : TyX Kf H' x t := by
  cases h with
  | base b =>
    refine .base ?_
    cases b with
    | non => exact .non
    | bl _ => exact .bl _
    | int _ => exact .int _
    | str _ => exact .str _
    | flt _ => exact .flt _
    | lst z => exact .lst (e _ _ z)
    | frz z => exact .frz (e _ _ z)
    | tup z => exact .tup (e _ _ z)
    | dK z => exact .dK (e _ _ z)
    | dT z => exact .dT (e _ _ z)
    | ins z a b c d f => exact .ins (e _ _ z) a b c d f
  | byt b => exact .byt b
  | set z => exact .set (e _ _ z)
  | kList a b => exact .kList a b
  | kTuple a b => exact .kTuple a b
  | kDict a b => exact .kDict a b
  | fTuple z => exact .fTuple (e _ _ z)
  | fDict z => exact .fDict (e _ _ z)
theorem c_isi {n m : String} {b : Bool} (h : TyX Kf H x (.type m)) (hk : kitB m n = some b) (k : K (.bl b) H) : WC (rIsi Kf) [x, .ty n] H K := fun H1 e Q q => ⟨x, .ty n, .type m, .type n, b, rfl, .ty n, tyX_ext e h, kit_ty hk, q _ _ _ k e⟩
theorem dpAll_ext (e : Ex H H') : ∀ (ds : List PyData) (vs : List V), (∀ d ∈ ds, ∀ v, Dp Kf H v d → Dp Kf H' v d) → DpAll Kf H vs ds → DpAll Kf H' vs ds
  | _, _, _, .nil => .nil
  | d :: ds, v :: vs, h, .cons a b => .cons (h d List.mem_cons_self v a) (dpAll_ext e ds vs (fun d' hd => h d' (List.mem_cons_of_mem _ hd)) b)
theorem dp_ext (e : Ex H H') : ∀ (n : Nat) (d : PyData) (v : V), sizeOf d ≤ n → Dp Kf H v d → Dp Kf H' v d := by
  intro n
  induction n with
  | zero => intro d v hn h; cases d <;> simp at hn
  | succ n ih =>
    intro d v hn h
    cases h with
    | non => exact .non
    | bl b => exact .bl b
    | int i => exact .int i
    | str x => exact .str x
    | @lst a xs ds hs ha =>
      refine .lst (Evl.ex_l e hs) (dpAll_ext e ds xs (fun d hd v hv => ih d v ?_ hv) ha)
      have h1 : sizeOf (PyData.list ds) = 1 + sizeOf ds := by simp
      have h2 := List.sizeOf_lt_of_mem hd
      omega
    | @tup a xs ds hs ha =>
      refine .tup (Evl.ex_t e hs) (dpAll_ext e ds xs (fun d hd v hv => ih d v ?_ hv) ha)
      have h1 : sizeOf (PyData.tuple ds) = 1 + sizeOf ds := by simp
      have h2 := List.sizeOf_lt_of_mem hd
      omega
theorem dp_up (e : Ex H H') {d : PyData} (h : Dp Kf H v d) : Dp Kf H' v d := dp_ext e _ d v (Nat.le_refl _) h
theorem r_eqd {d e : PyData} (h1 : Dp Kf H x d) (h2 : Dp Kf H y e) (s1 : SeqAt.shaped d = true) (s2 : SeqAt.shaped e = true) (k : K (.bl (PyData.eqv d e)) H) : WR (rEqD Kf) x y H K := r_eqD h1 h2 s1 s2 k fun H' v d e h => dp_up e h
theorem r_ned {d e : PyData} (h1 : Dp Kf H x d) (h2 : Dp Kf H y e) (s1 : SeqAt.shaped d = true) (s2 : SeqAt.shaped e = true) (k : K (.bl (!PyData.eqv d e)) H) : WR (rNeD Kf) x y H K := r_neD h1 h2 s1 s2 k fun H' v d e h => dp_up e h
theorem c_repr {a : Addr} {d : PyData} (h : Dp Kf H (.ref a) d) (h1 : d.showable = true) (h2 : d.hasDict = false) (h3 : d.depth ≤ 60) (h4 : d.shown.length ≤ sizeLine) (k : K (.str d.shown) H) : WC (rRepr Kf) [.ref a] H K := fun H1 e Q q =>
  ⟨a, d, rfl, dp_up e h, h1, h2, h3, h4, q _ _ _ k e⟩
theorem m_join {a : Str} {p : Addr} {ys : List Str} (h : SqL Kf H p (ys.map V.str)) (hz : (ys.map (·.length)).sum + ys.length * a.length ≤ 16777216) (k : K (.str (Txt.join a ys)) H) : WM (rJoin Kf) (.str a) [.ref p] H K := fun H1 e Q q =>
  ⟨a, p, ys, rfl, rfl, Or.inl (Evl.ex_l e h), hz, q _ _ _ k e⟩
theorem m_split {a b : Str} (h1 : (b.length == 0) = false) (h2 : a.length + 2 ≤ sizeLine) (k : ∀ p, H p = none → K (.ref p) (upd H p (.lst ((Txt.split a b).map V.str)))) : WM rSplit (.str a) [.str b] H K := fun H1 e Q q =>
  ⟨a, b, rfl, rfl, h1, h2, fun p hp => q _ _ _ (k p (ex_free e hp)) (ex_upd e)⟩
theorem m_words {a : Str} (h2 : a.length + 2 ≤ sizeLine) (k : ∀ p, H p = none → K (.ref p) (upd H p (.lst ((Txt.words a).map V.str)))) : WM rWords (.str a) [] H K := fun H1 e Q q =>
  ⟨a, rfl, rfl, h2, fun p hp => q _ _ _ (k p (ex_free e hp)) (ex_upd e)⟩
theorem r_inZ {c : Nat} {z : Str} (k : K (.bl (decide (c ∈ z.cps.toList))) H) : WR rInZ (.str ⟨#[c]⟩) (.str z) H K := fun H1 e Q q => ⟨c, z, rfl, rfl, q _ _ _ k e⟩
theorem r_notInZ {c : Nat} {z : Str} (k : K (.bl (!decide (c ∈ z.cps.toList))) H) : WR rNotInZ (.str ⟨#[c]⟩) (.str z) H K := fun H1 e Q q => ⟨c, z, rfl, rfl, q _ _ _ k e⟩
theorem r_addZ {i j : Str} (h : i.length + j.length ≤ sizeLine) (k : K (.str (i ++ j)) H) : WR rAddS (.str i) (.str j) H K := fun H1 e Q q => ⟨i, j, rfl, rfl, h, q _ _ _ k e⟩
theorem r_isN2 (k : K (.bl (decide (x = .non))) H) : WR rIsN2 x .non H K := fun H1 e Q q => ⟨rfl, q _ _ _ k e⟩
theorem r_notN2 (k : K (.bl (!decide (x = .non))) H) : WR rNotN2 x .non H K := fun H1 e Q q => ⟨rfl, q _ _ _ k e⟩
theorem m_ins {l : Addr} {xs : List V} {i : Int} (h : H l = some (.lst xs)) (hz : xs.length < sizeLine) (h1 : 0 ≤ i) (h2 : i < 2 ^ 63) (k : K .non (upd H l (.lst (xs.take i.toNat ++ [y] ++ xs.drop i.toNat)))) : WM rIns (.ref l) [.int i, y] H K := fun H1 e Q q =>
  ⟨l, xs, i, y, rfl, rfl, e _ _ h, hz, h1, h2, q _ _ _ k (ex_upd e)⟩
/-! ### dicts with whole-number or text keys -/
theorem w_dget (h : W ta σ H fun x H1 => W tb σ H1 fun y H2 => ∃ a kvs k v, x = .ref a ∧ H2 a = some (.dK kvs) ∧ y = kV k ∧ valV kvs k = some v ∧ K v H2) : W (tDGet ta tb) σ H K := fun H1 e Q q =>
  h H1 e _ fun x H2 H3 h2 e2 => h2 H3 e2 _ fun y H4 H5 h4 e4 => by
    obtain ⟨a, kvs, k, v, rfl, hd, rfl, hv, z⟩ := h4
    exact ⟨a, v, rfl, hv ▸ DGet.k (e4 _ _ hd), q _ _ _ z e4⟩
theorem w_din (h : W ta σ H fun y H1 => W tb σ H1 fun x H2 => ∃ a kvs k, x = .ref a ∧ H2 a = some (.dK kvs) ∧ y = kV k ∧ K (.bl (valV kvs k).isSome) H2) : W (tDIn ta tb) σ H K := fun H1 e Q q =>
  h H1 e _ fun x H2 H3 h2 e2 => h2 H3 e2 _ fun y H4 H5 h4 e4 => by
    obtain ⟨a, kvs, k, rfl, hd, rfl, z⟩ := h4
    exact ⟨a, _, rfl, DGet.k (e4 _ _ hd), q _ _ _ z e4⟩
theorem w_dnin (h : W ta σ H fun y H1 => W tb σ H1 fun x H2 => ∃ a kvs k, x = .ref a ∧ H2 a = some (.dK kvs) ∧ y = kV k ∧ K (.bl (!(valV kvs k).isSome)) H2) : W (tDNotIn ta tb) σ H K := fun H1 e Q q =>
  h H1 e _ fun x H2 H3 h2 e2 => h2 H3 e2 _ fun y H4 H5 h4 e4 => by
    obtain ⟨a, kvs, k, rfl, hd, rfl, z⟩ := h4
    exact ⟨a, _, rfl, DGet.k (e4 _ _ hd), q _ _ _ z e4⟩
theorem s_dput {D : KE} (h : W tc σ H fun v H1 => W ta σ H1 fun x H2 => W tb σ H2 fun y H3 => ∃ a kvs k, x = .ref a ∧ H3 a = some (.dK kvs) ∧ y = kV k ∧ kvs.length < sizeLine ∧ D.nx σ (upd H3 a (.dK (putK kvs k v)))) : S (sDPut ta tb tc) D σ H := fun H1 e D1 l =>
  h H1 e _ fun v H2 H3 h2 e2 => h2 H3 e2 _ fun x H4 H5 h4 e4 => h4 H5 e4 _ fun y H6 H7 h6 e6 => by
    obtain ⟨a, kvs, k, rfl, hd, rfl, hz, z⟩ := h6
    exact ⟨a, _, rfl, DPut.k (e6 _ _ hd) hz, l.nx _ _ _ z (ex_upd e6)⟩
end
end Mb

namespace Mb
open PySem PyProof.Rows L2
open Evl (Ex)
/-- a def that stands under its name: its promise, by level -/
structure Cal (P : Program) (w : World) (K : PySem.W.Frag) (mg : Str → Option Value) (base : Heap) (CX : CXT) (k : Nat) (x : Str) (ps : List Str) (sp : Sp) : Prop where
  ex : ∃ (f : Addr) (fd : FuncData), FnOk P w K mg base CX k f fd ps sp ∧ mg x = some (.ref f) ∧ PySem.W.keepIn K (.ref f) = true ∧ Binds K fd ps []
/-- the same where no repr may be under way -/
structure CalG (P : Program) (w : World) (K : PySem.W.Frag) (mg : Str → Option Value) (base : Heap) (CX : CXT) (k : Nat) (x : Str) (ps : List Str) (sp : Sp) : Prop where
  ex : ∃ (f : Addr) (fd : FuncData), FnG P w K mg base CX k f fd ps sp ∧ mg x = some (.ref f) ∧ PySem.W.keepIn K (.ref f) = true ∧ Binds K fd ps []
/-- the same, called with keywords ks behind n arguments by place -/
structure CalW (P : Program) (w : World) (K : PySem.W.Frag) (mg : Str → Option Value) (base : Heap) (CX : CXT) (k : Nat) (x : Str) (ks : List Str) (n : Nat) (gV : List V → List V → List V) (sp : Sp) : Prop where
  ex : ∃ (f : Addr) (fd : FuncData) (ps : List Str), FnG P w K mg base CX k f fd ps sp ∧ mg x = some (.ref f) ∧ PySem.W.keepIn K (.ref f) = true ∧ KwB fd ps ks n gV
section
variable {X : Cx} {CX : CXT} {k j : Nat} {x : Str} {ps ks : List Str} {sp : Sp} {E : XK} {p pos : Pos} {e : Expr} {es : List Expr} {t tk : TA} {n : Nat} {gV : List V → List V → List V}
theorem pe_cal (c : Cal X.prog X.w X.K X.mg X.base CX k x ps sp) (hr : Room k X.A) (hg : Gl X x) (hx : Passes CX X E)
    (ha : PA X (e :: es) t) (hdb : (x == ("__debug__" : Str)) = false := by decide) (he : starEach (e :: es) X.env = (false, eval e X.env) :: starEach es X.env := by rfl) (hpl : (backTo pos (starEach es X.env)).any (·.1) = false := by rfl) :
    PE X (.Call (.Name x p) (e :: es) [] pos) (tCall sp [] E t) := by
  obtain ⟨f, fd, F, hm, hk, hb⟩ := c.ex
  exact pe_call F hr hg hm hk hb .nil hx ha hdb he hpl
theorem pe_cal0 (c : Cal X.prog X.w X.K X.mg X.base CX k x ps sp) (hr : Room k X.A) (hg : Gl X x) (hx : Passes CX X E) (hdb : (x == ("__debug__" : Str)) = false := by decide) :
    PE X (.Call (.Name x p) [] [] pos) (tCall sp [] E tNil) := by
  obtain ⟨f, fd, F, hm, hk, hb⟩ := c.ex
  exact pe_call0 F hr hg hm hk hb .nil hx hdb
theorem pe_calG (c : CalG X.prog X.w X.K X.mg X.base CX k x ps sp) (hG : X.A.guards = some []) (hr : Room k X.A) (hg : Gl X x) (hx : Passes CX X E)
    (ha : PA X (e :: es) t) (hdb : (x == ("__debug__" : Str)) = false := by decide) (he : starEach (e :: es) X.env = (false, eval e X.env) :: starEach es X.env := by rfl) (hpl : (backTo pos (starEach es X.env)).any (·.1) = false := by rfl) :
    PE X (.Call (.Name x p) (e :: es) [] pos) (tCall sp [] E t) := by
  obtain ⟨f, fd, F, hm, hk, hb⟩ := c.ex
  exact pe_callG F hG hr hg hm hk hb .nil hx ha hdb he hpl
theorem pe_calW {kws : List Keyword} (c : CalW X.prog X.w X.K X.mg X.base CX k x ks n gV sp) (hG : X.A.guards = some []) (hr : Room k X.A) (hg : Gl X x) (hx : Passes CX X E) (ha : PA X (e :: es) t) (hkw : PK X kws tk)
    (hall : (backToKw pos (keywordEach kws X.env)).all (·.1.isSome) = true := by rfl) (hks : (backToKw pos (keywordEach kws X.env)).filterMap (·.1) = ks := by rfl)
    (hdb : (x == ("__debug__" : Str)) = false := by decide) (he : starEach (e :: es) X.env = (false, eval e X.env) :: starEach es X.env := by rfl)
    (hpl : ((backTo pos (starEach (e :: es) X.env)).any (·.1) || (backToKw pos (keywordEach kws X.env)).any (·.1.isNone)) = false := by rfl) :
    PE X (.Call (.Name x p) (e :: es) kws pos) (tCallW sp gV E n ks.length t tk) := by
  obtain ⟨f, fd, ps, F, hm, hk, hb⟩ := c.ex
  exact pe_callW F hG hr hg hm hk hb hx ha hkw hall hks hdb he hpl
theorem pe_calW0 {kws : List Keyword} (c : CalW X.prog X.w X.K X.mg X.base CX k x ks 0 gV sp) (hG : X.A.guards = some []) (hr : Room k X.A) (hg : Gl X x) (hx : Passes CX X E) (hkw : PK X kws tk)
    (hall : (backToKw pos (keywordEach kws X.env)).all (·.1.isSome) = true := by rfl) (hks : (backToKw pos (keywordEach kws X.env)).filterMap (·.1) = ks := by rfl)
    (hdb : (x == ("__debug__" : Str)) = false := by decide)
    (hpl : ((backTo pos (starEach [] X.env)).any (·.1) || (backToKw pos (keywordEach kws X.env)).any (·.1.isNone)) = false := by rfl) :
    PE X (.Call (.Name x p) [] kws pos) (tCallW sp gV E 0 ks.length tNil tk) := by
  obtain ⟨f, fd, ps, F, hm, hk, hb⟩ := c.ex
  exact pe_callW0 F hG hr hg hm hk hb hx hkw hall hks hdb hpl
/-- what the module's name x holds -/
def Con (mg : Str → Option Value) (x : Str) (v : V) : Prop := ∃ u, mg x = some u ∧ RelV v u
theorem pe_con {v : V} (hg : Gl X x) (h : Con X.mg x v) (hd : (x == ("__debug__" : Str)) = false := by decide) : PE X (.Name x pos) (tC v) := by
  obtain ⟨u, hm, r⟩ := h
  exact pe_glob hg hm r hd
end
/-- no def of the text bears a built-in's name -/
structure Bi (mg : Str → Option Value) : Prop where
  len_ : mg "len" = none
  sum_ : mg "sum" = none
  all_ : mg "all" = none
  any_ : mg "any" = none
  max_ : mg "max" = none
  min_ : mg "min" = none
  abs_ : mg "abs" = none
  divmod_ : mg "divmod" = none
  range_ : mg "range" = none
  isinstance_ : mg "isinstance" = none
  repr_ : mg "repr" = none
  sorted_ : mg "sorted" = none
  list_ : mg "list" = none
  int_ : mg "int" = none
  str_ : mg "str" = none
  bool_ : mg "bool" = none
  tuple_ : mg "tuple" = none
  enumerate_ : mg "enumerate" = none
  zip_ : mg "zip" = none
  set_ : mg "set" = none
  reversed_ : mg "reversed" = none
section
variable {P : Program} {w : World} {K : PySem.W.Frag} {mg : Str → Option Value} {base : Heap}
/-- THE RULE: a def by its body, its promise over what is known -/
theorem okP {x qual : Str} {st : Stmt} {f : Addr} {fd : FuncData} {N ps : List Str} {k : Nat} {α : Type} {pre : α → List V → Hp → Prop} {post : α → Hp → V → Hp → Prop} (F : Fun K x qual st f fd) (Sc : FnScope N ps (defScope st))
    (len : ∀ a vs H, pre a vs H → vs.length = ps.length)
    (hbody : ∀ (cdv : Value) (A : Around) (outer : List Env) (s : Shared) (H : Hp) (E : XK) (a : α) (vs : List V) (H0 : Hp), Room k (A.deeper (envOfC qual (defScope st) s.heap.objs.size f cdv)) → pre a vs H0 →
      ∃ t, PSs (cxOf CX0 P w K mg base N qual (defScope st) f cdv A outer s H E).nox (defBody st) t ∧ S t ⟨fun _ H1 => UpH (post a H0 .non) H1, fun v H1 => UpH (post a H0 v) H1, fun _ _ => False, fun _ _ => False⟩ (start N vs) H0) :
    FnOk P w K mg base CX0 (k + 1) f fd ps (Pr pre post) := by
  refine F.ok Sc (fun vs H Q E h => ?_) (fun cdv A outer s H vs Q E hr h => ?_)
  · obtain ⟨a, H0, e, p, q⟩ := h
    exact len a vs H0 p
  · obtain ⟨a, H0, e, p, q⟩ := h
    obtain ⟨t, ht, hs⟩ := hbody cdv A outer s H E a vs H0 hr p
    refine ⟨t, ht, hs H e _ ⟨fun σ H2 H3 z e3 => ?_, fun v H2 H3 z e3 => ?_, fun _ _ _ z _ => z, fun _ _ _ z _ => z⟩⟩
    · obtain ⟨H4, z, e4⟩ := z
      exact q _ _ _ z (e4.trans e3)
    · obtain ⟨H4, z, e4⟩ := z
      exact q _ _ _ z (e4.trans e3)
/-- the same where no repr may be under way -/
theorem okG {x qual : Str} {st : Stmt} {f : Addr} {fd : FuncData} {N ps : List Str} {k : Nat} {α : Type} {pre : α → List V → Hp → Prop} {post : α → Hp → V → Hp → Prop} (F : Fun K x qual st f fd) (Sc : FnScope N ps (defScope st))
    (len : ∀ a vs H, pre a vs H → vs.length = ps.length)
    (hbody : ∀ (cdv : Value) (A : Around) (outer : List Env) (s : Shared) (H : Hp) (E : XK) (a : α) (vs : List V) (H0 : Hp), A.guards = some [] → Room k (A.deeper (envOfC qual (defScope st) s.heap.objs.size f cdv)) → pre a vs H0 →
      ∃ t, PSs (cxOf CX0 P w K mg base N qual (defScope st) f cdv A outer s H E).nox (defBody st) t ∧ S t ⟨fun _ H1 => UpH (post a H0 .non) H1, fun v H1 => UpH (post a H0 v) H1, fun _ _ => False, fun _ _ => False⟩ (start N vs) H0) :
    FnG P w K mg base CX0 (k + 1) f fd ps (Pr pre post) := by
  refine FnG.okX F Sc (fun vs H Q E h => ?_) (fun cdv A outer s H vs Q E hG hr h => ?_)
  · obtain ⟨a, H0, e, p, q⟩ := h
    exact len a vs H0 p
  · obtain ⟨a, H0, e, p, q⟩ := h
    obtain ⟨t, ht, hs⟩ := hbody cdv A outer s H E a vs H0 hG hr p
    refine ⟨t, ht.nox, hs H e _ ⟨fun σ H2 H3 z e3 => ?_, fun v H2 H3 z e3 => ?_, fun _ _ _ z _ => z, fun _ _ _ z _ => z⟩⟩
    · obtain ⟨H4, z, e4⟩ := z
      exact q _ _ _ z (e4.trans e3)
    · obtain ⟨H4, z, e4⟩ := z
      exact q _ _ _ z (e4.trans e3)
theorem Fun.cal {x : Str} {st : Stmt} {f : Addr} {fd : FuncData} {ps : List Str} {k : Nat} {sp : Sp} {CX : CXT} {q : Str} (F : Fun K x q st f fd) (G : FnOk P w K mg base CX k f fd ps sp) (hm : mg x = some (.ref f))
    (h : ∀ (kV doc pm : Value) (an : Option Addr) (cdv ct : Value) (us : List Value), us.length = ps.length → bindArgs (PySem.W.fnOf x q (defArgs st) (defBody st) (defScope st) .none kV doc pm an cdv ct) ⟨us, []⟩ = pure (ps.zip us)) : Cal P w K mg base CX k x ps sp :=
  ⟨f, fd, G, hm, F.kp, F.binds h⟩
theorem Fun.calG {x : Str} {st : Stmt} {f : Addr} {fd : FuncData} {ps : List Str} {k : Nat} {sp : Sp} {CX : CXT} {q : Str} (F : Fun K x q st f fd) (G : FnG P w K mg base CX k f fd ps sp) (hm : mg x = some (.ref f))
    (h : ∀ (kV doc pm : Value) (an : Option Addr) (cdv ct : Value) (us : List Value), us.length = ps.length → bindArgs (PySem.W.fnOf x q (defArgs st) (defBody st) (defScope st) .none kV doc pm an cdv ct) ⟨us, []⟩ = pure (ps.zip us)) : CalG P w K mg base CX k x ps sp :=
  ⟨f, fd, G, hm, F.kp, F.binds h⟩
end
end Mb

namespace Mb
open PySem PyProof.Rows L2
open Evl (Ex)
theorem r_ip {K : KV} {H : Hp} {f : Int → Int → Int} {i j : Int} (k : K (.int (f i j)) H) : WR (ipI f) (.int i) (.int j) H K := fun H1 e Q q => ⟨i, j, rfl, rfl, q _ _ _ k e⟩
theorem ite_t {b : Bool} {p q : Prop} (h : b = true) (k : p) : if b = true then p else q := by
  rw [if_pos h]
  exact k
theorem ite_f {b : Bool} {p q : Prop} (h : b = false) (k : q) : if b = true then p else q := by
  rw [h, if_neg Bool.false_ne_true]
  exact k
theorem upd_self {H : Hp} {a : Addr} {o : HO} (h : H a = some o) : upd H a o = H := by
  funext b
  unfold upd
  by_cases e : b = a
  · rw [if_pos e, e, h]
  · rw [if_neg e]
theorem upd_comm {H : Hp} {a b : Addr} {o u : HO} (h : a ≠ b) : upd (upd H a o) b u = upd (upd H b u) a o := by
  funext c
  unfold upd
  by_cases e : c = b
  · rw [if_pos e, if_neg (fun z => h (z.symm.trans e)), if_pos e]
  · rw [if_neg e]
    by_cases e2 : c = a
    · rw [if_pos e2, if_pos e2]
    · rw [if_neg e2, if_neg e2, if_neg e]
/-- a heap and what was laid beside it -/
def plus (H N : Hp) : Hp := fun b => match H b with
  | some o => some o
  | none => N b
theorem plus_l {H N : Hp} {b : Addr} {o : HO} (h : H b = some o) : plus H N b = some o := by
  unfold plus
  rw [h]
theorem plus_r {H N : Hp} {b : Addr} (h : H b = none) : plus H N b = N b := by
  unfold plus
  rw [h]
/-- N tells of nothing that H tells of -/
def Apart (H N : Hp) : Prop := ∀ b o, N b = some o → H b = none
theorem ex_plus {H N : Hp} : Ex H (plus H N) := fun _ _ h => plus_l h
theorem ex_plusR {H N : Hp} (a : Apart H N) : Ex N (plus H N) := fun b o h => by rw [plus_r (a b o h)]; exact h
theorem plus_upd {H N : Hp} {a : Addr} {o : HO} : plus (upd H a o) N = upd (plus H N) a o := by
  funext b
  by_cases e : b = a
  · rw [e, upd_same, plus_l upd_same]
  · rw [upd_ne e]
    unfold plus
    rw [upd_ne e]
theorem plus_none {H N : Hp} {b : Addr} (h : H b = none) (h2 : N b = none) : plus H N b = none := by rw [plus_r h, h2]
theorem Apart.clear {H N : Hp} {b : Addr} {o : HO} (a : Apart H N) (h : H b = some o) : N b = none := by
  cases e : N b with
  | none => rfl
  | some u =>
    rw [a b u e] at h
    cases h
theorem Apart.mono {H H' N : Hp} (e : Ex H H') (a : Apart H' N) : Apart H N := fun b o h => ex_free e (a b o h)
def emp : Hp := fun _ => none
theorem emp_none {b : Addr} : emp b = none := rfl
theorem ex_plus_of {H H' N : Hp} (e : Ex H H') (e2 : Ex N H') : Ex (plus H N) H' := fun b o h => by
  unfold plus at h
  cases q : H b with
  | some u =>
    rw [q] at h
    rw [← h]
    exact e b u q
  | none =>
    rw [q] at h
    exact e2 b o h
theorem ip_mul {X : Cx} : PIp X .Mult (rI CMul fun i j => .int (i * j)) := fun pins s σ H x y v u Q I rx ry h => iop_mul pins s σ H x y v u Q I rx ry h
theorem ip_fdiv {X : Cx} : PIp X .FloorDiv (rI CDiv fun i j => .int (i / j)) := fun pins s σ H x y v u Q I rx ry h => iop_fdiv pins s σ H x y v u Q I rx ry h
theorem ip_or {X : Cx} : PIp X .BitOr (rI0 fun i j => .int (Builtin.bitOr i j)) := fun pins s σ H x y v u Q I rx ry h => iop_or pins s σ H x y v u Q I rx ry h
/-- a heap that was grown, then changed at an address that the first one does not know -/
theorem ex_mut {H H' : Hp} {p : Addr} {o : HO} (e : Ex H H') (h : H p = none) : Ex H (upd H' p o) := Evl.Ex.mut e h
section
variable {K : KV} {σ : Sg} {H H' : Hp} {ta tb te tc : TE} {v x y : V} {tt tu : TT} {D : KE} {t u : TS} {g : TG} {Kf : PySem.W.Frag}
theorem w_lcS {vs : List Nat} {tl : TE} (h : W tl σ H fun v H1 => ∃ z : Str, v = .str z ∧ ∀ Dl, H1 Dl = none → ∃ Pv : Nat → Hp → Prop, Pv 0 (upd H1 Dl (.lst [])) ∧
      (∀ i c H', z.cps.toList[i]? = some c → Pv i H' → WG g (.str ⟨#[c]⟩) (wipe σ vs) H' (Trn tt te vs σ Dl (UpH (Pv (i + 1))))) ∧ (∀ H', Pv z.cps.toList.length H' → K (.ref Dl) H')) : W (tLc (iStr tl) g tt te vs) σ H K := fun H1 e Q q =>
  h H1 e _ fun v H2 H3 h2 e2 => by
    obtain ⟨z, rfl, h3⟩ := h2
    refine ⟨z, rfl, fun Dl hD => ?_⟩
    obtain ⟨Pv, p0, ps, pd⟩ := h3 Dl (ex_free e2 hD)
    refine ⟨fun i m H' => m = z.cps.size - i ∧ i ≤ z.cps.size ∧ ∃ H0, Pv i H0 ∧ Ex H0 H', ⟨_, rfl, Nat.zero_le _, _, p0, ex_upd e2⟩, fun i m H' hw => ?_⟩
    obtain ⟨hm, hi, H0, p, e0⟩ := hw
    by_cases hlt : i < z.cps.size
    · refine Or.inr ⟨hlt, fun H' => ∃ H0, Pv (i + 1) H0 ∧ Ex H0 H', fun H4 n => ⟨z.cps.size - (i + 1), by omega, rfl, hlt, n⟩, fun x H4 hy => ?_⟩
      obtain ⟨rfl, c, hc, rfl⟩ := hy
      exact ps i c H0 (by rw [Array.getElem?_toList]; exact hc) p H4 e0 _ fun σ2 H5 H6 z e5 => trn_up z e5 _ fun H7 H8 n e8 => n.ext e8
    · have hz : i = z.cps.toList.length := by rw [Array.length_toList]; omega
      refine Or.inl ⟨by show z.cps.size ≤ i; omega, q _ _ _ (pd H0 (hz ▸ p)) e0⟩
/-- [e for c in text], e a value of the sign alone -/
theorem w_lcS_map {j : Nat} {vs : List Nat} {tl : TE} {z : Str} (f : Nat → V) (hw : ∀ x, wipe ((wipe σ vs).set j (some x)) vs = wipe σ vs)
    (h : W tl σ H fun v H1 => v = .str z ∧ z.length < sizeLine ∧ (∀ c ∈ z.cps.toList, ∀ (H' : Hp) (K' : KV), Ex H1 H' → K' (f c) H' → W te ((wipe σ vs).set j (some (.str ⟨#[c]⟩))) H' K') ∧
      ∀ p, H1 p = none → K (.ref p) (upd H1 p (.lst (z.cps.toList.map f)))) : W (tLc (iStr tl) (gName j) tYes te vs) σ H K :=
  w_lcS (h.mono fun v H1 w => by
    obtain ⟨rfl, hz, he, k⟩ := w
    refine ⟨z, rfl, fun Dl hD => ⟨fun i H' => H' = upd H1 Dl (.lst ((z.cps.toList.take i).map f)), rfl, fun i c H' hi p => ?_, fun H' p => ?_⟩⟩
    · refine g_name ⟨hw _, wt_yes ?_⟩
      rw [if_pos rfl]
      refine he c (List.mem_of_getElem? hi) H' _ (by rw [p]; exact ex_new hD) ⟨(z.cps.toList.take i).map f, by rw [p]; exact upd_same, ?_, ?_⟩
      · rw [List.length_map, List.length_take]
        exact Nat.lt_of_le_of_lt (Nat.min_le_right _ _) (by rw [Array.length_toList]; exact hz)
      · refine ⟨_, ?_, Ex.rf⟩
        show upd H' Dl (.lst ((z.cps.toList.take i).map f ++ [f c])) = upd H1 Dl (.lst ((z.cps.toList.take (i + 1)).map f))
        rw [p, upd_upd, take_map_some hi]
    · have p' : H' = upd H1 Dl (.lst ((z.cps.toList.take z.cps.toList.length).map f)) := p
      rw [List.take_length] at p'
      rw [p']
      exact k Dl hD)
/-- [e for i in range(n)], e a value of i alone -/
theorem w_lcR_map {j : Nat} {vs : List Nat} {tn : TA} {n : Int} (f : Nat → V) (hw : ∀ x, wipe ((wipe σ vs).set j (some x)) vs = wipe σ vs)
    (h : WA tn σ H fun ws H1 => ws = [.int n] ∧ -(2 ^ 62) ≤ n ∧ n < 16777216 ∧ (∀ i : Nat, i < n.toNat → ∀ (H' : Hp) (K' : KV), Ex H1 H' → K' (f i) H' → W te ((wipe σ vs).set j (some (.int (i : Int)))) H' K') ∧
      ∀ p, H1 p = none → K (.ref p) (upd H1 p (.lst ((List.range n.toNat).map f)))) : W (tLc (iRng1 tn) (gName j) tYes te vs) σ H K :=
  w_lcR1 (fun H1 e Q q => h H1 e Q fun ws H2 H3 w e2 => q ws H2 H3 (by
    obtain ⟨rfl, b1, b2, he, k⟩ := w
    refine ⟨n, rfl, b1, by omega, fun Dl hD => ⟨fun i H' => H' = upd H2 Dl (.lst ((List.range i).map f)), rfl, fun i H' hi p => ?_, fun H' p => ?_⟩⟩
    · refine g_name ⟨hw _, wt_yes ?_⟩
      rw [if_pos rfl]
      refine he i hi H' _ (by rw [p]; exact ex_new hD) ⟨(List.range i).map f, by rw [p]; exact upd_same, ?_, ?_⟩
      · rw [List.length_map, List.length_range, sizeLine_eq]
        omega
      · refine ⟨_, ?_, Ex.rf⟩
        show upd H' Dl (.lst ((List.range i).map f ++ [f i])) = upd H2 Dl (.lst ((List.range (i + 1)).map f))
        rw [p, upd_upd, List.range_succ, List.map_append]
        rfl
    · have p' : H' = upd H2 Dl (.lst ((List.range n.toNat).map f)) := p
      rw [p']
      exact k Dl hD) e2)
/-- for over a text -/
theorem s_forS {tl : TE} (h : W tl σ H fun v H1 => ∃ (z : Str) (Pv : Nat → Sg → Hp → Prop), v = .str z ∧ Pv 0 σ H1 ∧
      (∀ i c σ' H', z.cps.toList[i]? = some c → Pv i σ' H' → WG g (.str ⟨#[c]⟩) σ' H' fun σ2 H2 => S t { D with nx := Up (Pv (i + 1)), ct := Up (Pv (i + 1)), bk := D.nx } σ2 H2) ∧ (∀ σ' H', Pv z.cps.toList.length σ' H' → D.nx σ' H')) : S (tFor (iStr tl) g t) D σ H := fun H1 e D1 l =>
  h H1 e _ fun v H2 H3 h2 e2 => by
    obtain ⟨z, Pv, rfl, p0, ps, pd⟩ := h2
    refine ⟨z, rfl, fun i m σ' H' => m = z.cps.size - i ∧ i ≤ z.cps.size ∧ Up (Pv i) σ' H', ⟨_, rfl, Nat.zero_le _, _, p0, e2⟩, fun i m σ' H' hw => ?_⟩
    obtain ⟨hm, hi, H0, p, e0⟩ := hw
    by_cases hlt : i < z.cps.size
    · refine Or.inr ⟨hlt, Up (Pv (i + 1)), fun σ2 H4 n => ⟨z.cps.size - (i + 1), by omega, rfl, hlt, n⟩, fun x H4 hy => ?_⟩
      obtain ⟨rfl, c, hc, rfl⟩ := hy
      exact ps i c σ' H0 (by rw [Array.getElem?_toList]; exact hc) p H4 e0 _ fun σ2 H5 H6 z e5 => z H6 e5 _ (le_loop l _)
    · have hz : i = z.cps.toList.length := by rw [Array.length_toList]; omega
      refine Or.inl ⟨by show z.cps.size ≤ i; omega, l.nx _ _ _ (pd σ' H0 (hz ▸ p)) e0⟩
end
end Mb

namespace Mb
open PySem PyProof.Rows L2
open Evl (Ex)
/-! ### data -/
theorem dpInts {K : PySem.W.Frag} {H : Hp} : ∀ xs : List Int, DpAll K H (xs.map V.int) (xs.map PyData.int)
  | [] => .nil
  | x :: r => .cons (.int x) (dpInts r)
theorem dpStrs {K : PySem.W.Frag} {H : Hp} : ∀ xs : List Str, DpAll K H (xs.map V.str) (xs.map PyData.str)
  | [] => .nil
  | x :: r => .cons (.str x) (dpStrs r)
theorem lay_ints : ∀ xs : List Int, PyData.canLayAll0 (xs.map PyData.int) = true
  | [] => rfl
  | x :: r => by
    rw [List.map_cons, PyData.canLayAll0, lay_ints r]
    rfl
theorem depth_ints : ∀ xs : List Int, PyData.depthAll (xs.map PyData.int) = 0
  | [] => rfl
  | x :: r => by
    rw [List.map_cons, PyData.depthAll, depth_ints r]
    rfl
theorem depth_strs : ∀ xs : List Str, PyData.depthAll (xs.map PyData.str) = 0
  | [] => rfl
  | x :: r => by
    rw [List.map_cons, PyData.depthAll, depth_strs r]
    rfl
theorem shaped_ints (xs : List Int) : SeqAt.shaped (.list (xs.map PyData.int)) = true := by
  unfold SeqAt.shaped
  rw [PyData.canLay0, lay_ints, PyData.depth, depth_ints]
  rfl
theorem eqv_nil (xs : List Int) : PyData.eqv (.list (xs.map PyData.int)) (.list []) = xs.isEmpty := by
  cases xs <;> rfl
theorem eqvAll_ints : ∀ xs ys : List Int, PyData.eqvAll (xs.map PyData.int) (ys.map PyData.int) = decide (xs = ys)
  | [], [] => rfl
  | [], y :: r => rfl
  | x :: r, [] => rfl
  | x :: r, y :: s => by
    rw [List.map_cons, List.map_cons, PyData.eqvAll, eqvAll_ints r s]
    show (x == y && decide (r = s)) = decide (x :: r = y :: s)
    by_cases h : x = y
    · rw [h, beq_self_eq_true, Bool.true_and]
      by_cases h2 : r = s
      · rw [h2, decide_eq_true rfl, decide_eq_true rfl]
      · rw [decide_eq_false h2, decide_eq_false (fun z => h2 (List.cons.inj z).2)]
    · rw [beq_false_of_ne h, Bool.false_and, decide_eq_false (fun z => h (List.cons.inj z).1)]
theorem eqv_ints (xs ys : List Int) : PyData.eqv (.list (xs.map PyData.int)) (.list (ys.map PyData.int)) = decide (xs = ys) := eqvAll_ints xs ys
theorem sshow_strs : ∀ xs : List Str, PyData.showableAll (xs.map PyData.str) = true
  | [] => rfl
  | x :: r => by
    rw [List.map_cons, PyData.showableAll, sshow_strs r]
    rfl
theorem hasD_strs : ∀ xs : List Str, PyData.hasDictAll (xs.map PyData.str) = false
  | [] => rfl
  | x :: r => by
    rw [List.map_cons, PyData.hasDictAll, hasD_strs r]
    rfl
theorem shownAll_map : ∀ xs : List PyData, PyData.shownAll xs = xs.map PyData.shown
  | [] => rfl
  | x :: r => by rw [List.map_cons, PyData.shownAll, shownAll_map r]
theorem textFrom_le (B : Nat) : ∀ (ts : List Str) (k : Nat) (acc : Str), (∀ t ∈ ts, t.length ≤ B) → (textFrom k acc ts).length ≤ acc.length + ts.length * (B + 2)
  | [], k, acc, _ => by show acc.length ≤ _; omega
  | t :: r, k, acc, h => by
    have ih := textFrom_le B r (k + 1) (acc ++ (if k > 0 then ", " else "" : String) ++ t) (fun t ht => h t (List.mem_cons_of_mem _ ht))
    have h1 := h t List.mem_cons_self
    have h2 : (Str.ofString (if k > 0 then ", " else "" : String)).length ≤ 2 := by
      by_cases hk : k > 0
      · rw [if_pos hk]; decide
      · rw [if_neg hk]; decide
    rw [Str.length_append, Str.length_append] at ih
    show (textFrom (k + 1) (acc ++ (if k > 0 then ", " else "" : String) ++ t) r).length ≤ _
    rw [List.length_cons, Nat.add_mul]
    omega
theorem listText_le {B : Nat} {ts : List Str} (h : ∀ t ∈ ts, t.length ≤ B) : (listText ts).length ≤ ts.length * (B + 2) + 2 := by
  have h1 := textFrom_le B ts 0 "[" h
  unfold listText
  rw [Str.length_append]
  have e1 : (Str.ofString "[").length = 1 := by decide
  have e2 : (Str.ofString "]").length = 1 := by decide
  omega
theorem piled_le {B : Nat} : ∀ {ts : List Str}, (∀ t ∈ ts, t.length ≤ B) → piled ts ≤ ts.length * (B + 2)
  | [], _ => by simp [piled]
  | t :: r, h => by
    have ih := piled_le (ts := r) (fun t ht => h t (List.mem_cons_of_mem _ ht))
    have h1 := h t List.mem_cons_self
    rw [List.length_cons, Nat.add_mul]
    rw [piled_cons]
    omega
theorem tupleText_le {B : Nat} {ts : List Str} (hn : ts ≠ []) (h : ∀ t ∈ ts, t.length ≤ B) : (tupleText ts).length ≤ ts.length * (B + 2) + 3 := by
  have h1 := join_length_add ts hn
  have h2 := piled_le h
  unfold tupleText
  rw [Str.length_append, Str.length_append]
  have e1 : (Str.ofString "(").length = 1 := by decide
  have e2 : (Str.ofString (if ts.length == 1 then ",)" else ")" : String)).length ≤ 2 := by
    by_cases hk : (ts.length == 1) = true
    · rw [if_pos hk]; decide
    · rw [if_neg hk]; decide
  omega
end Mb

namespace Mb
open PySem PyProof.Rows L2
open Evl (Ex)
section
variable {Kf : PySem.W.Frag} {K : KV} {σ : Sg} {H H' : Hp} {te : TE}
/-- [e for x in t], e a value of x alone, the list found by t -/
theorem w_lcL_mapE {j : Nat} {vs : List Nat} {tl : TE} (f : V → V) (hw : ∀ x, wipe ((wipe σ vs).set j (some x)) vs = wipe σ vs)
    (h : W tl σ H fun v H1 => ∃ (a : Addr) (xs : List V), v = .ref a ∧ SqL Kf H1 a xs ∧ xs.length < sizeLine ∧ (∀ x ∈ xs, ∀ (H' : Hp) (K' : KV), Ex H1 H' → K' (f x) H' → W te ((wipe σ vs).set j (some x)) H' K') ∧
      ∀ p, H1 p = none → K (.ref p) (upd H1 p (.lst (xs.map f)))) : W (tLc (iList Kf tl) (gName j) tYes te vs) σ H K :=
  w_lcL (h.mono fun v H1 z => by
    obtain ⟨a, xs, rfl, hs, hz, he, k⟩ := z
    refine ⟨a, xs, rfl, hs, fun Dl hD => ⟨fun i H' => H' = upd H1 Dl (.lst ((xs.take i).map f)), rfl, fun i H' _ p => ?_, fun i x H' hi p => ?_, fun H' p => ?_⟩⟩
    · rw [p]
      exact sl_new hD hs
    · have hx : x ∈ xs := List.mem_of_getElem? hi
      refine g_name ⟨hw x, wt_yes ?_⟩
      rw [if_pos rfl]
      refine he x hx H' _ (by rw [p]; exact ex_new hD) ⟨(xs.take i).map f, by rw [p]; exact upd_same, ?_, ?_⟩
      · rw [List.length_map, List.length_take]
        exact Nat.lt_of_le_of_lt (Nat.min_le_right _ _) hz
      · refine ⟨_, ?_, Ex.rf⟩
        show upd H' Dl (.lst ((xs.take i).map f ++ [f x])) = upd H1 Dl (.lst ((xs.take (i + 1)).map f))
        rw [p, upd_upd, take_map_some hi]
    · have p' : H' = upd H1 Dl (.lst ((xs.take xs.length).map f)) := p
      rw [List.take_length] at p'
      rw [p']
      exact k Dl hD)
end
end Mb

namespace L2
open PySem PySem.Spec PyProof.Rows
/-! ### set(xs) of a list of ints -/
/-- a set, just born -/
abbrev bornSet (w : World) : Obj :=
  { cls := .type "set", dict := none,
    data := .set #[] 0 (.fresh 0 0 (!w.params.followText "set-order")) }
section
variable {P : Program} {w : World} {A : Around} {E : Value → Shared → Prop} {s : Shared}
theorem call_set_lstI {l : Addr} {its : Array Value} {ns : List Int} {Q : Value → Shared → Prop}
    (hh : A.handled = none) (hL : s.heap.IsList l its) (hI : IntsAre its.toList ns) (few : ns.length + 1 < scanBound)
    (q : ∀ (g : Heap) (tk c : Nat), SetR w g s.heap.objs.size (fun j => decide (j ∈ ns)) c → c ≤ ns.length →
      (∀ b o, s.heap.get? b = some o → g.get? b = some o) → Q (.ref s.heap.objs.size) { s with heap := g, toks := tk }) :
    wpAny (model P w) A (call (.type "set") [.ref l]) Q E s := by
  have size : its.size = ns.length := by
    have := IntsAre.length hI
    rwa [Array.length_toList] at this
  obtain ⟨c0, tl, mro⟩ := F.called_set.mro
  have made0 := F.called_set.made
  have sub0 := F.called_set.sub
  have isnt := F.called_set.notType
  have can := F.called_set.canCreate
  have tc := F.typeCall_set_1 (.ref l)
  refine wpAny_call (codeAny_of_tree (show wpAny _ _ (callAny (.type "set") _) _ _ _ from wpAny_pure ⟨Code.quiet_builtin _ (by decide +kernel), codeAny_builtin F.entry_type_call ?_⟩))
  rw [Around.under_plain (weight_type_call_type "set" [.ref l] []) rfl]
  repeat any_goals first | wp_step | assumption
  -- the new set
  let sN : Shared := { s with heap := s.heap.push (bornSet w) }
  refine codeAny_mono (code_set_led1 (.ref l) (E := E) (Q₁ := fun x s₁ => x = .ref s.heap.objs.size ∧ s₁ = sN) ⟨rfl, rfl⟩) (fun r s₁ z => ?_)
  rcases r with e | fl
  · exact z
  cases fl
  case ret x =>
    obtain ⟨rfl, rfl⟩ := z
    have atS : sN.heap.get? s.heap.objs.size = some (bornSet w) := Heap.get?_push_size _ rfl
    have tyS : sN.TypeIs (.ref s.heap.objs.size) "set" := ⟨_, atS, rfl⟩
    have look := F.called_set.init.lookup
    have bind := F.called_set.init.bind (.ref s.heap.objs.size)
    repeat any_goals first | wp_step | assumption
    let Good : Value → Shared → Prop := fun x s₂ => x = .none ∧ ∃ (g : Heap) (tk c : Nat), s₂ = { s with heap := g, toks := tk } ∧
      SetR w g s.heap.objs.size (fun j => decide (j ∈ ns)) c ∧ c ≤ ns.length ∧ ∀ b o, s.heap.get? b = some o → g.get? b = some o
    refine codeAny_mono (codeAny_call_builtin (R := wants Good E) F.called_set.init.plain F.entry_set_init (check_set_init_1 tyS ?_)) (fun r₂ s₂ z₂ => ?_)
    · obtain ⟨⟨ocls, odict, odata, oslots⟩, hol, hc, n0, hd⟩ := hL
      dsimp only at hc hd
      subst hc hd
      have below : l < s.heap.objs.size := Heap.lt_size hol
      have lstN : sN.heap.IsList l its := ⟨_, Heap.get?_push_of_some _ hol, rfl, n0, rfl⟩
      have holN : sN.heap.get? l = some { cls := .type "list", dict := odict, data := .seq its n0, slots := oslots } := Heap.get?_push_of_some _ hol
      have sub1 := F.sub_list_set
      have sub2 := F.sub_list_frozenset
      have nodict : (Value.type "list" == Value.type "dict") = false := by decide
      have sizeN : sN.heap.objs.size = s.heap.objs.size + 1 := Heap.size_push ..
      unfold Builtin.«set.__init__» noKeywords Builtin.Frozenset.updateFrom
      generalize hpi : pyIter = pit
      wp_walk
      subst hpi
      let I : Addr := sN.heap.objs.size
      refine wpAny_pyIter_list lstN (wpAny_bind (wpAny_runValue ?_))
      have calm : A.in1.in1.in1.handled = none := by simp [hh]
      have nl : l ≠ I := by
        show l ≠ sN.heap.objs.size
        rw [sizeN]
        exact Nat.ne_of_lt (Nat.lt_succ_of_lt below)
      have nS : s.heap.objs.size ∉ [I, l] := by
        show s.heap.objs.size ∉ [sN.heap.objs.size, l]
        simp only [List.mem_cons, List.not_mem_nil, or_false, not_or]
        rw [sizeN]
        exact ⟨Nat.ne_of_lt (Nat.lt_succ_self _), Nat.ne_of_gt below⟩
      have vals : ∀ (i : Nat) (v : Value), its[i]? = some v → ∃ k t, ns[i]? = some k ∧ v = .int k t := by
        intro i v hv
        have hlt : i < ns.length := by
          rw [← size]
          exact (Array.getElem?_eq_some_iff.mp hv).1
        obtain ⟨t, e⟩ := PyProof.Rows.IntsAre.int_at hI i v (by rw [Array.getElem?_toList]; exact hv)
        refine ⟨ns[i], t, List.getElem?_eq_getElem hlt, ?_⟩
        rw [e, List.getD_eq_getElem?_getD, List.getElem?_eq_getElem hlt]
        rfl
      refine set_update_ints ((Walks.list calm I l nl its).toS) s.heap.objs.size nS ns size few vals (its.size - 0) 0 _ (Nat.sub_zero _ ▸ rfl) (Nat.zero_le _) ⟨⟨_, Heap.get?_push_size _ rfl, rfl, rfl⟩, lstN.push _⟩ ⟨0, Nat.le_refl 0, setR_new_at (Heap.get?_push_of_some _ atS)⟩ ?_
      intro s3 c3 mv le3 R3
      obtain ⟨g3, gens3, dr3, tk3, os3⟩ := s3
      have e1 : gens3 = s.gens := mv.gens
      have e2 : dr3 = s.drawn := mv.drawn
      have e3 : os3 = s.os := mv.os
      subst e1 e2 e3
      refine wpAny_pure (wpAny_pure ⟨rfl, g3, tk3, c3, rfl, R3, size ▸ le3, fun b o e => ?_⟩)
      have b0 : b < s.heap.objs.size := Heap.lt_size e
      refine mv.heap b o ?_ (Heap.get?_push_of_some _ (Heap.get?_push_of_some _ e))
      show b ∉ [s.heap.objs.size, sN.heap.objs.size]
      simp only [List.mem_cons, List.not_mem_nil, or_false, not_or]
      rw [sizeN]
      exact ⟨Nat.ne_of_lt b0, Nat.ne_of_lt (Nat.lt_succ_of_lt b0)⟩
    · rcases r₂ with e | fl₂
      · exact z₂
      cases fl₂
      case ret x =>
        obtain ⟨rfl, g, tk, c, rfl, g1, g2, g3⟩ := z₂
        repeat any_goals first | wp_step | assumption
        exact q _ _ _ g1 g2 g3
      all_goals exact z₂.elim
  all_goals exact z.elim
/-- sorted(S), a set of ints, any number of them -/
theorem sorted_setI {a : Addr} {S : Int → Bool} {n : Nat} {Q : Value → Shared → Prop} (R : SetR w s.heap a S n) (hh : A.handled = none)
    (q : ∀ (s' : Shared) (p : Addr) (out : Array Value) (c : Nat) (ns : List Int), (∀ b o, s.heap.get? b = some o → s'.heap.get? b = some o) →
      s'.gens = s.gens → s'.os = s.os → s.heap.objs.size ≤ p → s'.heap.get? p = some (seqObj "list" out c) → IntsAre out.toList ns →
      ns.Pairwise (· < ·) → (∀ k, k ∈ ns ↔ S k = true) → ns.length = n → Q (.ref p) s') : wpAny (model P w) A (call (.builtin "sorted") [.ref a]) Q E s := by
  obtain ⟨o, es, ep, t, ho, exact_, hd, good, nodup, mem, small, fits, num, rises, led⟩ := R
  refine Calls.call_function_entry kind_sorted plain_sorted entry_sorted (args_sorted1 _) ?_
  unfold Builtin.«sorted»
  refine wpAny_bind (m := checkCount "sorted" 1 1 _) (wpAny_pure (wpAny_bind (collect_set (A := A.in1) hh ⟨o, ho, exact_.1, hd⟩ fits small rises led fun s1 vs keep1 le1 gens1 os1 perm => ?_)))
  have count : vs.length = n := by
    rw [perm.length_eq, List.length_map, Array.length_toList]
    exact num
  have areI : IntsAre vs (vs.map Builtin.Re.reRawOf) := by
    refine ints_of vs fun v hv => ?_
    obtain ⟨e, he, rfl⟩ := List.mem_map.mp (perm.mem_iff.mp hv)
    obtain ⟨k, tk, h1, _⟩ := good e he
    exact ⟨k, tk, h1⟩
  have keys : (vs.map Builtin.Re.reRawOf).Perm (es.toList.map keyOf) := by
    have := perm.map Builtin.Re.reRawOf
    rwa [List.map_map] at this
  have bound : vs.length ≤ sizeLine := by
    rw [count, ← num]
    exact fits_of_scanBound small
  refine wpAny_bind (wpAny_newList ?_ bound)
  have atL : (s1.heap.push (seqObj "list" vs.toArray 0)).get? s1.heap.objs.size = some (seqObj "list" vs.toArray 0) := Heap.get?_push_size _ rfl
  refine wpAny_bind (wpAny_holding (wpAny_call_entry slot_list_sort ⟨_, atL, rfl⟩ entry_list_sort (SrtO.list_sort_ord SrtO.swo_int atL bound (fun two => SrtO.ints_sortable areI two) fun out srt stb => ⟨_, rfl, ?_⟩) (args_list_sort _)))
  obtain ⟨k1, k2, k3⟩ := SrtO.ints_out areI srt stb
  obtain ⟨c, hc⟩ := sortedHeap_at (vs := vs) (out := out.toArray) atL
  have all := k2.trans keys
  refine wpAny_pure ⟨_, rfl, q _ s1.heap.objs.size out.toArray c _ (fun b u e => ?_) gens1 os1 le1 hc (by simpa using k1) (lt_of_le_nodup _ k3 (all.nodup_iff.mpr nodup)) (fun k => by rw [all.mem_iff, ← mem k]) ?_⟩
  · have here := keep1 b u e
    have lt0 := Heap.lt_size here
    exact (sortedHeap_old (Nat.ne_of_lt lt0) (by rw [size_push']; exact Nat.lt_succ_of_lt lt0)).trans (Heap.get?_push_of_some _ here)
  · rw [k2.length_eq, List.length_map, count]
end
section
variable {X : Cx}
/-- set(xs), a list of ints -/
def rSetOfL (K : PySem.W.Frag) (w : World) : List V → Hp → VK → Prop := fun vs H Q => ∃ (l : Addr) (ns : List Int), vs = [.ref l] ∧ SqL K H l (ns.map V.int) ∧ ns.length ≤ 4000 ∧
  ∀ (a : Addr) (n : Nat), H a = none → Q (.ref a) (upd H a (SetO w a (fun j => decide (j ∈ ns)) n))
theorem cr_setLI (hc : X.calm = true) : CallR X (.type "set") (rSetOfL X.K X.w) := by
  intro pins s σ H vs us Q I r h
  obtain ⟨l, ns, rfl, hs, few, q⟩ := h
  rw [Vals.ref1 r]
  obtain ⟨its, rv, hl, _⟩ := I.list hs
  refine call_set_lstI (I.ok.hd hc) hl.isList (by simpa using rv.ints) (by unfold scanBound; omega) fun g tk c R _ keep => ?_
  exact ⟨.ref _, upd H s.heap.objs.size (SetO X.w s.heap.objs.size _ c), I.laid (t' := tk) keep (Nat.le_refl _) (setO_new R), rfl, q _ c (I.hok.fresh (Nat.le_refl _))⟩
/-- sorted(S) of a set of ints -/
def rSortSI (w : World) : List V → Hp → VK → Prop := fun vs H Q => ∃ (a : Addr) (S : Int → Bool) (n : Nat), vs = [.ref a] ∧ H a = some (SetO w a S n) ∧
  ∀ (ns : List Int) (p : Addr), ns.Pairwise (· < ·) → (∀ k : Int, k ∈ ns ↔ S k = true) → H p = none → Q (.ref p) (upd H p (.lst (ns.map V.int)))
theorem cr_sortSI (hc : X.calm = true) : CallR X (.builtin "sorted") (rSortSI X.w) := by
  intro pins s σ H vs us Q I r h
  obtain ⟨a, S, n, rfl, ha, q⟩ := h
  rw [Vals.ref1 r]
  have R := setO_get I ha
  have few : n ≤ sizeLine := by
    obtain ⟨_, _, _, _, _, _, _, _, _, _, small, _, num, _⟩ := id R
    rw [← num]
    exact fits_of_scanBound small
  refine sorted_setI R (I.ok.hd hc) fun s' p out c ns keep gens os new at_p are asc mem num => ?_
  have free : H p = none := I.hok.fresh new
  have J : Inv X pins σ (upd H p (.lst (ns.map V.int))) s' :=
    I.call' (ch := []) os (Un.laid keep new free) (I.hok.laid keep new ⟨by rw [List.length_map, num]; exact few, out.toList, c, vals_of_ints are, at_p⟩) (gens ▸ I.bare) (fun _ z => nomatch z)
  exact ⟨.ref p, _, J, rfl, q ns p asc mem free⟩
end
end L2
namespace Mb
open PySem PyProof.Rows L2
open Evl (Ex)
section
variable {Kf : PySem.W.Frag} {w : World} {K : KV} {H : Hp}
theorem c_setL {l : Addr} {ns : List Int} (h : SqL Kf H l (ns.map V.int)) (few : ns.length ≤ 4000) (k : ∀ a n, H a = none → K (.ref a) (upd H a (SetO w a (fun j => decide (j ∈ ns)) n))) : WC (rSetOfL Kf w) [.ref l] H K := fun H1 e Q q =>
  ⟨l, ns, rfl, Evl.ex_l e h, few, fun a n ha => q _ _ _ (k a n (ex_free e ha)) (ex_upd e)⟩
theorem c_sortSet {a : Addr} {S : Int → Bool} {n : Nat} (h : H a = some (SetO w a S n)) (k : ∀ (ns : List Int) p, ns.Pairwise (· < ·) → (∀ k : Int, k ∈ ns ↔ S k = true) → H p = none → K (.ref p) (upd H p (.lst (ns.map V.int)))) : WC (rSortSI w) [.ref a] H K := fun H1 e Q q =>
  ⟨a, S, n, rfl, e _ _ h, fun ns p h1 h2 hp => q _ _ _ (k ns p h1 h2 (ex_free e hp)) (ex_upd e)⟩
end
end Mb

namespace Mb
open PySem PySem.Spec PyProof.Rows L2
open Evl (Ex)
/-! ### a fresh thing, locked for good -/
def tFrz (t : TE) : TE := fun σ H Q => t σ H fun x H1 => ∃ (d : Addr) (u : HO), x = .ref d ∧ H1 d = some u ∧ Mut (some u) ∧ ∀ od, Q x (upd H1 d (.frz od u))
section
variable {X : Cx} {e o : Expr} {t to : TE} {f : Str} {pos : Pos}
theorem pe_frz (h : PE X e t) : PE X e (tFrz t) := by
  refine ⟨fun pins s σ H Q I hw => thn (h.run pins s σ H _ I hw) fun v s1 ⟨x, H1, I1, r, d, u, hx, hd, mu, q⟩ => ?_⟩
  obtain ⟨od, I2⟩ := I1.lock hd mu
  exact ⟨x, _, I2, r, q od⟩
/-- o.f as a target -/
def gFld (K : PySem.W.Frag) (to : TE) (f : Str) : TG := fun v σ H Q => to σ H fun x H1 => ∃ (a C dx : Addr) (fs : List (Str × V)), x = .ref a ∧ H1 a = some (.ins C dx fs) ∧ Cls K C ∧ NoAttr K C f ∧ fs.length < 1000 ∧ Q σ (upd H1 a (.ins C dx (putF f v fs)))
theorem pg_fld (ho : PE X o to) : PG X (.Attribute o f pos) (gFld X.K to f) := by
  refine ⟨fun pins s σ H v u Q I r h => ?_⟩
  rw [assign_Attribute]
  refine wpAny_bind (wpAny_holding (thn (ho.run pins s σ H _ I h) fun ov s1 ⟨x, H1, I1, r1, a, C, dx, fs, hx, ha, cl, na, lt, q⟩ => ?_))
  subst hx
  obtain rfl : ov = Value.ref a := r1
  refine wpAny_bind (wpAny_standAt (wpAny_bind (wpAny_holding (setattr_ok I1 ha cl na lt r fun s2 I2 => ?_))))
  exact wpAny_release ⟨σ, _, I2, q⟩
theorem pe_fldK {K : PySem.W.Frag} (hK : X.K = K) (he : PE X o to) (hb : attributeBase o f X.env (eval o X.env) = eval o X.env) : PE X (.Attribute o f pos) (tFld K to f) := by
  subst hK
  exact pe_fld he hb
theorem pe_bmK {K : PySem.W.Frag} {T : String} {name : Str} {id : String} {r : V → List V → Hp → VK → Prop} {tA : TA} {es : List Expr} {apos cpos : Pos} (hK : X.K = K) (pa : PlainAttrs T) (slot : Slot T name id) (hty : typeOf (.builtin id) = pure (.type "method_descriptor")) (hm : MtR X id r) (ho : PE X o to) (ha : PA X (e :: es) tA)
    (hbase : attributeBase o name X.env (eval o X.env) = eval o X.env := by rfl)
    (hfew : ((backTo cpos (starEach (e :: es) X.env)).all (fun x => !x.1) && (backToKw cpos (keywordEach [] X.env)).all (fun x => x.1.isSome) && decide ((e :: es).length + ([] : List Keyword).length + (if ([] : List Keyword).isEmpty then 0 else 1) < 30)) = true := by rfl)
    (hline : (apos.endLine == cpos.line) = true := by rfl) (hs : starEach (e :: es) X.env = (false, eval e X.env) :: starEach es X.env := by rfl) (hplain : (backTo cpos (starEach es X.env)).any (·.1) = false := by rfl) :
    PE X (.Call (.Attribute o name apos) (e :: es) [] cpos) (tBM K T r to tA) := by
  subst hK
  exact pe_bm pa slot hty hm ho ha hbase hfew hline hs hplain
/-- a method that stands in its class -/
structure CalM (P : Program) (w : World) (K : PySem.W.Frag) (mg : Str → Option Value) (base : Heap) (CX : CXT) (k : Nat) (C : Addr) (m : Str) (ps : List Str) (sp : Sp) : Prop where
  ex : ∃ (f : Addr) (fd : FuncData), FnOk P w K mg base CX k f fd ps sp ∧ Meth K C m f ∧ Binds K fd ps []
/-- a class and its __init__ -/
structure Mak (P : Program) (w : World) (K : PySem.W.Frag) (mg : Str → Option Value) (base : Heap) (CX : CXT) (k : Nat) (x : Str) (C : Addr) (ps : List Str) (sp : Sp) : Prop where
  ex : ∃ (f : Addr) (fd : FuncData), FnOk P w K mg base CX k f fd ps sp ∧ Mk K C f ∧ mg x = some (.ref C) ∧ Binds K fd ps []
/-- a def whose last parameters have defaults -/
structure CalD (P : Program) (w : World) (K : PySem.W.Frag) (mg : Str → Option Value) (base : Heap) (CX : CXT) (k : Nat) (x : Str) (ps : List Str) (dvs : List V) (sp : Sp) : Prop where
  ex : ∃ (f : Addr) (fd : FuncData) (ds : List Value), FnOk P w K mg base CX k f fd ps sp ∧ mg x = some (.ref f) ∧ PySem.W.keepIn K (.ref f) = true ∧ Binds K fd ps ds ∧ Vals dvs ds
end
section
variable {X : Cx} {CX : CXT} {k j : Nat} {x m : Str} {C : Addr} {ps : List Str} {sp : Sp} {E : XK} {p pos apos : Pos} {o e : Expr} {es : List Expr} {t : TA} {ta : TE} {dvs : List V}
theorem pe_calM {pl : Sem Bool} (he : PE X o ta) (cl : Cls X.K C) (c : CalM X.prog X.w X.K X.mg X.base CX k C m ps sp) (hr : Room k X.A) (hx : Passes CX X E) (ha : PA X (e :: es) t)
    (hst : starEach (e :: es) X.env = (false, eval e X.env) :: starEach es X.env := by rfl) (hpl : (backTo pos (starEach es X.env)).any (·.1) = false := by rfl)
    (ht : eval (.Call (.Attribute o m apos) (e :: es) [] pos) X.env = (do
      let ov ← eval o X.env
      standAt apos.atName
      let (f, first) ← holding [ov] (getMethod ov m pl)
      callWith pos f first (backTo pos (starEach (e :: es) X.env)) (backToKw pos (keywordEach [] X.env))) := by rfl) :
    PE X (.Call (.Attribute o m apos) (e :: es) [] pos) (tMeth C m sp [] E ta t) := by
  obtain ⟨f, fd, F, hm, hb⟩ := c.ex
  exact pe_meth he cl hm F hr hb .nil hx ha hst hpl ht
theorem pe_calM0 {pl : Sem Bool} (he : PE X o ta) (cl : Cls X.K C) (c : CalM X.prog X.w X.K X.mg X.base CX k C m ps sp) (hr : Room k X.A) (hx : Passes CX X E)
    (ht : eval (.Call (.Attribute o m apos) [] [] pos) X.env = (do
      let ov ← eval o X.env
      standAt apos.atName
      let (f, first) ← holding [ov] (getMethod ov m pl)
      callWith pos f first (backTo pos (starEach [] X.env)) (backToKw pos (keywordEach [] X.env))) := by rfl) :
    PE X (.Call (.Attribute o m apos) [] [] pos) (tMeth C m sp [] E ta tNil) := by
  obtain ⟨f, fd, F, hm, hb⟩ := c.ex
  exact pe_meth0 he cl hm F hr hb .nil hx ht
theorem pe_mak (c : Mak X.prog X.w X.K X.mg X.base CX k x C ps sp) (hr : Room (k + 1) X.A) (hg : Gl X x) (hx : Passes CX X E) (ha : PA X (e :: es) t)
    (hdb : (x == ("__debug__" : Str)) = false := by decide) (he : starEach (e :: es) X.env = (false, eval e X.env) :: starEach es X.env := by rfl) (hpl : (backTo pos (starEach es X.env)).any (·.1) = false := by rfl) :
    PE X (.Call (.Name x p) (e :: es) [] pos) (tMake C sp [] E t) := by
  obtain ⟨f, fd, F, M, hm, hb⟩ := c.ex
  exact pe_make M F hr hg hm hb .nil hx ha hdb he hpl
theorem pe_calD (c : CalD X.prog X.w X.K X.mg X.base CX k x ps dvs sp) (hr : Room k X.A) (hg : Gl X x) (hx : Passes CX X E)
    (ha : PA X (e :: es) t) (hdb : (x == ("__debug__" : Str)) = false := by decide) (he : starEach (e :: es) X.env = (false, eval e X.env) :: starEach es X.env := by rfl) (hpl : (backTo pos (starEach es X.env)).any (·.1) = false := by rfl) :
    PE X (.Call (.Name x p) (e :: es) [] pos) (tCall sp dvs E t) := by
  obtain ⟨f, fd, ds, F, hm, hk, hb, hv⟩ := c.ex
  exact pe_call F hr hg hm hk hb hv hx ha hdb he hpl
end
section
variable {Kf : PySem.W.Frag} {K : KV} {σ : Sg} {H H' : Hp} {D : KE} {t : TS} {g : TG} {ta te tv : TE} {f m : Str}
theorem w_frz (h : W te σ H fun x H1 => ∃ (d : Addr) (u : HO), x = .ref d ∧ H1 d = some u ∧ Mut (some u) ∧ ∀ od, K x (upd H1 d (.frz od u))) : W (tFrz te) σ H K := fun H1 e Q q =>
  h H1 e _ fun x H2 H3 z e3 => by
    obtain ⟨d, u, rfl, hd, mu, k⟩ := z
    exact ⟨d, u, rfl, e3 _ _ hd, mu, fun od => q _ _ _ (k od) (ex_upd e3)⟩
theorem w_fld (h : W ta σ H fun x H1 => ∃ (a C dx : Addr) (fs : List (Str × V)) (v : V), x = .ref a ∧ H1 a = some (.ins C dx fs) ∧ Cls Kf C ∧ NoAttr Kf C f ∧ fs.lookup f = some v ∧ K v H1) : W (tFld Kf ta f) σ H K := fun H1 e Q q =>
  h H1 e _ fun x H2 H3 z e3 => by
    obtain ⟨a, C, dx, fs, v, rfl, h1, h2, h3, h4, k⟩ := z
    exact ⟨a, C, dx, fs, v, rfl, e3 _ _ h1, h2, h3, h4, q _ _ _ k e3⟩
theorem s_fld (h : W tv σ H fun y H1 => W ta σ H1 fun x H2 => ∃ (a C dx : Addr) (fs : List (Str × V)), x = .ref a ∧ H2 a = some (.ins C dx fs) ∧ Cls Kf C ∧ NoAttr Kf C f ∧ fs.length < 1000 ∧ D.nx σ (upd H2 a (.ins C dx (putF f y fs)))) : S (sFld Kf ta tv f) D σ H := fun H1 e D1 l =>
  h H1 e _ fun y H2 H3 z e3 => z H3 e3 _ fun x H4 H5 z2 e5 => by
    obtain ⟨a, C, dx, fs, rfl, h1, h2, h3, h4, k⟩ := z2
    exact ⟨a, C, dx, fs, rfl, e5 _ _ h1, h2, h3, h4, l.nx _ _ _ k (ex_upd e5)⟩
theorem g_fld {v : V} {Kg : KS} (h : W ta σ H fun x H1 => ∃ (a C dx : Addr) (fs : List (Str × V)), x = .ref a ∧ H1 a = some (.ins C dx fs) ∧ Cls Kf C ∧ NoAttr Kf C f ∧ fs.length < 1000 ∧ Kg σ (upd H1 a (.ins C dx (putF f v fs)))) : WG (gFld Kf ta f) v σ H Kg := fun H1 e Q q =>
  h H1 e _ fun x H2 H3 z e3 => by
    obtain ⟨a, C, dx, fs, rfl, h1, h2, h3, h4, k⟩ := z
    exact ⟨a, C, dx, fs, rfl, e3 _ _ h1, h2, h3, h4, q _ _ _ k (ex_upd e3)⟩
theorem w_meth {α : Type} {pre : α → List V → Hp → Prop} {post : α → Hp → V → Hp → Prop} {C : Addr} {E : XK} {tA : TA} (h : W ta σ H fun x H1 => ∃ (a dx : Addr) (fs : List (Str × V)), x = .ref a ∧ H1 a = some (.ins C dx fs) ∧ fs.lookup m = none ∧
      WA tA σ H1 fun vs H2 => ∃ b, pre b (x :: vs) H2 ∧ ∀ v H3, post b H2 v H3 → K v H3) : W (tMeth C m (Pr pre post) [] E ta tA) σ H K := fun H1 e Q q =>
  h H1 e _ fun x H2 H3 z e3 => by
    obtain ⟨a, dx, fs, rfl, h1, h2, h3⟩ := z
    refine ⟨a, dx, fs, rfl, e3 _ _ h1, h2, h3 H3 e3 _ fun vs H4 H5 z2 e5 => ?_⟩
    obtain ⟨b, p, k⟩ := z2
    exact ⟨b, H4, e5, by rw [List.append_nil]; exact p, fun v H6 H7 z e7 => q v H6 H7 (k v H6 z) e7⟩
theorem w_make {α : Type} {pre : α → List V → Hp → Prop} {post : α → Hp → V → Hp → Prop} {C : Addr} {E : XK} {tA : TA} (h : WA tA σ H fun vs H1 => ∀ x dx, H1 x = none → H1 dx = none → dx ≠ x →
      ∃ b, pre b (.ref x :: vs) (upd (upd H1 dx (.own x)) x (.ins C dx [])) ∧ ∀ v H3, post b (upd (upd H1 dx (.own x)) x (.ins C dx [])) v H3 → v = .non ∧ K (.ref x) H3) : W (tMake C (Pr pre post) [] E tA) σ H K := fun H1 e Q q =>
  h H1 e _ fun vs H2 H3 z e3 => fun x dx hx hdx hne => by
    obtain ⟨b, p, k⟩ := z x dx (ex_free e3 hx) (ex_free e3 hdx) hne
    refine ⟨b, _, ex_upd (ex_upd e3), by rw [List.append_nil]; exact p, fun v H4 H5 z e5 => ?_⟩
    obtain ⟨k1, k2⟩ := k v H4 z
    exact ⟨k1, q _ _ _ k2 e5⟩
theorem w_dget2 {tx ty : TE} (h : W ta σ H fun x H1 => ∃ (a : Addr) (kvs : List (Key × V)), x = .ref a ∧ H1 a = some (.dK kvs) ∧ W ty σ H1 fun y H2 => W tx σ H2 fun z H3 => ∃ k, y = kV k ∧ H3 a = some (.dK kvs) ∧ K ((valV kvs k).getD z) H3) : W (tDGet2 ta ty tx) σ H K := fun H1 e Q q =>
  h H1 e _ fun x H2 H3 z e3 => by
    obtain ⟨a, kvs, rfl, hd, h2⟩ := z
    refine ⟨a, rfl, Or.inl ⟨kvs, Or.inl (e3 _ _ hd)⟩, h2 H3 e3 _ fun y H4 H5 h4 e5 => h4 H5 e5 _ fun u H6 H7 h6 e7 => ?_⟩
    obtain ⟨k, rfl, hd2, k2⟩ := h6
    exact ⟨_, DGet.k (e7 _ _ hd2), q _ _ _ k2 e7⟩
/-- for k, v in d.items(), d locked -/
theorem s_forItems {td : TE} (h : W td σ H fun x H1 => ∃ (d : Addr) (o : Obj) (kvs : List (Key × V)) (Pv : Nat → Sg → Hp → Prop), x = .ref d ∧ H1 d = some (.frz o (.dK kvs)) ∧ Pv 0 σ H1 ∧ (∀ i σ' H', i ≤ kvs.length → Pv i σ' H' → H' d = some (.frz o (.dK kvs))) ∧
      (∀ i k v T σ' H', kvs[i]? = some (k, v) → Pv i σ' H' → H' T = none → WG g (.ref T) σ' (upd H' T (.tup [kV k, v])) fun σ2 H2 => S t { D with nx := Up (Pv (i + 1)), ct := Up (Pv (i + 1)), bk := D.nx } σ2 H2) ∧ (∀ σ' H', Pv kvs.length σ' H' → D.nx σ' H')) :
    S (tFor (iItems td) g t) D σ H := fun H1 e D1 l =>
  h H1 e _ fun x H2 H3 h2 e2 => by
    obtain ⟨d, o, kvs, Pv, rfl, hd, p0, pl, ps, pd⟩ := h2
    refine ⟨d, o, kvs, rfl, e2 _ _ hd, for_it (walk_items (kvs := kvs)) (fun i => Up (Pv i)) ⟨H2, p0, e2⟩ (fun i σ' H' hi q => ?_) (fun i x σ' H' H'' hi q y => ?_) (fun σ' H' q => ?_)⟩
    · obtain ⟨H0, p, e0⟩ := q
      exact e0 _ _ (pl i σ' H0 hi p)
    · obtain ⟨H0, p, e0⟩ := q
      obtain ⟨T, k, v, rfl, hT, rfl, h1, h2⟩ := y
      obtain ⟨kv, hkv⟩ : ∃ kv, kvs[i]? = some kv := ⟨kvs[i], List.getElem?_eq_getElem hi⟩
      obtain ⟨kk, vv⟩ := kv
      simp only [hkv, Option.map_some, Option.some.injEq] at h1 h2
      subst h1 h2
      exact ps i kk vv T σ' H0 hkv p (ex_free e0 hT) _ (ex_upd e0) _ fun σ2 H4 H5 z e5 => z H5 e5 _ (le_loop l _)
    · obtain ⟨H0, p, e0⟩ := q
      exact l.nx _ _ _ (pd σ' H0 p) e0
/-- for i, x in enumerate(xs) -/
theorem s_forEnum {tA : TA} (h : WA tA σ H fun vs H1 => ∃ (a : Addr) (xs : List V) (Pv : Nat → Sg → Hp → Prop), vs = [.ref a] ∧ SqL Kf H1 a xs ∧ Pv 0 σ H1 ∧ (∀ i σ' H', i ≤ xs.length → Pv i σ' H' → SqL Kf H' a xs) ∧
      (∀ i x T σ' H', xs[i]? = some x → Pv i σ' H' → H' T = none → WG g (.ref T) σ' (upd H' T (.tup [.int (i : Nat), x])) fun σ2 H2 => S t { D with nx := Up (Pv (i + 1)), ct := Up (Pv (i + 1)), bk := D.nx } σ2 H2) ∧ (∀ σ' H', Pv xs.length σ' H' → D.nx σ' H')) :
    S (tFor (iEnum Kf tA) g t) D σ H := fun H1 e D1 l =>
  h H1 e _ fun vs H2 H3 h2 e2 => by
    obtain ⟨a, xs, Pv, rfl, hs, p0, pl, ps, pd⟩ := h2
    refine ⟨a, xs, rfl, Evl.ex_l e2 hs, for_it (walk_enum (xs := xs)) (fun i => Up (Pv i)) ⟨H2, p0, e2⟩ (fun i σ' H' hi q => ?_) (fun i x σ' H' H'' hi q y => ?_) (fun σ' H' q => ?_)⟩
    · obtain ⟨H0, p, e0⟩ := q
      exact Evl.ex_l e0 (pl i σ' H0 hi p)
    · obtain ⟨H0, p, e0⟩ := q
      obtain ⟨T, k, v, rfl, hT, rfl, h1, h2⟩ := y
      obtain rfl := Option.some.inj h1
      exact ps i v T σ' H0 h2 p (ex_free e0 hT) _ (ex_upd e0) _ fun σ2 H4 H5 z e5 => z H5 e5 _ (le_loop l _)
    · obtain ⟨H0, p, e0⟩ := q
      exact l.nx _ _ _ (pd σ' H0 p) e0
/-! ### operators on numbers of any size -/
theorem r_shrN {i : Int} {k : Nat} (h : K (.int (i / 2 ^ k)) H) : WR (fun x y H Q => ∃ (i : Int) (k : Nat), x = .int i ∧ y = .int (k : Int) ∧ Q (.int (i / 2 ^ k)) H) (.int i) (.int (k : Int)) H K := fun H1 e Q q => ⟨i, k, rfl, rfl, q _ _ _ h e⟩
theorem r_andM {i : Int} {k : Nat} (h : K (.int (i % 2 ^ k)) H) : WR (fun x y H Q => ∃ (i : Int) (k : Nat), x = .int i ∧ y = .int (2 ^ k - 1) ∧ Q (.int (i % 2 ^ k)) H) (.int i) (.int (2 ^ k - 1)) H K := fun H1 e Q q => ⟨i, k, rfl, rfl, q _ _ _ h e⟩
theorem r_rep {l : Addr} {k : Int} {xs : List V} (h : H l = some (.lst xs)) (h1 : -(2 ^ 63) ≤ k) (h2 : k < 2 ^ 63) (h3 : xs.length * k.toNat ≤ sizeLine) (q : ∀ p, H p = none → K (.ref p) (upd H p (.lst (List.replicate k.toNat xs).flatten))) : WR rRep (.ref l) (.int k) H K := fun H1 e Q qq =>
  ⟨l, k, xs, rfl, rfl, e _ _ h, h1, h2, h3, fun p hp => qq _ _ _ (q p (ex_free e hp)) (ex_upd e)⟩
theorem m_cntI {p : Addr} {ns : List Int} {k : Int} (h : SqL Kf H p (ns.map V.int)) (q : K (.int (ns.count k : Nat)) H) : WM (rCntI Kf) (.ref p) [.int k] H K := fun H1 e Q qq => ⟨p, ns, k, rfl, rfl, Evl.ex_l e h, qq _ _ _ q e⟩
end
end Mb

namespace Mb
open PySem PySem.Spec PyProof.Rows L2
open Evl (Ex)
/-- as KwB, where the text's own things stand (a tuple of defaults is read) -/
def KwBI (K : PySem.W.Frag) (fd : FuncData) (ps ks : List Str) (n : Nat) (gV : List V → List V → List V) : Prop :=
  ∃ g : List Value → List Value → List Value, (∀ (s : Shared) (us ws : List Value), K.In s.heap → us.length = n → ws.length = ks.length → BindsTo s fd ⟨us, ks.zip ws⟩ (ps.zip (g us ws))) ∧
    (∀ (us ws : List Value) (vs zs : List V), us.length = n → ws.length = ks.length → Vals vs us → Vals zs ws → Vals (gV vs zs) (g us ws))
structure CalWI (P : Program) (w : World) (K : PySem.W.Frag) (mg : Str → Option Value) (base : Heap) (CX : CXT) (k : Nat) (x : Str) (ks : List Str) (n : Nat) (gV : List V → List V → List V) (sp : Sp) : Prop where
  ex : ∃ (f : Addr) (fd : FuncData) (ps : List Str), FnG P w K mg base CX k f fd ps sp ∧ mg x = some (.ref f) ∧ PySem.W.keepIn K (.ref f) = true ∧ KwBI K fd ps ks n gV
section
variable {X : Cx} {CX : CXT} {k : Nat} {x : Str} {ks : List Str} {sp : Sp} {E : XK} {p pos : Pos} {tk : TA} {gV : List V → List V → List V}
theorem pe_calWI0 {kws : List Keyword} (c : CalWI X.prog X.w X.K X.mg X.base CX k x ks 0 gV sp) (hG : X.A.guards = some []) (hr : Room k X.A) (hg : Gl X x) (hx : Passes CX X E) (hkw : PK X kws tk)
    (hall : (backToKw pos (keywordEach kws X.env)).all (·.1.isSome) = true := by rfl) (hks : (backToKw pos (keywordEach kws X.env)).filterMap (·.1) = ks := by rfl)
    (hdb : (x == ("__debug__" : Str)) = false := by decide)
    (hpl : ((backTo pos (starEach [] X.env)).any (·.1) || (backToKw pos (keywordEach kws X.env)).any (·.1.isNone)) = false := by rfl) :
    PE X (.Call (.Name x p) [] kws pos) (tCallW sp gV E 0 ks.length tNil tk) := by
  obtain ⟨f, fd, ps, F, hm, hk, g, b1, b2⟩ := c.ex
  refine ⟨fun pins s σ H Q I h => ?_⟩
  refine wpAny_Call_Name_kw (ld_glob I hg hm ?_ hdb)
  refine PySem.W.callWith_KW0 (h₀ := X.base) I.ok.mod.kin hk hall (thn (hkw.run pos pins s σ H _ I h) fun ws s2 z2 => ?_) hpl
  obtain ⟨zs, H2, I2, rz, l1, l2, q2⟩ := z2
  refine ⟨I2.kIn, ?_⟩
  rw [hks]
  have lw : ws.length = ks.length := rz.length.symm.trans l2
  refine wpAny_call (codeAny_mono (F.runG X.A X.stack s2 H2 ⟨[], ks.zip ws⟩ (g [] ws) (gV [] zs) Q E hG hr I2.env0 (b1 s2 [] ws I2.kIn rfl lw) (b2 [] ws [] zs rfl lw .nil rz) q2) ?_)
  intro res s' hq
  cases res with
  | error e => exact hx pins σ H2 s2 e s' I2 hq
  | ok fl =>
    cases fl with
    | ret u => exact I2.after hq
    | next => exact hq.elim
    | brk => exact hq.elim
    | cont => exact hq.elim
end
section
variable {P : Program} {w : World} {K : PySem.W.Frag} {mg : Str → Option Value} {base : Heap}
/-- okP for a def with defaults -/
theorem okPD {x qual : Str} {st : Stmt} {f : Addr} {fd : FuncData} {N ps : List Str} {dvs : List V} {k : Nat} {α : Type} {pre : α → List V → Hp → Prop} {post : α → Hp → V → Hp → Prop} (F : FunD K x qual (defArgs st) (defBody st) (defScope st) dvs [] f fd) (Sc : FnScope N ps (defScope st))
    (len : ∀ a vs H, pre a vs H → vs.length = ps.length)
    (hbody : ∀ (cdv : Value) (A : Around) (outer : List Env) (s : Shared) (H : Hp) (E : XK) (a : α) (vs : List V) (H0 : Hp), Room k (A.deeper (envOfC qual (defScope st) s.heap.objs.size f cdv)) → pre a vs H0 →
      ∃ t, PSs (cxOf CX0 P w K mg base N qual (defScope st) f cdv A outer s H E).nox (defBody st) t ∧ S t ⟨fun _ H1 => UpH (post a H0 .non) H1, fun v H1 => UpH (post a H0 v) H1, fun _ _ => False, fun _ _ => False⟩ (start N vs) H0) :
    FnOk P w K mg base CX0 (k + 1) f fd ps (Pr pre post) := by
  refine F.ok Sc (fun vs H Q E h => ?_) (fun cdv A outer s H vs Q E hr h => ?_)
  · obtain ⟨a, H0, e, p, q⟩ := h
    exact len a vs H0 p
  · obtain ⟨a, H0, e, p, q⟩ := h
    obtain ⟨t, ht, hs⟩ := hbody cdv A outer s H E a vs H0 hr p
    refine ⟨t, ht.nox, hs H e _ ⟨fun σ H2 H3 z e3 => ?_, fun v H2 H3 z e3 => ?_, fun _ _ _ z _ => z, fun _ _ _ z _ => z⟩⟩
    · obtain ⟨H4, z, e4⟩ := z
      exact q _ _ _ z (e4.trans e3)
    · obtain ⟨H4, z, e4⟩ := z
      exact q _ _ _ z (e4.trans e3)
end
end Mb

namespace L2
open PySem PySem.Spec PyProof.Rows
section
variable {X : Cx}
theorem ints_keyed {its : List Value} {ns : List Int} (len : its.length = ns.length) (each : ∀ (j : Nat) (z : Value), its[j]? = some z → ∃ n, ns[j]? = some n ∧ keyIs (Sum.inl n) z = true) : IntsAre its ns :=
  ints_each len fun j z hz => by
    obtain ⟨n, hn, hk⟩ := each j z hz
    rcases keyIs_shape hk with ⟨i, tk, e1, e2⟩ | ⟨_, _, e1, _⟩
    · injection e1 with e1
      subst e1
      exact ⟨n, tk, hn, e2⟩
    · cases e1
/-- sorted(d), the keys whole numbers, any number of them -/
def rSortDA : List V → Hp → VK → Prop := fun ws H Q => ∃ (d : Addr) (L : List (Key × V)) (ns : List Int), ws = [.ref d] ∧ Rd H d (.dK L) ∧ L.map Prod.fst = ns.map Sum.inl ∧
  ∀ (ms : List Int) (p : Addr), ms.Perm ns → ms.Pairwise (· ≤ ·) → H p = none → Q (.ref p) (upd H p (.lst (ms.map V.int)))
theorem cr_sortDA (calm : X.calm = true) : CallR X (.builtin "sorted") rSortDA := by
  intro pins st σ H ws us Q I rel h
  obtain ⟨d, L, ns, rfl, hd, keys, q⟩ := h
  rw [Vals.ref1 rel]
  obtain ⟨size, low, ents, pr, dict⟩ := dk_rd I.hok hd
  obtain ⟨ep, raw⟩ := dict.dictAt
  have keys2 : ents.map Prod.fst = ns.map Sum.inl := pr.keys.symm.trans keys
  have lenE : ents.length = ns.length := by simpa using congrArg List.length keys2
  have fits : ents.length ≤ sizeLine := by
    rw [← pr.length]
    exact size
  refine Calls.call_function_entry kind_sorted plain_sorted entry_sorted (args_sorted1 _) ?_
  unfold Builtin.«sorted»
  refine wpAny_bind (m := checkCount "sorted" 1 1 _) (wpAny_pure (wpAny_bind (PySem.W.kdu_collect (A := X.A.in1) (PySem.W.kdl_dict (knd := mixKind X.prog X.w) (kvs := ents) (ep := ep) low) (I.ok.hd calm) raw fits fun g tk got keep all => ?_)))
  have lenG : got.toList.length = ns.length := by
    rw [Array.length_toList, all.1, lenE]
  have areI : IntsAre got.toList ns := ints_keyed lenG fun j z hz => by
    rw [Array.getElem?_toList] at hz
    obtain ⟨k, x, h1, h2⟩ := all.2 j z hz
    have h3 : (ns.map Sum.inl : List Key)[j]? = some k := by
      rw [← keys2, List.getElem?_map, h1]
      rfl
    rw [List.getElem?_map] at h3
    obtain ⟨n, hn, rfl⟩ := Option.map_eq_some_iff.mp h3
    exact ⟨n, hn, h2⟩
  have bound : got.toList.length ≤ sizeLine := by
    rw [lenG, ← lenE]
    exact fits
  refine wpAny_bind (wpAny_newList ?_ bound)
  have atL : (g.push (seqObj "list" got.toList.toArray 0)).get? g.objs.size = some (seqObj "list" got.toList.toArray 0) := Heap.get?_push_size _ rfl
  refine wpAny_bind (wpAny_holding (wpAny_call_entry (s := { st with heap := g.push (seqObj "list" got.toList.toArray 0), toks := tk }) slot_list_sort ⟨_, atL, rfl⟩ entry_list_sort (SrtO.list_sort_ord (s := { st with heap := g.push (seqObj "list" got.toList.toArray 0), toks := tk }) SrtO.swo_int atL bound (fun two => SrtO.ints_sortable areI two) fun out srt stb => ⟨_, rfl, ?_⟩) (args_list_sort _)))
  obtain ⟨k1, k2, k3⟩ := SrtO.ints_out areI srt stb
  obtain ⟨c, hc⟩ := sortedHeap_at (vs := got.toList) (out := out.toArray) atL
  have J : Inv X pins σ H { st with heap := g, toks := tk } := I.kept keep
  have free : H g.objs.size = none := J.hok.fresh (Nat.le_refl _)
  refine wpAny_pure ⟨_, rfl, .ref g.objs.size, _, J.laid (o := .lst ((out.map SrtO.iv).map V.int)) (t' := tk) (fun b u e => ?_) (Nat.le_refl _) ⟨?_, out, c, vals_of_ints k1, hc⟩, rfl, q _ _ k2 k3 free⟩
  · have lt0 := Heap.lt_size e
    exact (sortedHeap_old (Nat.ne_of_lt lt0) (by rw [size_push']; exact Nat.lt_succ_of_lt lt0)).trans (Heap.get?_push_of_some _ e)
  · rw [List.length_map, k2.length_eq, ← lenG]
    exact bound
end
end L2
namespace Mb
open PySem PySem.Spec PyProof.Rows L2
open Evl (Ex)
/-- d[y], d.get(y, z) where d may be locked -/
def tDGetF (td ty : TE) : TE := tDGet td ty
def tDGet2F (td ty tx : TE) : TE := tDGet2 td ty tx
section
variable {Kf : PySem.W.Frag} {K : KV} {σ : Sg} {H H' : Hp} {D : KE} {t : TS} {g : TG} {ta tb te tx : TE} {tt : TT}
theorem w_dgetF (h : W ta σ H fun x H1 => W tb σ H1 fun y H2 => ∃ (a : Addr) (kvs : List (Key × V)) (k : Key) (v : V), x = .ref a ∧ y = kV k ∧ Rd H2 a (.dK kvs) ∧ valV kvs k = some v ∧ K v H2) : W (tDGetF ta tb) σ H K := fun H1 e Q q =>
  h H1 e _ fun x H2 H3 h2 e2 => h2 H3 e2 _ fun y H4 H5 h4 e4 => by
    obtain ⟨a, kvs, k, v, rfl, rfl, hd, hv, z⟩ := h4
    exact ⟨a, v, rfl, Or.inl ⟨kvs, k, hd.imp (e4 _ _) (fun ⟨o, h⟩ => ⟨o, e4 _ _ h⟩), rfl, hv.symm⟩, q _ _ _ z e4⟩
theorem w_dget2F (h : W ta σ H fun x H1 => ∃ (a : Addr) (kvs : List (Key × V)), x = .ref a ∧ Rd H1 a (.dK kvs) ∧ W tb σ H1 fun y H2 => W tx σ H2 fun z H3 => ∃ k, y = kV k ∧ Rd H3 a (.dK kvs) ∧ K ((valV kvs k).getD z) H3) : W (tDGet2F ta tb tx) σ H K := fun H1 e Q q =>
  h H1 e _ fun x H2 H3 z e3 => by
    obtain ⟨a, kvs, rfl, hd, h2⟩ := z
    refine ⟨a, rfl, Or.inl ⟨kvs, hd.imp (e3 _ _) (fun ⟨o, h⟩ => ⟨o, e3 _ _ h⟩)⟩, h2 H3 e3 _ fun y H4 H5 h4 e5 => h4 H5 e5 _ fun u H6 H7 h6 e7 => ?_⟩
    obtain ⟨k, rfl, hd2, k2⟩ := h6
    exact ⟨_, Or.inl ⟨kvs, k, hd2.imp (e7 _ _) (fun ⟨o, h⟩ => ⟨o, e7 _ _ h⟩), rfl, rfl⟩, q _ _ _ k2 e7⟩
/-- for k in d, d locked -/
theorem s_forKeys {td : TE} (h : W td σ H fun x H1 => ∃ (d : Addr) (o : Obj) (kvs : List (Key × V)) (Pv : Nat → Sg → Hp → Prop), x = .ref d ∧ H1 d = some (.frz o (.dK kvs)) ∧ Pv 0 σ H1 ∧ (∀ i σ' H', i ≤ kvs.length → Pv i σ' H' → H' d = some (.frz o (.dK kvs))) ∧
      (∀ i kv σ' H', kvs[i]? = some kv → Pv i σ' H' → WG g (kV kv.1) σ' H' fun σ2 H2 => S t { D with nx := Up (Pv (i + 1)), ct := Up (Pv (i + 1)), bk := D.nx } σ2 H2) ∧ (∀ σ' H', Pv kvs.length σ' H' → D.nx σ' H')) :
    S (tFor (iKeys td) g t) D σ H := fun H1 e D1 l =>
  h H1 e _ fun x H2 H3 h2 e2 => by
    obtain ⟨d, o, kvs, Pv, rfl, hd, p0, pl, ps, pd⟩ := h2
    refine ⟨d, o, rfl, Or.inl ⟨kvs, e2 _ _ hd, for_it (walk_keys (kvs := kvs)) (fun i => Up (Pv i)) ⟨H2, p0, e2⟩ (fun i σ' H' hi q => ?_) (fun i x σ' H' H'' hi q y => ?_) (fun σ' H' q => ?_)⟩⟩
    · obtain ⟨H0, p, e0⟩ := q
      exact e0 _ _ (pl i σ' H0 hi p)
    · obtain ⟨H0, p, e0⟩ := q
      obtain ⟨rfl, k, v, hkv, rfl⟩ := y
      exact ps i (k, v) σ' H0 hkv p _ e0 _ fun σ2 H4 H5 z e5 => z H5 e5 _ (le_loop l _)
    · obtain ⟨H0, p, e0⟩ := q
      exact l.nx _ _ _ (pd σ' H0 p) e0
/-- [e for k in d ..], d locked -/
theorem w_lcK {vs : List Nat} {td : TE} (h : W td σ H fun v H1 => ∃ (d : Addr) (o : Obj) (kvs : List (Key × V)), v = .ref d ∧ H1 d = some (.frz o (.dK kvs)) ∧ ∀ Dl, H1 Dl = none → ∃ Pv : Nat → Hp → Prop, Pv 0 (upd H1 Dl (.lst [])) ∧ (∀ i H', i ≤ kvs.length → Pv i H' → H' d = some (.frz o (.dK kvs))) ∧
      (∀ i kv H', kvs[i]? = some kv → Pv i H' → WG g (kV kv.1) (wipe σ vs) H' (Trn tt te vs σ Dl (UpH (Pv (i + 1))))) ∧ (∀ H', Pv kvs.length H' → K (.ref Dl) H')) : W (tLc (iKeys td) g tt te vs) σ H K := fun H1 e Q q =>
  h H1 e _ fun v H2 H3 h2 e2 => by
    obtain ⟨d, o, kvs, rfl, hs, h3⟩ := h2
    refine ⟨d, o, rfl, Or.inl ⟨kvs, e2 _ _ hs, fun Dl hD => ?_⟩⟩
    obtain ⟨Pv, p0, pl, ps, pd⟩ := h3 Dl (ex_free e2 hD)
    refine lc_it (walk_keys (kvs := kvs)) (fun i H' => ∃ H0, Pv i H0 ∧ Ex H0 H') ⟨_, p0, ex_upd e2⟩ (fun i H' hi z => ?_) (fun i x H' H'' hi z y => ?_) (fun H' z => ?_)
    · obtain ⟨H0, p, e0⟩ := z
      exact e0 _ _ (pl i H0 hi p)
    · obtain ⟨H0, p, e0⟩ := z
      obtain ⟨rfl, k, v, hkv, rfl⟩ := y
      exact ps i (k, v) H0 hkv p _ e0 _ fun σ2 H4 H5 z e5 => trn_up z e5 _ fun H6 H7 n e7 => n.ext e7
    · obtain ⟨H0, p, e0⟩ := z
      exact q _ _ _ (pd H0 p) e0
/-- [e for k in d], e a value of the entry alone -/
theorem w_lcK_map {j : Nat} {vs : List Nat} {td : TE} (f : Key × V → V) (hw : ∀ x, wipe ((wipe σ vs).set j (some x)) vs = wipe σ vs)
    (h : W td σ H fun v H1 => ∃ (d : Addr) (o : Obj) (kvs : List (Key × V)), v = .ref d ∧ H1 d = some (.frz o (.dK kvs)) ∧ kvs.length < sizeLine ∧ (∀ kv ∈ kvs, ∀ (H' : Hp) (K' : KV), Ex H1 H' → K' (f kv) H' → W te ((wipe σ vs).set j (some (kV kv.1))) H' K') ∧
      ∀ p, H1 p = none → K (.ref p) (upd H1 p (.lst (kvs.map f)))) : W (tLc (iKeys td) (gName j) tYes te vs) σ H K :=
  w_lcK (h.mono fun v H1 z => by
    obtain ⟨d, o, kvs, rfl, hs, hz, he, k⟩ := z
    refine ⟨d, o, kvs, rfl, hs, fun Dl hD => ⟨fun i H' => H' = upd H1 Dl (.lst ((kvs.take i).map f)), rfl, fun i H' _ p => ?_, fun i kv H' hi p => ?_, fun H' p => ?_⟩⟩
    · rw [p]
      exact up_new hD hs
    · have hx : kv ∈ kvs := List.mem_of_getElem? hi
      refine g_name ⟨hw _, wt_yes ?_⟩
      rw [if_pos rfl]
      refine he kv hx H' _ (by rw [p]; exact ex_new hD) ⟨(kvs.take i).map f, by rw [p]; exact upd_same, ?_, ?_⟩
      · rw [List.length_map, List.length_take]
        exact Nat.lt_of_le_of_lt (Nat.min_le_right _ _) hz
      · refine ⟨_, ?_, Ex.rf⟩
        show upd H' Dl (.lst ((kvs.take i).map f ++ [f kv])) = upd H1 Dl (.lst ((kvs.take (i + 1)).map f))
        rw [p, upd_upd, take_map_some hi]
    · have p' : H' = upd H1 Dl (.lst ((kvs.take kvs.length).map f)) := p
      rw [List.take_length] at p'
      rw [p']
      exact k Dl hD)
theorem c_sortDA {d : Addr} {L : List (Key × V)} {ns : List Int} (hd : Rd H d (.dK L)) (keys : L.map Prod.fst = ns.map Sum.inl) (k : ∀ (ms : List Int) p, ms.Perm ns → ms.Pairwise (· ≤ ·) → H p = none → K (.ref p) (upd H p (.lst (ms.map V.int)))) : WC rSortDA [.ref d] H K := fun H1 e Q q =>
  ⟨d, L, ns, rfl, hd.imp (e _ _) (fun ⟨o, h⟩ => ⟨o, e _ _ h⟩), keys, fun ms p h1 h2 hp => q _ _ _ (k ms p h1 h2 (ex_free e hp)) (ex_upd e)⟩
end
end Mb

namespace L2
open PySem PySem.Spec PyProof.Rows
section
variable {X : Cx}
/-- n whole numbers from i downwards -/
def dnI (i : Int) (n : Nat) : List Int := (List.range n).map fun (k : Nat) => i - (k : Int)
/-- list(range(i, j, -1)) -/
def tLstDn (ta : TA) : TE := fun σ H Q => ta σ H fun ws H1 => ∃ i j : Int, ws = [.int i, .int j, .int (-1)] ∧ -(2 ^ 62) ≤ i ∧ i < 2 ^ 62 ∧ -(2 ^ 62) ≤ j ∧ j < 2 ^ 62 ∧ (i - j).toNat ≤ 16777216 ∧
  ∀ q, H1 q = none → Q (.ref q) (upd H1 q (.lst ((dnI i (i - j).toNat).map V.int)))
theorem pe_lstDn {a b c : Expr} {ta : TA} {p p2 pos pos2 : Pos} (calm : X.calm = true) (hg : Gl X "list") (hm : X.mg "list" = none) (hg2 : Gl X "range") (hm2 : X.mg "range" = none) (ha : PA X [a, b, c] ta)
    (h1 : starEach [Expr.Call (.Name "range" p2) [a, b, c] [] pos2] X.env = (false, eval (.Call (.Name "range" p2) [a, b, c] [] pos2) X.env) :: starEach [] X.env := by rfl)
    (h2 : starEach [a, b, c] X.env = (false, eval a X.env) :: starEach [b, c] X.env := by rfl) (h3 : (backTo pos2 (starEach [b, c] X.env)).any (·.1) = false := by rfl) :
    PE X (.Call (.Name "list" p) [.Call (.Name "range" p2) [a, b, c] [] pos2] [] pos) (tLstDn ta) := by
  refine ⟨fun pins s σ H Q I h => ?_⟩
  refine Call_ (ld_blt I hg hm boot_list (callWith_type1 (args_cons ?_ h1) h1))
  refine Call_ (ld_blt I hg2 hm2 boot_range (callWith_type1 (thn (ha.run pos2 pins s σ H _ I h) fun us s1 ⟨ws, H1, I1, rel, q1⟩ => ?_) h2 h3))
  obtain ⟨i, j, rfl, i0, i1, j0, j1, few, q⟩ := q1
  cases rel with
  | cons ri rest =>
    cases rest with
    | cons rj rest =>
      cases rest with
      | cons rk rest =>
        cases rest
        obtain ⟨ti, rfl⟩ := ri
        obtain ⟨tj, rfl⟩ := rj
        obtain ⟨tk, rfl⟩ := rk
        obtain ⟨c0, c1, c2, c3⟩ := RgC.neg i0 i1 j0 j1
        refine call_range_3 c0 ?_ (.inl (PyProof.noPylong_small c1))
        refine args_nil ?_
        have fin : ∀ (s2 : Shared) (r : Addr) (t u v : Tok), IsRange s2.heap r i j (-1) t u v → Inv X pins σ H1 s2 → wpAny (model X.prog X.w) X.A (call (.type "list") [.ref r]) (EP X pins σ Q) X.xe s2 := fun s2 r t u v hr I2 => by
          refine call_list_range (n := (i - j).toNat) (I2.ok.hd calm) hr c2 c3 few fun g tk2 acc m keep at_g items => ?_
          refine ⟨.ref _, upd H1 _ (.lst ((dnI i (i - j).toNat).map V.int)), I2.laid keep (Nat.le_refl _) (show ObjOk X.prog X.w _ _ _ (.lst ((dnI i (i - j).toNat).map V.int)) from ⟨?_, acc.toList, m, ?_, ?_⟩), rfl, q _ (I2.hok.fresh (Nat.le_refl _))⟩
          · unfold dnI
            rw [List.length_map, List.length_map, List.length_range, sizeLine_eq]
            exact few
          · have len : acc.toList.length = (i - j).toNat := by rw [Array.length_toList]; exact items.1
            unfold dnI
            rw [List.map_map, ← len]
            refine vals_of_get acc.toList _ fun k u hk => ?_
            obtain ⟨t, rfl⟩ := items.2 k u (by rw [← hk, Array.getElem?_toList])
            exact ⟨t, by show Value.int _ _ = Value.int (i - (k : Int)) _; congr 1; omega⟩
          · rw [Array.toArray_toList]
            exact at_g
        exact fin _ _ _ _ _ (IsRange.new ..) (I1.kept fun b u e => Heap.get?_push_of_some _ e)
end
end L2
namespace Mb
open PySem PySem.Spec PyProof.Rows L2
open Evl (Ex)
section
variable {Kf : PySem.W.Frag} {K : KV} {σ : Sg} {H H' : Hp} {te : TE} {ta : TA}
theorem w_lstUp (h : W te σ H fun x H1 => ∃ n : Nat, x = .int (n : Int) ∧ n ≤ 16777216 ∧ ∀ q, H1 q = none → K (.ref q) (upd H1 q (.lst (((List.range n).map fun (i : Nat) => (i : Int)).map V.int)))) : W (tLstRg (tRg1 te)) σ H K := fun H1 e Q q =>
  h H1 e _ fun x H2 H3 z e3 => by
    obtain ⟨n, rfl, hn, k⟩ := z
    refine ⟨(n : Int), rfl, RgOk.of_le (Int.le_refl 0) (by omega) (by decide) (by omega), fun p hp => ?_⟩
    have e : rgV 0 (n : Int) = ((List.range n).map fun (i : Nat) => (i : Int)).map V.int := by
      unfold rgV
      rw [List.map_map, Int.sub_zero, Int.toNat_natCast]
      refine List.map_congr_left fun i _ => ?_
      rw [Int.zero_add]
      rfl
    rw [e]
    exact q _ _ _ (k p (ex_free e3 hp)) (ex_upd e3)
theorem w_lstDn (h : WA ta σ H fun ws H1 => ∃ i j : Int, ws = [.int i, .int j, .int (-1)] ∧ -1000 ≤ i ∧ i < 16777000 ∧ -1000 ≤ j ∧ j < 16777000 ∧ i - j ≤ 16777000 ∧
    ∀ q, H1 q = none → K (.ref q) (upd H1 q (.lst ((dnI i (i - j).toNat).map V.int)))) : W (tLstDn ta) σ H K := fun H1 e Q q =>
  h H1 e _ fun ws H2 H3 z e3 => by
    obtain ⟨i, j, rfl, i0, i1, j0, j1, few, k⟩ := z
    exact ⟨i, j, rfl, by omega, by omega, by omega, by omega, by omega, fun p hp => q _ _ _ (k p (ex_free e3 hp)) (ex_upd e3)⟩
theorem w_revL (h : W te σ H fun x H1 => ∃ a xs, x = .ref a ∧ SqL Kf H1 a xs ∧ ∀ p, H1 p = none → K (.ref p) (upd H1 p (.lst xs.reverse))) : W (tRevL Kf te) σ H K := fun H1 e Q q =>
  h H1 e _ fun x H2 H3 z e3 => by
    obtain ⟨a, xs, rfl, hs, k⟩ := z
    exact ⟨a, xs, rfl, Evl.ex_l e3 hs, fun p hp => q _ _ _ (k p (ex_free e3 hp)) (ex_upd e3)⟩
end
end Mb

namespace PySem
namespace ErrX
open PySem.W PySem.Calls PyProof.Rows PySem.HandSPX
/-! ### the text of the __init__ of an own error: super().__init__(J); self.value = value -/
def iA (p1 p2 : Pos) : Arguments := { posonlyargs := [], args := [{ arg := "self", annotation := none, pos := p1 }, { arg := "value", annotation := none, pos := p2 }], vararg := none, kwonlyargs := [], kw_defaults := [], kwarg := none, defaults := [] }
def iB (J : Expr) (p0 p1 p2 p3 p4 q1 q2 q3 q4 : Pos) : List Stmt :=
  [.Expr (.Call (.Attribute (.Call (.Name "super" p0) [] [] p1) "__init__" p2) [J] [] p3) p4, .Assign [.Attribute (.Name "self" q1) "value" q2] (.Name "value" q3) q4]
def iS : Scope := { kind := .function, names := [(PySem.Str.ofString "self", .local), (PySem.Str.ofString "value", .local), (PySem.Str.ofString "__class__", .free), (PySem.Str.ofString "super", .globalImplicit)], isGenerator := false, isCoroutine := false, more := [] }
/-- what the written part says of the class at C and of its __init__ at fI -/
structure ErrTxt (P : Program) (K : Frag) (mg : Str → Option Value) (x : Str) (C fI : Addr) (J : Expr) : Prop where
  js : ∀ env : Env, starEach [J] env = (false, eval J env) :: starEach [] env
  je : ∀ (env : Env) (p0 p1 p2 p3 : Pos), (p2.endLine == p3.line) = true → ∃ pl : Sem Bool, eval (.Call (.Attribute (.Call (.Name "super" p0) [] [] p1) "__init__" p2) [J] [] p3) env = (do
    let ov ← attributeBase (.Call (.Name "super" p0) [] [] p1) "__init__" env (eval (.Call (.Name "super" p0) [] [] p1) env)
    standAt p2.atName
    let (f, first) ← holding [ov] (getMethod ov "__init__" pl)
    callWith p3 f first (backTo p3 (starEach [J] env)) [])
  gC : mg x = some (.ref C)
  gS : mg "super" = none
  cls : ∃ nm q N bs bm sn sub ab col dd k0 k1 k2 k3 k5, K.lookup C = some (excClassObj nm q C N bs bm true sn sub ab col dd k0 k1 k2 k3 k5 "ValueError.__new__") ∧ refsVE bm = true
  sa : findIn K (.ref C) "__setattr__" = some (some (.builtin "object.__setattr__"))
  noV : findIn K (.ref C) "value" = some none
  iC : findIn K (.ref C) "__init__" = some (some (.ref fI))
  tC : typeIn K (.ref fI) = some (.type "function")
  kC : keepIn K (.ref C) = true
  veC : subIn K (.ref C) (.type "ValueError") = some true
  meC : mroIn K C (.ref C) = some true
  sup : ks_superIn K C C "__init__" = some (some (.builtin "ValueError.__init__"))
  nst : nsIn K cStatics "thirdparty.any" = some none
  top : (P.main.scope.names.lookup ("super" : Str)).isSome = false
  fn : ∃ (oc : Value) (od : Option Addr) (qual : Str) (doc pm : Value) (an : Option Addr) (cda cc : Addr) (ct : Value) (osl : Array (Option Value)) (p1 p2 a0 a1 a2 a3 a4 q1 q2 q3 q4 : Pos) (cl : Value) (cld : Option Addr) (csl : Array (Option Value)) (ccl : Value) (cdd : Option Addr) (vs : Array Value) (ccs : Array (Option Value)) (file : Str) (tf : Tok),
    K.lookup fI = some ⟨oc, od, .func (fnX "__init__" qual (iA p1 p2) (iB J a0 a1 a2 a3 a4 q1 q2 q3 q4) iS [("__class__", cc)] .none .none doc pm an (.ref cda) ct), osl⟩ ∧ codeIn K (.ref cda) qual = true ∧
      K.lookup cc = some ⟨cl, cld, .cell (some (.ref C)), csl⟩ ∧ K.lookup cda = some ⟨ccl, cdd, .fields vs, ccs⟩ ∧ vs[2]? = some (.str file tf) ∧ ((P.main.file : Str) == file) = true ∧ (a2.endLine == a3.line) = true
/-- J is some text, whatever the frame, the value read by its name -/
def JOk (P : Program) (w : World) (J : Expr) (v : Value) (h : Heap) : Prop := ∀ (A : Around) (E : Value → Shared → Prop) (env : Env) (s : Shared) (Q : Value → Shared → Prop), A.units + 8 < cLine → (∀ b o, h.get? b = some o → s.heap.get? b = some o) →
  (∀ (pos : Pos) (s' : Shared) (Q' : Value → Shared → Prop), s'.heap = s.heap → Q' v s' → wpAny (model P w) A (eval (.Name "value" pos) env) Q' E s') → (∀ (y : Str) (u tk : Tok), Q (.str y u) { s with toks := tk }) → wpAny (model P w) A (eval J env) Q E s
/-- what __init__ leaves of a fresh exception at e -/
structure InitEnd (h h' : Heap) (e C dx t1 : Addr) (v : Value) : Prop where
  keep : ∀ b o, b ≠ e → h.get? b = some o → h'.get? b = some o
  obj : h'.get? e = some { cls := .ref C, dict := some dx, data := .fields #[.ref t1, .none, .none, .none, .bool false, .none] }
  dbig : h.objs.size ≤ dx
  dne : dx ≠ e
  ns : h'.Ns1 dx (fun y => if y = "value" then some v else none)
section
variable {P : Program} {w : World} {A : Around} {E : Value → Shared → Prop} {R : Result → Shared → Prop} {s : Shared} {K : Frag} {mg mb : Str → Option Value} {x : Str} {C fI : Addr} {J : Expr}
theorem ldX {M : Model} {s : Shared} {name : Str} {scope : Scope} {L a : Addr} {cd : Value} {cl : List (Str × Addr)} {m : Str → Option Value} {x : Str} {pos : Pos} {v : Value} {Q : Value → Shared → Prop} {A : Around} {E : Value → Shared → Prop} (hn : s.heap.Ns L m) (hv : m x = some v) (h : Q v s)
    (hk : scope.kind = .function := by rfl) (hl : (envX name scope L a cd cl).kindOf x = some .local := by rfl) (hd : (x == ("__debug__" : Str)) = false := by decide) :
    wpAny M A (eval (.Name x pos) (envX name scope L a cd cl)) Q E s := wpAny_Name (wpAny_loadName_local hk hl hn hv h) hd
theorem err_init (T : ErrTxt P K mg x C fI J) {e t0 : Addr} {v : Value} {args : Args} (X : K.In s.heap) (hlim : s.heap.NoLimit) (hg : s.heap.Ns mainGlobals mg) (hb : s.heap.Ns builtinsNs mb) (hbv : mb "super" = some (.type "super")) (hx : s.heap.get? e = some (excO C t0)) (eK : K.lookup e = none) (hroom : A.depth < recursionLimit) (hu : A.units + 20 < cLine)
    (hJ : JOk P w J v s.heap) (ha : args = ⟨[.ref e, v], []⟩ ∨ args = ⟨[.ref e], [("value", v)]⟩)
    (hq : ∀ h' tk dx t1, InitEnd s.heap h' e C dx t1 v → R (.ok (.ret .none)) { s with heap := h', toks := tk }) :
    codeAny (model P w) A (.call (.ref fI) args) R s := by
  obtain ⟨oc, od, qual, doc, pm, an, cda, cc, ct, osl, p1, p2, a0, a1, a2, a3, a4, q1, q2, q3, q4, cl, cld, csl, ccl, cdd, vs, ccs, file, tf, hf, hcd, hcell, hcode, hvs, hfile, hline⟩ := T.fn
  obtain ⟨nm, q, N, bs, bm, sn, sub, ab, col, dd, k0, k1, k2, k3, k5, hC, hbm⟩ := T.cls
  have hcl : clsIn K C = some { name := nm, bases := bs, mro := .ref C :: bm, ns := N, qualname := q, hasDict := true, slotNames := sn, subclasses := sub, abstract := ab, collection := col, hasDel := false } := by unfold clsIn; rw [hC] <;> rfl
  have hsup := T.sup
  unfold ks_superIn at hsup
  rw [hcl] at hsup
  refine ks_codeAny_call_defAt (fd := fnX "__init__" qual (iA p1 p2) (iB J a0 a1 a2 a3 a4 q1 q2 q3 q4) iS [("__class__", cc)] .none .none doc pm an (.ref cda) ct) (body := iB J a0 a1 a2 a3 a4 q1 q2 q3 q4) (binds := [("self", .ref e), ("value", v)]) hroom (X _ _ hf) rfl hlim (codeRec_of X hcd) rfl ?_ (show ∀ x ∈ iS.names, x.2 ≠ .cell by decide) (locs rfl) (fun h₁ hn k => ?_) rfl rfl rfl
  · rcases ha with rfl | rfl
    · exact BindsTo.of_eq (by first | rfl | with_unfolding_all rfl)
    · exact BindsTo.of_eq (by first | rfl | with_unfolding_all rfl)
  obtain ⟨hp, g, d, t, os⟩ := s
  dsimp only at k hn hx hg hb X hJ hq
  have X₁ : K.In h₁ := X.keeps k
  have hx₁ := k _ _ hx
  have hC₁ := X₁ _ _ hC
  show _root_.PySem.wpAt (model P w) (A.deeper (ksEnv qual iS hp.objs.size fI (.ref cda) cc)) (.func (iB J a0 a1 a2 a3 a4 q1 q2 q3 q4) (ksEnv qual iS hp.objs.size fI (.ref cda) cc)) (execs (iB J a0 a1 a2 a3 a4 q1 q2 q3 q4) (ksEnv qual iS hp.objs.size fI (.ref cda) cc)) _ _ _
  refine ks_wpAt_execs_cons ?_
  refine ks_wpAt_Expr_any ?_ rfl rfl
  obtain ⟨pl, hje⟩ := T.je (ksEnv qual iS hp.objs.size fI (.ref cda) cc) a0 a1 a2 a3 hline
  refine ks_wpAt_MethodCall (pl := pl) ?_ hje
  refine ks_wpAt_super_base (env := ksEnv qual iS hp.objs.size fI (.ref cda) cc) rfl rfl (by decide) rfl (X₁ _ _ hf) rfl rfl rfl (X₁ _ _ hcode) rfl hvs hfile T.top ?_
  refine ks_loadName_global rfl rfl (loadGlobal_builtin (env := ksEnv qual iS hp.objs.size fI (.ref cda) cc) (hg.keeps k) T.gS (hb.keeps k) hbv ⟨rfl, ?_⟩)
  refine wpAny_loadName_free rfl rfl rfl ⟨_, X₁ _ _ hcell, rfl⟩ ?_
  refine wpAny_loadName_local rfl rfl hn (v := .ref e) (by first | rfl | with_unfolding_all rfl | kernel_rfl) ?_
  refine ks_wpAny_isType_cls hC₁ rfl ⟨rfl, ?_⟩
  refine ks_wpAny_call_super hC₁ rfl hx₁ rfl (fun c => nofun) (looks_mroIn X₁ T.meC) (fun h₂ hso kk₂ => ?_)
  have X₂ : K.In h₂ := X₁.keeps kk₂
  have hx₂ := kk₂ _ _ hx₁
  have hI₂ : InstAt h₂ e (excO C t0) C none := ⟨hx₂, rfl, rfl, trivial⟩
  have hIs : Looks (model P w) h₂ (isInstance (.ref e) (.type "ValueError")) true := hI₂.type.andThen (looks_subIn X₂ T.veC)
  refine kxs_getMethod kxs_ValueError hso (looks_opaque X₂ T.nst) (l₀ := .ref C :: bm) (fun A Q E s k q => wpAny_bind ((looks_clsIn X₂ hcl) A _ E s k (wpAny_pure q))) rfl X₂ hsup hIs (ks_ne X₂ hI₂ hcl) (by decide) ?_
  dsimp only
  rw [T.js]
  refine kxs_callWith (i := "ValueError.__init__") (x := e) rfl (evalArgs_plain (spliced_cons ?_))
  have k₃ : ∀ b o, hp.get? b = some o → (h₂.push (kxs_mw "ValueError.__init__" e)).get? b = some o := fun b o z => Heap.get?_push_of_some _ (kk₂ _ _ (k _ _ z))
  refine hJ _ _ _ _ _ ?_ k₃ (fun pos s' Q' hs z => ?_) (fun y u tk => ?_)
  · have e1 : (A.deeper (ksEnv qual iS hp.objs.size fI (.ref cda) cc)).units ≤ A.units + 5 := by
      first
        | exact Nat.le_refl _
        | (show A.units + _ ≤ _; omega)
        | simp [Around.deeper, Around.units]
    omega
  · refine ldX (m := fun x => ([("self", Value.ref e), ("value", v)] : List (Str × Value)).reverse.lookup x) ?_ (by first | rfl | with_unfolding_all rfl | kernel_rfl) z
    rw [hs]
    exact (hn.keeps kk₂).keeps fun b o z => Heap.get?_push_of_some _ z
  refine spliced_nil ?_
  refine ⟨Heap.get?_push_at rfl rfl, ?_⟩
  show wpAny (model P w) _ (call (.ref h₂.objs.size) [Value.str y u]) _ _ _
  refine wpAny_call (codeAny_of_tree ?_)
  show wpAny _ _ (callAny (.ref h₂.objs.size) ⟨[Value.str y u], []⟩) _ _ _
  simp only [callAny]
  refine wpAny_bind (wpAny_load (o := kxs_mw "ValueError.__init__" e) (Heap.get?_push_at rfl rfl) ?_)
  simp only [kxs_mw, show (Value.type "method-wrapper" == Value.type "method" || Value.type "method-wrapper" == Value.type "builtin_function_or_method" || Value.type "method-wrapper" == Value.type "method-wrapper") = true by decide, if_true]
  refine KFB.if_so (by decide) ?_
  have hx₃ : (h₂.push (kxs_mw "ValueError.__init__" e)).get? e = some (excObj C t0 none .none) := Heap.get?_push_of_some _ hx₂
  have hC₃ := Heap.get?_push_of_some (kxs_mw "ValueError.__init__" e) (kk₂ _ _ hC₁)
  refine wpAny_bind (check_bound_init F.excBase_ValueError.toExcCallFacts hC₃ hx₃ rfl ?_)
  refine wpAny_bind (wpAny_pure (wpAny_pure ?_))
  refine ⟨plainId_quiet F.excBase_ValueError.init.plain _, codeAny_builtin F.excBase_ValueError.initEntry ?_⟩
  refine exc_init_tree (cls := .ref C) (t0 := t0) (dv := none) (c2 := .none) (c3 := .none) (b4 := .bool false) hx₃ (by rw [sizeLine_eq]; exact (by decide : 1 ≤ 16777216)) fun h₄ k₄ hx₄ _ => ?_
  have k₅ : ∀ b o, b ≠ e → hp.get? b = some o → h₄.get? b = some o := fun b o hb z => k₄ b o hb (k₃ _ _ z)
  have X₄ : K.In h₄ := fun a o z => k₅ a o (fun q => by rw [q, eK] at z; cases z) (X _ _ z)
  have hn₄ : h₄.Ns hp.objs.size (fun x => ([("self", Value.ref e), ("value", v)] : List (Str × Value)).reverse.lookup x) := by
    have n1 := (hn.keeps kk₂).keeps (h' := h₂.push (kxs_mw "ValueError.__init__" e)) fun b o z => Heap.get?_push_of_some _ z
    exact Heap.Ns.at n1 fun o z => k₄ _ o (Nat.ne_of_gt (Heap.lt_size hx)) z
  refine wpAt_of_wpAny ?_
  refine wpAny_execs_cons (plainObj_wpAny_Assign_Attribute ?_ rfl)
  refine ldX (v := v) hn₄ (by first | rfl | with_unfolding_all rfl | kernel_rfl) (ldX (v := .ref e) hn₄ (by first | rfl | with_unfolding_all rfl | kernel_rfl) ?_)
  refine set_plain X₄ (ox := excO C (h₂.push (kxs_mw "ValueError.__init__" e)).objs.size) (od := none) ⟨hx₄, rfl, rfl, trivial⟩ T.sa ?_
  refine exc_osa X₄ hx₄ hcl (show refsVE (.ref C :: bm) = true from hbm) rfl T.noV (fun h₆ tk₆ dx k₆ dn dne hx₆ hn₆ => ?_)
  refine wpAny_execs_nil (hq h₆ tk₆ dx _ ⟨fun b o hb z => k₆ b o hb (k₅ b o hb z), hx₆, Nat.le_trans ?_ dn, dne, hn₆⟩)
  have z1 : hp.objs.size < h₄.objs.size := hn₄.lt
  exact Nat.le_of_lt z1
end
end ErrX
end PySem

namespace PySem
namespace ErrX
open PySem.W PySem.Calls PyProof.Rows PySem.HandSPX
section
variable {M : Model} {A : Around} {E : Value → Shared → Prop} {h : Heap} {g : Array GenState} {d : Drawn} {t : Nat} {os : OsState}
variable {cn cq : Str} {C cN : Addr} {cbs cbm bmB : List Value} {cdct : Bool} {csn : List Str} {csub : List Value} {cab : Bool} {ccol : Option Bool} {cdd : Option Addr} {m0 m1 m2 m3 m5 : Option Value} {B newId initId : String}
/-- the arguments by name: what the maker's look asks of them -/
theorem check_new_kw (F : ExcBaseFacts B newId initId bmB) (alike : ∀ X : String, cbm.contains (.type X) = bmB.contains (.type X)) {ps : List Value} {kw : List (Str × Value)} {Q : Unit → Shared → Prop}
    (atC : h.get? C = some (excClassObj cn cq C cN cbs cbm cdct csn csub cab ccol cdd m0 m1 m2 m3 m5 newId)) (post : Q () ⟨h, g, d, t, os⟩) : wpAny M A (checkBuiltinCall newId ⟨.ref C :: ps, kw⟩) Q E ⟨h, g, d, t, os⟩ := by
  have inB : (Value.ref C :: cbm).contains (.type B) = true := by rw [List.contains_cons, alike, F.hasB, Bool.or_true]
  have star := F.noStar
  simp only [checkBuiltinCall, F.newKind, F.newSplit, F.newRow]
  repeat (first | refine wpAny_loadPart_at atC ?_ | (refine wpAny_isSubtype_exc atC ?_; rw [inB]) | refine wpAny_staticBase_exc atC ?_ | refine wpAny_madeBy_exc atC ?_ | simp only [bne_self_eq_false, Bool.false_eq_true, if_false] | wp_step)
  exact post
end
section
variable {P : Program} {W0 : World} {A : Around} {E : Value → Shared → Prop} {R : Result → Shared → Prop} {h : Heap} {g : Array GenState} {d : Drawn} {t : Nat} {os : OsState}
variable {cn cq : Str} {C cN : Addr} {cbs cbm bmB : List Value} {cdct : Bool} {csn : List Str} {csub : List Value} {cab : Bool} {ccol : Option Bool} {cdd : Option Addr} {m0 m1 m2 m3 m5 : Option Value} {B newId initId : String}
theorem new_kw (F : ExcBaseFacts B newId initId bmB) (alike : ∀ X : String, cbm.contains (.type X) = bmB.contains (.type X)) {ps : List Value} {kw : List (Str × Value)}
    (atC : h.get? C = some (excClassObj cn cq C cN cbs cbm cdct csn csub cab ccol cdd m0 m1 m2 m3 m5 newId))
    (post : R (.ok (.ret (.ref (h.objs.size + 1)))) ⟨(h.push { cls := .type "tuple", data := .seq ps.toArray }).push
      { cls := .ref C, data := .fields #[.ref h.objs.size, .none, .none, .none, .bool false, .none] }, g, d, t, os⟩) (few : ps.length ≤ sizeLine) :
    codeAny (model P W0) A (.builtin newId ⟨.ref C :: ps, kw⟩) R ⟨h, g, d, t, os⟩ := by
  have ends := F.ends
  have inB : (Value.ref C :: cbm).contains (.type B) = true := by rw [List.contains_cons, alike, F.hasB, Bool.or_true]
  have outA : (Value.ref C :: cbm).contains (.type "AttributeError") = false := by rw [List.contains_cons, alike, F.noAttr]; rfl
  have outN : (Value.ref C :: cbm).contains (.type "NameError") = false := by rw [List.contains_cons, alike, F.noName]; rfl
  refine codeAny_builtinAt F.entry ?_
  unfold Builtin.«BaseException.__new__»
  refine wpAt_bind ?_
  show wpAt _ _ _ (stack >>= _) _ _ _
  refine wpAt_bind (wpAt_stack fun p under => wpAt_of_wpAny ?_)
  wp_walk
  refine wpAt_of_wpAny ?_
  rw [F.owner]
  repeat (first | with_reducible refine wpAny_madeHere_exc F.canon atC ?_ | with_reducible refine wpAny_loadPart_at atC ?_ | (with_reducible refine wpAny_isSubtype_exc atC ?_; first | rw [inB] | rw [outA] | rw [outN]) | wp_step)
  show R _ _
  rw [Heap.size_push]
  exact post
theorem type_call_kw (F : ExcBaseFacts B newId initId bmB) (alike : ∀ X : String, cbm.contains (.type X) = bmB.contains (.type X)) {ps : List Value} {kw : List (Str × Value)} {fI : Addr} {Q : Fin → Shared → Prop}
    (atC : h.get? C = some (excClassObj cn cq C cN cbs cbm cdct csn csub cab ccol cdd m0 m1 m2 m3 m5 newId))
    (ini : W.Looks (model P W0) h (typeLookup (.ref C) "__init__") (some (.ref fI))) (bnd : ∀ self, W.Looks (model P W0) h (bindSpecial (.ref fI) self) (.ref fI, [self])) (few : ps.length ≤ sizeLine)
    (post : codeAny (model P W0) A (.call (.ref fI) ⟨.ref (h.objs.size + 1) :: ps, kw⟩)
      (fun res s' => match res with | .ok (.ret v) => v = .none ∧ Q (.done (.ret (.ref (h.objs.size + 1)))) s' | .ok _ => False | .error e => E e s')
      ⟨(h.push (W.kdv_tup ps)).push (excO C h.objs.size), g, d, t, os⟩) :
    wpAny (model P W0) A (Builtin.«type.__call__» ⟨.ref C :: ps, kw⟩) Q E ⟨h, g, d, t, os⟩ := by
  repeat (first | with_reducible refine wpAny_loadPart_at atC ?_ | with_reducible refine wpAny_madeBy_exc atC ?_ | wp_step)
  refine codeAny_call_builtin_code (Code.quiet_builtin _ F.quiet) (check_new_kw F alike atC ?_)
  refine new_kw F alike atC ?_ few
  show wpAny _ _ _ _ _ _
  have keep : ∀ b o, h.get? b = some o → ((h.push (W.kdv_tup ps)).push (excO C h.objs.size)).get? b = some o := fun b o e => Heap.get?_push_of_some _ (Heap.get?_push_of_some _ e)
  have atC2 := keep _ _ atC
  have atE : ((h.push (W.kdv_tup ps)).push (excO C h.objs.size)).get? (h.objs.size + 1) = some (excO C h.objs.size) := by heap_get
  have inC : (Value.ref C :: cbm).contains (.ref C) = true := by simp
  have ini2 := ini.keeps keep
  have bnd2 := (bnd (.ref (h.objs.size + 1))).keeps keep
  unfold isInstance
  repeat (first | with_reducible refine wpAny_loadPart_at atE ?_ | (with_reducible refine wpAny_isSubtype_exc atC2 ?_; rw [inC]) | wp_step)
  show wpAny _ _ (typeLookup (.ref C) _) _ _ _
  refine ini2.at ?_
  refine wpAny_holding (wpAny_bind (bnd2.at ?_))
  refine wpAny_bind (wpAny_call (codeAny_mono post fun res s' done => ?_))
  rcases res with e | (v | _ | _ | _) <;> first | exact done | exact done.elim | skip
  obtain ⟨rfl, done⟩ := done
  first
    | exact wpAny_pure (wpAny_pure done)
    | (wp_walk; exact done)
theorem call_kw (F : ExcBaseFacts B newId initId bmB) (alike : ∀ X : String, cbm.contains (.type X) = bmB.contains (.type X)) {ps : List Value} {kw : List (Str × Value)} {fI : Addr}
    (atC : h.get? C = some (excClassObj cn cq C cN cbs cbm cdct csn csub cab ccol cdd m0 m1 m2 m3 m5 newId))
    (ini : W.Looks (model P W0) h (typeLookup (.ref C) "__init__") (some (.ref fI))) (bnd : ∀ self, W.Looks (model P W0) h (bindSpecial (.ref fI) self) (.ref fI, [self])) (few : ps.length ≤ sizeLine)
    (post : codeAny (model P W0) (A.under (.builtin "type.__call__" ⟨.ref C :: ps, kw⟩)) (.call (.ref fI) ⟨.ref (h.objs.size + 1) :: ps, kw⟩) (W.InitBack (h.objs.size + 1) R)
      ⟨(h.push (W.kdv_tup ps)).push (excO C h.objs.size), g, d, t, os⟩) :
    codeAny (model P W0) A (.call (.ref C) ⟨ps, kw⟩) R ⟨h, g, d, t, os⟩ := by
  have look1 := tc_lookup
  have look2 := tc_bind (.ref C)
  have isTy : (⟨h, g, d, t, os⟩ : Shared).TypeIs (.ref C) "type" := ⟨_, atC, rfl⟩
  refine codeAny_of_tree ?_
  show wpAny _ _ (callAny (.ref C) _) _ _ _
  repeat (any_goals (first | assumption | with_reducible refine wpAny_loadPart_at atC ?_ | wp_step))
  refine ⟨rfl, ?_⟩
  refine codeAny_call_builtin_at (Code.quiet_builtin _ (by decide +kernel)) entry_typeCall (wpAny_check_type_call_sub atC (type_call_kw F alike atC ini bnd few ?_))
  refine codeAny_mono post fun res s' done => ?_
  rcases res with e | (v | _ | _ | _) <;> exact done
end
end ErrX
end PySem

namespace PySem
namespace ErrX
open PySem.W PySem.Calls PyProof.Rows PySem.HandSPX
/-- an own error, just made: the value at its name in its dict -/
structure Made (h h' : Heap) (e C d t1 : Addr) (v : Value) : Prop where
  keep : ∀ b o, h.get? b = some o → h'.get? b = some o
  new : h.objs.size ≤ e
  obj : h'.get? e = some { cls := .ref C, dict := some d, data := .fields #[.ref t1, .none, .none, .none, .bool false, .none] }
  dbig : h.objs.size ≤ d
  dne : d ≠ e
  ns : h'.Ns1 d (fun y => if y = "value" then some v else none)
section
variable {P : Program} {w : World} {A : Around} {E : Value → Shared → Prop} {R : Result → Shared → Prop} {s : Shared} {K : Frag} {mg mb : Str → Option Value} {x : Str} {C fI : Addr} {J : Expr}
theorem err_made (T : ErrTxt P K mg x C fI J) {v : Value} {us : List Value} {kw : List (Str × Value)} (ha : (us = [v] ∧ kw = []) ∨ (us = [] ∧ kw = [(("value" : Str), v)])) (X : K.In s.heap) (hlim : s.heap.NoLimit) (hg : s.heap.Ns mainGlobals mg) (hb : s.heap.Ns builtinsNs mb) (hbv : mb "super" = some (.type "super"))
    (room : (A.under (.builtin "type.__call__" ⟨.ref C :: us, kw⟩)).depth < recursionLimit) (units : (A.under (.builtin "type.__call__" ⟨.ref C :: us, kw⟩)).units + 20 < cLine) (hJ : JOk P w J v s.heap)
    (hq : ∀ h' tk e d t1, Made s.heap h' e C d t1 v → R (.ok (.ret (.ref e))) { s with heap := h', toks := tk }) :
    codeAny (model P w) A (.call (.ref C) ⟨us, kw⟩) R s := by
  obtain ⟨cn, cq, cN, cbs, cbm, csn, csub, cab, ccol, cdd, m0, m1, m2, m3, m5, hC, hbm⟩ := T.cls
  obtain ⟨hp, g, dr, tk, os⟩ := s
  have k : ∀ b o, hp.get? b = some o → ((hp.push (kdv_tup us)).push (excO C hp.objs.size)).get? b = some o := fun b o z => Heap.get?_push_of_some _ (Heap.get?_push_of_some _ z)
  have at1 : ((hp.push (kdv_tup us)).push (excO C hp.objs.size)).get? (hp.objs.size + 1) = some (excO C hp.objs.size) := by heap_get
  have eK : K.lookup (hp.objs.size + 1) = none := by
    cases z : K.lookup (hp.objs.size + 1) with
    | none => rfl
    | some o =>
      have z2 : hp.get? (hp.objs.size + 1) = some o := X _ _ z
      exact absurd (Nat.lt_of_succ_lt (Heap.lt_size z2)) (Nat.lt_irrefl _)
  have few : us.length ≤ sizeLine := by
    rw [sizeLine_eq]
    rcases ha with ⟨rfl, _⟩ | ⟨rfl, _⟩
    · exact (by decide : 1 ≤ 16777216)
    · exact Nat.zero_le _
  refine call_kw F.excBase_ValueError (fun Y => refsVE_contains Y cbm hbm) (X _ _ hC) (looks_findIn X T.iC) (fun self => bind_fn X self T.tC) few ?_
  refine err_init (s := ⟨(hp.push (kdv_tup us)).push (excO C hp.objs.size), g, dr, tk, os⟩) T (e := hp.objs.size + 1) (t0 := hp.objs.size) (v := v) (X.keeps k) (hlim.keeps k) (hg.keeps k) (hb.keeps k) hbv at1 eK room units (fun A' E' env s' Q' u kk ld q => hJ A' E' env s' Q' u (fun b o z => kk b o (k b o z)) ld q) ?_ ?_
  · rcases ha with ⟨rfl, rfl⟩ | ⟨rfl, rfl⟩
    · exact Or.inl rfl
    · exact Or.inr rfl
  · intro h' tk' dx t1 ⟨kp, obj, dbig, dne, ns⟩
    have old : ∀ b o, hp.get? b = some o → h'.get? b = some o := fun b o z => kp b o (Nat.ne_of_lt (Nat.lt_succ_of_lt (Heap.lt_size z))) (k b o z)
    have big : hp.objs.size + 1 + 1 ≤ dx := by
      have z := dbig
      first
        | exact z
        | (rw [Heap.size_push, Heap.size_push] at z; exact z)
    exact ⟨rfl, hq h' tk' (hp.objs.size + 1) dx t1 ⟨old, Nat.le_succ _, obj, Nat.le_trans (Nat.le_trans (Nat.le_succ _) (Nat.le_succ _)) big, dne, ns⟩⟩
end
/-! ### the text that the error is given -/
/-- v is shown as some text -/
def FmtOk (P : Program) (w : World) (v : Value) (h : Heap) : Prop := ∀ (A : Around) (E : Value → Shared → Prop) (s : Shared) (Q : Value → Shared → Prop), A.units + 5 < cLine → (∀ b o, h.get? b = some o → s.heap.get? b = some o) →
  (∀ (y : Str) (u tk : Tok), y.length ≤ 16000000 → Q (.str y u) { s with toks := tk }) → wpAny (model P w) A (formatField v Str.empty) Q E s
def RepOk (P : Program) (w : World) (v : Value) (h : Heap) : Prop := ∀ (A : Around) (E : Value → Shared → Prop) (s : Shared) (Q : Value → Shared → Prop), A.units + 5 < cLine → (∀ b o, h.get? b = some o → s.heap.get? b = some o) →
  (∀ (y : Str) (u tk : Tok), y.length ≤ 16000000 → Q (.str y u) { s with toks := tk }) → wpAny (model P w) A (pyReprObj v) Q E s
section
variable {P : Program} {w : World} {v : Value} {h : Heap} {pre : Str} {j : Nat} {p1 p2 p3 p4 : Pos}
theorem jok_con : JOk P w (.Constant (.str pre) j p1) v h := fun A E env s Q hu k ld q => Constant_str (q pre _ _)
theorem jok_fmt (hp : pre.length ≤ 1000) (f : FmtOk P w v h) : JOk P w (.JoinedStr [.Constant (.str pre) j p1, .FormattedValue (.Name "value" p2) (-1) none p3] p4) v h := fun A E env s Q hu k ld q => by
  refine wpAny_JoinedStr ?_
  refine Constant_str ⟨pre, _, rfl, ?_, ?_⟩
  · show (Str.empty ++ pre).length ≤ sizeLine
    rw [Str.length_append, sizeLine_eq]
    show 0 + pre.length ≤ _
    omega
  refine wpAny_FormattedValue_plain (ld _ _ _ rfl ?_)
  refine f _ _ _ _ (by omega) k fun y u tk hy => ⟨y, u, rfl, ?_, ?_, q _ _ _⟩
  all_goals
    rw [Str.length_append, Str.length_append, sizeLine_eq]
    show 0 + pre.length + y.length ≤ _
    omega
theorem jok_rep (hp : pre.length ≤ 1000) (f : RepOk P w v h) : JOk P w (.JoinedStr [.Constant (.str pre) j p1, .FormattedValue (.Name "value" p2) 114 none p3] p4) v h := fun A E env s Q hu k ld q => by
  refine wpAny_JoinedStr ?_
  refine Constant_str ⟨pre, _, rfl, ?_, ?_⟩
  · show (Str.empty ++ pre).length ≤ sizeLine
    rw [Str.length_append, sizeLine_eq]
    show 0 + pre.length ≤ _
    omega
  refine wpAny_FormattedValue_repr (ld _ _ _ rfl ?_)
  refine f _ _ _ _ (by omega) k fun y u tk hy => ?_
  have e : ∀ u' tk', ∃ y_1 t, (Value.str y u' : Value) = .str y_1 t ∧ ((Str.empty ++ pre) ++ y_1).length ≤ sizeLine ∧ Joins (model P w) A E (evalEach [] env) ((Str.empty ++ pre) ++ y_1) (fun out s₁ => out.length ≤ sizeLine ∧ Q (.str out s₁.toks) { s₁ with toks := s₁.toks + 1 }) { s with toks := tk' } := fun u' tk' => by
    have hz : ((Str.empty ++ pre) ++ y).length ≤ sizeLine := by
      rw [Str.length_append, Str.length_append, sizeLine_eq]
      show 0 + pre.length + y.length ≤ _
      omega
    exact ⟨y, u', rfl, hz, hz, q _ _ _⟩
  exact wpAny_formatField_str (e _ _) (e _ _) (by rw [sizeLine_eq]; omega)
theorem fmt_non : FmtOk P w .none h := fun A E s Q hu k q => wpAny_formatField_none (q _ _ _ (by decide))
theorem rep_non : RepOk P w .none h := fun A E s Q hu k q => pyReprObj_none (q _ _ _ (by decide))
theorem fmt_str {z : Str} {t : Tok} (hz : z.length ≤ 100000) : FmtOk P w (.str z t) h := fun A E s Q hu k q => wpAny_formatField_str (q _ _ _ (by omega)) (q _ _ _ (by omega)) (by rw [sizeLine_eq]; omega)
theorem rep_str {z : Str} {t : Tok} (hz : (reprText z).length ≤ 100000) : RepOk P w (.str z t) h := fun A E s Q hu k q => pyReprObj_str (q _ _ _ (by omega)) (by rw [sizeLine_eq]; omega)
theorem int_short {i : Int} (hi : i.natAbs.log2 < 1920) : (Str.ofString (toString i)).length ≤ 16000000 := by
  have e := int_text_length_le (k := 1920) (by decide) hi
  rw [ofString_length]
  exact Nat.le_trans e (by decide)
theorem fmt_int {i : Int} {t : Tok} (hi : i.natAbs.log2 < 1920) : FmtOk P w (.int i t) h := fun A E s Q hu k q => wpAny_formatField_int hi (q _ _ _ (int_short hi))
theorem rep_int {i : Int} {t : Tok} (hi : i.natAbs.log2 < 1920) : RepOk P w (.int i t) h := fun A E s Q hu k q => pyReprObj_int hi (q _ _ _ (int_short hi))
theorem rep_tup {a : Addr} {o : Obj} {its : Array Value} {n : Nat} {ts : List Str} (ho : h.get? a = some o) (hc : o.cls = .type "tuple") (hd : o.data = .seq its n) (hT : ReprAll P w its.toList ts) (hz : (tupleText ts).length ≤ 100000) : RepOk P w (.ref a) h := fun A E s Q hu k q =>
  wpAny_pyReprObj_slot (by omega) ⟨o, k _ _ ho, hc⟩ F.slot_tuple_repr (fmt_tuple_repr (k _ _ ho) hc hd hT (by rw [sizeLine_eq]; omega) fun m u tk hm => ⟨m, u, rfl, q _ _ _ (by omega)⟩)
theorem fmt_tup {a : Addr} {o : Obj} {its : Array Value} {n : Nat} {ts : List Str} (ho : h.get? a = some o) (hc : o.cls = .type "tuple") (hd : o.data = .seq its n) (hT : ReprAll P w its.toList ts) (hz : (tupleText ts).length ≤ 100000) : FmtOk P w (.ref a) h := fun A E s Q hu k q =>
  fmt_tuple (by omega) (k _ _ ho) hc hd hT (by rw [sizeLine_eq]; omega) fun m u tk hm => q _ _ _ (by omega)
end
end ErrX
end PySem

namespace PySem.W
open PySem PySem.Spec PySem.Calls PyProof.Rows
section
variable {prog : Program} {w : World} {A : Around} {E : Value → Shared → Prop} {s : Shared} {K : Frag} {x D : Addr} {ox : Obj} {od : Option Obj}
theorem find_data {C : Addr} {name : Str} {a g : Value} (cls : (clsIn K C).isSome = true) (fnd : findIn K (.ref C) name = some (some a)) (get : specialIn K a "__get__" = some (some g)) (tk : takesIn K a = some true) : findObj K C od name = some (.bind g a) := by
  obtain ⟨cd, e⟩ := Option.isSome_iff_exists.mp cls
  unfold findObj
  rw [e, Option.bind_some, fnd, Option.bind_some]
  simp [get, tk]
/-- what isinstance asks of an exception of an own class, with a dict or without -/
theorem class_of_exc {Q : Option Value → Shared → Prop} (own : L2.ExcC K D) (X : K.In s.heap) (I : InstAt s.heap x ox D od) (q : Q (some (.ref D)) { s with toks := s.toks + 1 }) : wpAny (model prog w) A (getAttr? (.ref x) "__class__") Q E s := by
  have fo : findObj K D od "__class__" = some (.bind (.builtin "getset_descriptor.__get__") (.builtin "object.__class__")) := find_data (by obtain ⟨cd, e, _⟩ := any_some own.hd; rw [e]; rfl) own.ha own.hn own.ht
  obtain ⟨hp, gs, dr, tk, os⟩ := s
  have ty := I.type (M := model prog w)
  have l1 := looks_findIn (M := model prog w) X own.hg
  have l2 := looks_findIn (M := model prog w) X own.hk
  have l3 := looks_find (M := model prog w) X I fo
  have isE : Looks (model prog w) hp (isInstance (.ref x) (.type "BaseException")) true := ty.andThen (looks_subIn X own.hs)
  have no1 : (Value.builtin "BaseException.__getattribute__" == Value.builtin "object.__getattribute__") = false := by decide +kernel
  have no2 : (onTheHeap (Value.ref D) && Value.builtin "BaseException.__getattribute__" == Value.builtin "object.__getattribute__") = false := by rw [no1]; rfl
  have no3 : (false && onTheHeap (Value.builtin "BaseException.__getattribute__")) = false := rfl
  unfold getAttr? getAttrBy? getAttrBy
  refine wpAny_bind (wpAny_mkText (wpAny_bind (wpAny_attempt (wpAny_holding (wpAny_bind (ty.at (wpAny_bind (l1.at ?_))))))))
  show wpAny _ _ (if (onTheHeap (Value.ref D) && Value.builtin "BaseException.__getattribute__" == Value.builtin "object.__getattribute__") = true then _ else _) _ _ _
  rw [no2, if_neg Bool.false_ne_true]
  unfold getAttrByItsOwn hookBefore
  refine wpAny_bind ?_
  rw [if_pos (show onTheHeap (Value.ref D) = true from rfl)]
  refine l2.at (wpAny_bind (wpAny_attempt (wpAny_holding ?_)))
  unfold callGetattribute
  rw [no3, if_neg Bool.false_ne_true]
  unfold boundAndCalled
  rw [PySem.F.excAttr_ValueError.ga.bind (.ref x)]
  refine wpAny_bind (wpAny_pure ?_)
  show wpAny _ _ (call (.builtin "BaseException.__getattribute__") [.ref x, .str "__class__" tk]) _ _ _
  refine wpAny_call (codeAny_call_builtin PySem.F.excAttr_ValueError.ga.plain PySem.F.entry_bexc_ga ?_)
  refine @check_slot (model prog w) _ _ ⟨hp, gs, dr, tk + 1, os⟩ "BaseException.__getattribute__" "BaseException" "__getattribute__" (.ref x) [.str "__class__" tk] [] _ (by decide +kernel) (by decide +kernel) isE (PySem.F.args_bexc_ga (.ref x) (.str "__class__" tk)) ?_
  unfold Builtin.«object.__getattribute__»
  refine wpAny_bind (wpAny_of_eq (a := ((Value.ref x : Value), [Value.str "__class__" tk])) (by first | rfl | (simp only [slotArgs]; rfl)) ?_)
  refine wpAny_bind (wpAny_pure (wpAny_bind (ty.at (wpAny_bind (l3.at ?_)))))
  show wpAny _ _ (holding [Value.builtin "object.__class__"] (call (.builtin "getset_descriptor.__get__") [.builtin "object.__class__", .ref x, .ref D]) >>= ret) _ _ _
  refine wpAny_bind (wpAny_holding (wpAny_call (class_get (s := ⟨hp, gs, dr, tk + 1, os⟩) (ox := ox) (od := od) X I own.hm ?_)))
  refine wpAny_pure ?_
  show wpAny _ _ (handedOut (.ref D)) _ _ _
  rw [handedOut_of (v := .ref D) rfl]
  first
    | exact wpAny_pure (wpAny_pure q)
    | exact wpAny_pure q
    | exact wpAny_pure (wpAny_bind (wpAny_pure (wpAny_pure q)))
theorem kitx_err (own : L2.ExcC K D) : KitX K (.ref x) (.ref D) (fun h => ∃ ox od, InstAt h x ox D od) where
  ty := fun _ _ _ ⟨_, _, I⟩ => I.type
  it := fun _ _ X _ => by
    obtain ⟨cd, e, _⟩ := any_some own.hd
    unfold clsIn at e
    split at e
    · rename_i c' d' cd' sl' ho
      intro A' Q' E' s' k q
      unfold isType loadHead
      exact wpAny_bind (wpAny_loadPart (k _ _ (X _ _ ho)) (wpAny_pure q))
    · cases e
  ne := fun h tp dd its n sl X htp => by
    obtain ⟨cd, e, _⟩ := any_some own.hd
    refine Bool.eq_false_iff.mpr fun same => ?_
    have same := Value.ref.inj (beq_iff_eq.mp same)
    subst same
    unfold clsIn at e
    split at e
    · rename_i c' d' cd' sl' ho
      have z := (X _ _ ho).symm.trans htp
      cases z
    · cases e
  ca := fun X ⟨_, _, I⟩ q => class_of_exc own X I q
/-- kitOne by the words that k_is knows -/
theorem kit_own {C : Addr} {b : Bool} (is : isClsIn K C = true) (ty : typeIn K (.ref C) = some (.type "type")) (sub : subIn K (.ref D) (.ref C) = some b) (ne : D ≠ C) : kitOne K (.ref D) (.ref C) = some b := by
  have e1 : ((clsIn K C).isSome && typeIn K (.ref C) == some (.type "type")) = true := by
    have is' : (clsIn K C).isSome = true := is
    rw [is', ty] <;> rfl
  have e2 : (Value.ref D == Value.ref C) = false := by simp [ne]
  unfold kitOne
  rw [e2, if_neg Bool.false_ne_true]
  show (if ((clsIn K C).isSome && typeIn K (.ref C) == some (.type "type")) = true then subIn K (.ref D) (.ref C) else none) = some b
  rw [if_pos e1]
  exact sub
theorem kit_self {C : Addr} : kitOne K (.ref C) (.ref C) = some true := by
  unfold kitOne
  simp
theorem kit_ve {b : Bool} (sub : subIn K (.ref D) (.type "ValueError") = some b) : kitOne K (.ref D) (.type "ValueError") = some b := by
  have e2 : (Value.ref D == Value.type "ValueError") = false := by simp
  have m : kitMeta "ValueError" = true := by decide +kernel
  unfold kitOne
  rw [e2, if_neg Bool.false_ne_true]
  show (if kitMeta "ValueError" = true then subIn K (.ref D) (.type "ValueError") else none) = some b
  rw [if_pos m]
  exact sub
end
end PySem.W
namespace L2
open PySem PySem.Spec PyProof.Rows
/-- what may be shown -/
def VOk (K : PySem.W.Frag) (H : Hp) (v : V) : Prop := v = .non ∨ (∃ i : Int, v = .int i ∧ i.natAbs.log2 < 1900) ∨ (∃ z : Str, v = .str z ∧ z.length ≤ 1000 ∧ (reprText z).length ≤ 100000) ∨
  ∃ (p : Addr) (i j : Int), v = .ref p ∧ SqT K H p [.int i, .int j] ∧ i.natAbs < 1000 ∧ j.natAbs < 1000
/-- what J is: a plain text, or a text and the value shown -/
inductive JF : Expr → Prop
  | con (x : Str) (j : Nat) (p : Pos) : JF (.Constant (.str x) j p)
  | fmt (x : Str) (j : Nat) (p1 p2 p3 p4 : Pos) (h : x.length ≤ 1000) : JF (.JoinedStr [.Constant (.str x) j p1, .FormattedValue (.Name "value" p2) (-1) none p3] p4)
  | rep (x : Str) (j : Nat) (p1 p2 p3 p4 : Pos) (h : x.length ≤ 1000) : JF (.JoinedStr [.Constant (.str x) j p1, .FormattedValue (.Name "value" p2) 114 none p3] p4)
theorem log_of {i : Int} (h : i.natAbs < 1000) : i.natAbs.log2 < 1920 := by
  by_cases e : i.natAbs = 0
  · rw [e]
    decide
  · have := (Nat.log2_lt e).mpr (Nat.lt_of_lt_of_le h (by decide : 1000 ≤ 2 ^ 10))
    omega
theorem tup_short {i j : Int} (hi : i.natAbs < 1000) (hj : j.natAbs < 1000) : (tupleText [(Str.ofString (toString i)), (Str.ofString (toString j))]).length ≤ 100000 := by
  have h := fmt_text [(Str.ofString (toString i)), (Str.ofString (toString j))]
  have e1 := PySem.ErrX.int_short (log_of hi)
  have f : ∀ {k : Int}, k.natAbs < 1000 → (Str.ofString (toString k)).length ≤ 12 := fun {k} hk => by
    have e := int_text_length_le (a := k) (k := 10) (by decide) (by
      by_cases e : k.natAbs = 0
      · rw [e]
        decide
      · exact (Nat.log2_lt e).mpr (Nat.lt_of_lt_of_le hk (by decide)))
    rw [PySem.ofString_length]
    omega
  have a := f hi
  have b := f hj
  rw [piled_cons, piled_cons] at h
  have z : piled ([] : List Str) = 0 := rfl
  omega
theorem vok_shown {X : Cx} {pins : List (Addr × Obj)} {σ : St} {H : Hp} {s : Shared} {v : V} {u : Value} {J : Expr} (jf : JF J) (I : Inv X pins σ H s) (r : RelV v u) (o : VOk X.K H v) : PySem.ErrX.JOk X.prog X.w J u s.heap := by
  have both : PySem.ErrX.FmtOk X.prog X.w u s.heap ∧ PySem.ErrX.RepOk X.prog X.w u s.heap := by
    rcases o with rfl | ⟨i, rfl, hi⟩ | ⟨z, rfl, hz, hr⟩ | ⟨p, i, j, rfl, ht, hi, hj⟩
    · obtain rfl : u = Value.none := r
      exact ⟨PySem.ErrX.fmt_non, PySem.ErrX.rep_non⟩
    · obtain ⟨t, rfl⟩ := r
      exact ⟨PySem.ErrX.fmt_int (by omega), PySem.ErrX.rep_int (by omega)⟩
    · obtain ⟨t, rfl⟩ := r
      exact ⟨PySem.ErrX.fmt_str (by omega), PySem.ErrX.rep_str hr⟩
    · obtain rfl : u = Value.ref p := r
      obtain ⟨its, rv, ⟨ob, ho, hc, n, hd⟩, _⟩ := I.tuple ht
      have all : ReprAll X.prog X.w its [(Str.ofString (toString i)), (Str.ofString (toString j))] := by
        cases rv with
        | cons r1 rest =>
          cases rest with
          | cons r2 rest =>
            cases rest
            obtain ⟨t1, rfl⟩ := r1
            obtain ⟨t2, rfl⟩ := r2
            exact .cons (ReprIs.int t1 (log_of hi)) (.cons (ReprIs.int t2 (log_of hj)) .nil)
      exact ⟨PySem.ErrX.fmt_tup ho hc hd (by simpa using all) (tup_short hi hj), PySem.ErrX.rep_tup ho hc hd (by simpa using all) (tup_short hi hj)⟩
  cases jf with
  | con x j p => exact PySem.ErrX.jok_con
  | fmt x j p1 p2 p3 p4 h => exact PySem.ErrX.jok_fmt h both.1
  | rep x j p1 p2 p3 p4 h => exact PySem.ErrX.jok_rep h both.2
section
variable {X : Cx} {C fI : Addr} {J : Expr} {x : Str} {e : Expr} {te : TE} {ta tk : TA} {p pos apos : Pos} {k : Nat}
/-- the heap behind a new error of the class at C, at a, its dict at d -/
def errH (H : Hp) (a C d : Addr) (v : V) : Hp := upd (upd H d (exd d [(("value" : Str), v)])) a (exo a C (some d))
/-- C(v) -/
def tErr (K : PySem.W.Frag) (C : Addr) (ta : TA) : TE := fun σ H Q => ta σ H fun vs H1 => ∃ v, vs = [v] ∧ VOk K H1 v ∧ ∀ a d, H1 a = none → H1 d = none → d ≠ a → Q (.ref a) (errH H1 a C d v)
theorem err_laid {pins : List (Addr × Obj)} {σ : St} {H : Hp} {s : Shared} {h' : Heap} {tk' : Nat} {a d t1 : Addr} {v : V} {u : Value} (I : Inv X pins σ H s) (r : RelV v u) (M : PySem.ErrX.Made s.heap h' a C d t1 u) :
    H a = none ∧ H d = none ∧ Inv X pins σ (errH H a C d v) { s with heap := h', toks := tk' } := by
  have na : H a = none := I.hok.fresh M.new
  have nd : H d = none := I.hok.fresh M.dbig
  have oldA : ∀ {b : Addr} {o : Obj}, s.heap.get? b = some o → b ≠ a := fun z => Nat.ne_of_lt (Nat.lt_of_lt_of_le (Heap.lt_size z) M.new)
  have oldD : ∀ {b : Addr} {o : Obj}, s.heap.get? b = some o → b ≠ d := fun z => Nat.ne_of_lt (Nat.lt_of_lt_of_le (Heap.lt_size z) M.dbig)
  have same : ∀ {b : Addr} {o : HO}, H b = some o → errH H a C d v b = some o := fun {b o} z => by
    unfold errH
    rw [upd_ne (ne_of_none z na), upd_ne (ne_of_none z nd)]
    exact z
  refine ⟨na, nd, I.un (t' := tk') ?_ fun b o z => ?_⟩
  · exact {
      keep := fun b o z _ _ _ => M.keep b o z
      slot := fun b o z _ _ _ => ⟨o.slots, M.keep b o z⟩
      free := fun b o z n _ => by
        unfold errH
        rw [upd_ne (oldA z), upd_ne (oldD z)]
        exact n
      there := fun b o z _ => ⟨o, M.keep b o z⟩
      tups := fun b xs z => same z
      frzs := fun b o u z => same z
      tbls := fun b ps z => ⟨#[], by rw [same z]; simp⟩ }
  · by_cases ha : b = a
    · subst ha
      unfold errH at z
      rw [upd_same] at z
      cases z
      exact exo_ok M.obj
    · unfold errH at z
      rw [upd_ne ha] at z
      by_cases hd : b = d
      · subst hd
        rw [upd_same] at z
        cases z
        exact exd_ok M.ns (relO_put (fs := []) r fun g => True.intro)
      · rw [upd_ne hd] at z
        exact (I.hok b o z).stay (fun c u _ y => M.keep c u y) (fun c y => same y) (fun c xs y => same y)
theorem run_err {pins : List (Addr × Obj)} {σ : St} {H : Hp} {s : Shared} {Q : VK} {v : V} {u : Value} {us : List Value} {kw : List (Str × Value)} (T : PySem.ErrX.ErrTxt X.prog X.K X.mg x C fI J) (jf : JF J) (hr : Room (k + 1) X.A) (I : Inv X pins σ H s) (r : RelV v u) (o : VOk X.K H v) (ha : (us = [u] ∧ kw = []) ∨ (us = [] ∧ kw = [(("value" : Str), u)]))
    (q : ∀ a d, H a = none → H d = none → d ≠ a → Q (.ref a) (errH H a C d v)) : wpAny (model X.prog X.w) X.A (call (.ref C) us kw) (EP X pins σ Q) X.xe s := by
  obtain ⟨mb, b1, b2⟩ := I.mod.blt
  have room := hr.make C us kw
  have units := room.units
  refine wpAny_call (PySem.ErrX.err_made T ha I.kIn I.nolimit (I.mod.glob.keeps I.bk) (b1.keeps I.bk) ((b2 "super" (by decide)).trans (by first | boot_by_name | rfl | kernel_rfl)) room.depth (by omega) (vok_shown jf I r o) fun h' tk a d t1 M => ?_)
  obtain ⟨na, nd, I2⟩ := err_laid (tk' := tk) I r M
  exact ⟨.ref a, _, I2, rfl, q a d na nd M.dne⟩
theorem pe_err (T : PySem.ErrX.ErrTxt X.prog X.K X.mg x C fI J) (jf : JF J) (hr : Room (k + 1) X.A) (hg : Gl X x) (ha : PA X [e] ta)
    (hdb : (x == ("__debug__" : Str)) = false := by decide) (he : starEach [e] X.env = (false, eval e X.env) :: starEach [] X.env := by rfl) (hpl : (backTo pos (starEach [] X.env)).any (·.1) = false := by rfl) :
    PE X (.Call (.Name x p) [e] [] pos) (tErr X.K C ta) := by
  refine ⟨fun pins s σ H Q I h => ?_⟩
  refine wpAny_Call_Name_kw (ld_glob I hg T.gC ?_ hdb)
  refine PySem.W.callWith_K (h₀ := X.base) I.ok.mod.kin T.kC (thn (ha.run pos pins s σ H _ I h) fun us s1 ⟨vs, H1, I1, r, v, ev, o, q⟩ => ⟨I1.kIn, ?_⟩) he hpl
  subst ev
  cases r with
  | cons r1 rest =>
    cases rest
    exact run_err T jf hr I1 r1 o (Or.inl ⟨rfl, rfl⟩) q
/-- C(value=v) -/
theorem pe_errK {kws : List Keyword} (T : PySem.ErrX.ErrTxt X.prog X.K X.mg x C fI J) (jf : JF J) (hr : Room (k + 1) X.A) (hg : Gl X x) (hkw : PK X kws tk)
    (hall : (backToKw pos (keywordEach kws X.env)).all (·.1.isSome) = true := by rfl) (hks : (backToKw pos (keywordEach kws X.env)).filterMap (·.1) = [(("value" : Str))] := by rfl)
    (hdb : (x == ("__debug__" : Str)) = false := by decide) (hpl : ((backTo pos (starEach [] X.env)).any (·.1) || (backToKw pos (keywordEach kws X.env)).any (·.1.isNone)) = false := by rfl) :
    PE X (.Call (.Name x p) [] kws pos) (tErr X.K C tk) := by
  refine ⟨fun pins s σ H Q I h => ?_⟩
  refine wpAny_Call_Name_kw (ld_glob I hg T.gC ?_ hdb)
  refine PySem.W.callWith_KW0 (h₀ := X.base) I.ok.mod.kin T.kC hall (thn (hkw.run pos pins s σ H _ I h) fun ws s1 ⟨vs, H1, I1, r, v, ev, o, q⟩ => ⟨I1.kIn, ?_⟩) hpl
  rw [hks]
  subst ev
  cases r with
  | cons r1 rest =>
    cases rest
    exact run_err T jf hr I1 r1 o (Or.inr ⟨rfl, rfl⟩) q
/-- an exception of the class at C stands at a -/
def ExAt (H : Hp) (a C : Addr) : Prop := (∃ d v, H a = some (exo a C (some d)) ∧ H d = some (exd d [(("value" : Str), v)])) ∨ H a = some (ExO (.ref C) a)
theorem exAt_inst {pins : List (Addr × Obj)} {σ : St} {H : Hp} {s : Shared} {a : Addr} (I : Inv X pins σ H s) (h : ExAt H a C) : ∃ ox od, PySem.W.InstAt s.heap a ox C od := by
  rcases h with ⟨d, v, h1, h2⟩ | h
  · obtain ⟨t1, ho⟩ := exo_at I.hok h1
    obtain ⟨mA, ⟨od, _, _, hd, _⟩, _⟩ := exd_at I.hok h2
    exact ⟨_, some od, ho, rfl, rfl, hd⟩
  · have z : ObjOk X.prog X.w H s.heap a (ExO (.ref C) a) := I.hok a _ h
    obtain ⟨⟨oe, vs, ho, hz, hd, _⟩, _⟩ := z
    obtain ⟨oc, ob, oda, osl⟩ := oe
    obtain ⟨h1, h2⟩ := hz
    dsimp only at h1 h2 hd
    subst h1 h2 hd
    exact ⟨_, none, ho, rfl, rfl, trivial⟩
/-- isinstance(e, c), e an exception of an own class -/
def rIsX (K : PySem.W.Frag) : List V → Hp → VK → Prop := fun xs H Q => ∃ (a D : Addr) (c : V) (cv : Value) (b : Bool), xs = [.ref a, c] ∧ ExAt H a D ∧ ExcC K D ∧ (∀ u, RelV c u → u = cv) ∧ PySem.W.kitOne K (.ref D) cv = some b ∧ Q (.bl b) H
theorem call_isX : CallR X (.builtin "isinstance") (rIsX X.K) := by
  intro pins s σ H xs us Q I r h
  obtain ⟨a, D, c, cv, b, rfl, ex, own, hcv, e, q⟩ := h
  cases r with
  | cons ra rest =>
    cases rest with
    | cons rc rest =>
      cases rest
      cases ra
      have ec := hcv _ rc
      subst ec
      exact PySem.W.kia_one (PySem.W.kitx_err own) I.kIn (exAt_inst I ex) e (fun z => nomatch z) fun tk => ⟨.bl b, H, I.kept (t' := tk) fun _ _ z => z, rfl, q⟩
/-- isinstance(e, (c, ..)), the classes own ones, none of them e's -/
def rIsXT (K : PySem.W.Frag) : List V → Hp → VK → Prop := fun xs H Q => ∃ (a D T : Addr) (cs : List Addr), xs = [.ref a, .ref T] ∧ ExAt H a D ∧ ExcC K D ∧ H T = some (.tup (cs.map V.ref)) ∧ (∀ c ∈ cs, PySem.W.kitOne K (.ref D) (.ref c) = some false) ∧ Q (.bl false) H
theorem call_isXT : CallR X (.builtin "isinstance") (rIsXT X.K) := by
  intro pins s σ H xs us Q I r h
  obtain ⟨a, D, T, cs, rfl, ex, own, hT, no, q⟩ := h
  cases r with
  | cons ra rest =>
    cases rest with
    | cons rc rest =>
      cases rest
      cases ra
      cases rc
      obtain ⟨its, rv, ⟨o, ho, hc, n, hd⟩, hsz⟩ := I.tuple (show SqT X.K H T (cs.map V.ref) from Or.inl (Or.inl hT))
      have ei : its = cs.map Value.ref := by
        have : ∀ {cs : List Addr} {l : List Value}, Vals (cs.map V.ref) l → l = cs.map Value.ref := by
          intro cs
          induction cs with
          | nil =>
            intro l r
            cases r
            rfl
          | cons c r ih =>
            intro l r
            cases r with
            | cons r1 r2 =>
              cases r1
              rw [List.map_cons, ih r2]
        exact this rv
      have any : PySem.W.kitAny X.K (.ref D) (cs.map Value.ref) = some false := by
        clear hT ei rv hd hsz
        induction cs with
        | nil => rfl
        | cons c r ih =>
          rw [List.map_cons]
          unfold PySem.W.kitAny
          rw [no c List.mem_cons_self]
          exact ih fun c h => no c (List.mem_cons_of_mem _ h)
      obtain ⟨oc, od, oda, osl⟩ := o
      dsimp only at hc hd
      subst hc hd
      exact PySem.W.kia_tup (its := cs.map Value.ref) (PySem.W.kitx_err own) I.kIn (exAt_inst I ex) (by rw [← ei]; simpa using ho) any (fun z => nomatch z) fun tk => ⟨.bl false, H, I.kept (t' := tk) fun _ _ z => z, rfl, q⟩
/-- e.value -/
def tVal (K : PySem.W.Frag) (te : TE) : TE := fun σ H Q => te σ H fun x H1 => ∃ (a C d : Addr) (v : V), x = .ref a ∧ XfC K C ∧ PySem.W.findIn K (.ref C) "value" = some none ∧ H1 a = some (exo a C (some d)) ∧ H1 d = some (exd d [(("value" : Str), v)]) ∧ Q v H1
theorem pe_val (he : PE X e te) (hb : attributeBase e "value" X.env (eval e X.env) = eval e X.env := by rfl) : PE X (.Attribute e "value" pos) (tVal X.K te) := by
  refine ⟨fun pins s σ H Q I h => ?_⟩
  refine attr_of hb (thn (he.run pins s σ H _ I h) fun u s1 ⟨x, H1, I1, rx, a, C, d, v, ex, T, no, h1, h2, q⟩ => ?_)
  subst ex
  obtain rfl : u = Value.ref a := rx
  obtain ⟨t1, ho⟩ := exo_at I1.hok h1
  obtain ⟨mA, hns, hr⟩ := exd_at I1.hok h2
  obtain ⟨od, hod, hl⟩ := lookIn_ns hns
  have l : List.lookup ("value" : Str) [(("value" : Str), v)] = some v := by simp [List.lookup]
  obtain ⟨w, hw, rw⟩ := RelO.some_of (v := v) (o := mA "value") (by rw [← l]; exact hr "value")
  have J : PySem.W.InstAt s1.heap a _ C (some od) := ⟨ho, rfl, rfl, hod⟩
  exact PySem.HandSPX.exc_get I1.kIn J T.ga T.gg T.exC (PySem.W.findObj_own T.hdC no rfl (by rw [hl, hw])) (handed_of rw) ⟨v, H1, I1.tok _, rw, q⟩
/-- C(), C an own exception class without an __init__ of its own -/
def tExc0 (C : Addr) : TE := fun _ H Q => ∀ a, H a = none → Q (.ref a) (upd H a (ExO (.ref C) a))
theorem pe_exc0 {bmB : List Value} {B newId initId : String} (F : ExcBaseFacts B newId initId bmB) (q : PySem.W.excIn X.K C bmB newId = true) (gC : X.mg x = some (.ref C)) (kC : PySem.W.keepIn X.K (.ref C) = true) (hg : Gl X x) (hdb : (x == ("__debug__" : Str)) = false := by decide) :
    PE X (.Call (.Name x p) [] [] pos) (tExc0 C) := by
  refine ⟨fun pins s σ H Q I h => ?_⟩
  refine wpAny_Call_Name_kw (ld_glob I hg gC ?_ hdb)
  refine PySem.W.callWith_K0 I.kIn kC ?_
  show wpAny _ _ (call (.ref C) []) _ _ _
  obtain ⟨bm, N, nm, qn, bs, hdct, sn, sub, ab, col, dd, k0, k1, k2, k3, k5, mN, hC, hN, hni, T⟩ := exc_obj I.kIn q
  refine wpAny_call_exc_subT F T hC hN hni (fun h' a hm => ?_) (by show 0 ≤ sizeLine; exact Nat.zero_le _)
  have hn : H a = none := I.hok.gone hm.new
  obtain ⟨t, ht, _, _⟩ := hm.there
  exact ⟨.ref a, upd H a (ExO (.ref C) a), I.laidN hm.keeps hm.new hn (exO_ok ht ⟨rfl, rfl⟩ rfl rfl rfl (show 4 < 6 by decide)), rfl, h a hn⟩
end
end L2

namespace L2
open PySem PySem.Spec PyProof.Rows
/-- numbers of any size to a small power -/
def CPowX (i j : Int) : Prop := 0 ≤ j ∧ (Builtin.Int.intBits i : Int) * j ≤ 2 ^ 27
theorem op_powX {X : Cx} : OpR X (binaryOp .Pow) (rI CPowX fun i j => .int (i ^ j.toNat)) := opI fun _ _ _ _ _ _ _ hc q => pow_int hc.1 hc.2 q
/-- v is shown as z -/
def ShownV (K : PySem.W.Frag) (H : Hp) (v : V) (z : Str) : Prop := (v = .non ∧ z = "None") ∨ (∃ i : Int, v = .int i ∧ i.natAbs.log2 < 1900 ∧ z = Str.ofString (toString i)) ∨ (∃ y : Str, v = .str y ∧ (reprText y).length ≤ 100000 ∧ z = reprText y) ∨
  ∃ (a : Addr) (d : PyData), v = .ref a ∧ Dp K H v d ∧ d.showable = true ∧ d.hasDict = false ∧ d.depth ≤ 60 ∧ d.shown.length ≤ sizeLine ∧ z = d.shown
/-- repr(v) -/
def rReprV (K : PySem.W.Frag) : List V → Hp → VK → Prop := fun xs H Q => ∃ v z, xs = [v] ∧ ShownV K H v z ∧ Q (.str z) H
theorem cr_reprV {X : Cx} (hG : X.A.guards = some []) (hu : X.A.units + 64 < cLine) : CallR X (.builtin "repr") (rReprV X.K) := by
  intro pins s σ H xs us Q I r h
  obtain ⟨v, z, rfl, sh, q⟩ := h
  rcases sh with ⟨rfl, rfl⟩ | ⟨i, rfl, hi, rfl⟩ | ⟨y, rfl, hy, rfl⟩ | ⟨a, d, rfl, dp, d1, d2, d3, d4, rfl⟩
  · obtain ⟨u, rfl, ru⟩ := vals1 r
    obtain rfl : u = Value.none := ru
    exact call_repr_gives (typeIs_none s) F.slot_NoneType_repr F.entry_NoneType_repr (F.args_NoneType_repr_1 _) gives_none_repr ⟨.str "None", H, I.tok _, ⟨_, rfl⟩, q⟩ (hx := by decide)
  · obtain ⟨u, rfl, t, rfl⟩ := vals1 r
    exact call_repr_gives (typeIs_int s i t) F.slot_int_repr F.entry_int_repr (F.args_int_repr_1 _) (gives_int_repr i t (by omega)) ⟨.str _, H, I.tok _, ⟨_, rfl⟩, q⟩ (hx := int_text_fits (by omega))
  · obtain ⟨u, rfl, t, rfl⟩ := vals1 r
    exact call_repr_gives (typeIs_str s y t) F.slot_str_repr F.entry_str_repr (F.args_str_repr_1 _) (gives_str_repr y t) ⟨.str _, H, I.tok _, ⟨_, rfl⟩, q⟩ (hx := by rw [sizeLine_eq]; omega)
  · exact Mb.cr_repr hG hu pins s σ H _ us Q I r ⟨a, d, rfl, dp, d1, d2, d3, d4, q⟩
end L2
namespace Mb
open PySem PySem.Spec PyProof.Rows L2
open Evl (Ex)
/-- the pairs of a display -/
def WPs (trs : List (TE × TE)) (σ : Sg) (H : Hp) (K : List (V × V) → Hp → Prop) : Prop := ∀ H1, Ex H H1 → ∀ Q : List (V × V) → Hp → Prop, (∀ ps H2 H3, K ps H2 → Ex H2 H3 → Q ps H3) → tPairs trs σ H1 Q
section
variable {K : KV} {σ : Sg} {H H' : Hp} {D : KE} {ta tb tc tk tv : TE} {trs : List (TE × TE)} {Kp : List (V × V) → Hp → Prop} {rd : V → V → Hp → VK → Prop}
theorem wps_nil (h : Kp [] H) : WPs [] σ H Kp := fun H1 e Q q => q _ _ _ h e
theorem wps_cons (h : W tk σ H fun x H1 => W tv σ H1 fun y H2 => WPs trs σ H2 fun ps H3 => Kp ((x, y) :: ps) H3) : WPs ((tk, tv) :: trs) σ H Kp := fun H1 e Q q =>
  h H1 e _ fun x H2 H3 z e3 => z H3 e3 _ fun y H4 H5 z e5 => z H5 e5 _ fun ps H6 H7 z e7 => q _ _ _ z e7
theorem w_disp (h : ∀ p, H p = none → WPs trs σ (upd H p (.dK [])) fun ps H2 => H2 p = some (.dK []) ∧ ∃ kvs : List (Key × V), ps = kvs.map (fun kv => (kV kv.1, kv.2)) ∧ kvs.length ≤ 15 ∧ K (.ref p) (upd H2 p (.dK (mergeK [] kvs)))) : W (tDisp trs) σ H K := fun H1 e Q q p hp =>
  h p (ex_free e hp) _ (ex_upd e) _ fun ps H2 H3 z e3 => by
    obtain ⟨hp2, kvs, rfl, few, k⟩ := z
    exact ⟨e3 _ _ hp2, kvs, rfl, few, q _ _ _ k (ex_upd e3)⟩
theorem s_daug (h : W ta σ H fun x H1 => W tb σ H1 fun y H2 => ∃ (a : Addr) (kvs : List (Key × V)) (k : Key) (v : V), x = .ref a ∧ y = kV k ∧ H2 a = some (.dK kvs) ∧ valV kvs k = some v ∧ W tc σ H2 fun y2 H3 => WR rd v y2 H3 fun z H4 =>
    H4 a = some (.dK kvs) ∧ kvs.length < sizeLine ∧ D.nx σ (upd H4 a (.dK (putK kvs k z)))) : S (sDAug ta tb tc rd) D σ H := fun H1 e D1 l =>
  h H1 e _ fun x H2 H3 h2 e2 => h2 H3 e2 _ fun y H4 H5 h4 e4 => by
    obtain ⟨a, kvs, k, v, rfl, rfl, hd, hv, h5⟩ := h4
    refine ⟨a, v, rfl, hv ▸ DGet.k (e4 _ _ hd), h5 H5 e4 _ fun y2 H6 H7 h6 e6 => h6 H7 e6 _ fun z H8 H9 h8 e8 => ?_⟩
    obtain ⟨hd2, hz, n⟩ := h8
    exact ⟨_, DPut.k (e8 _ _ hd2) hz, l.nx _ _ _ n (ex_upd e8)⟩
end
/-! ### own errors -/
section
variable {Kf : PySem.W.Frag} {K : KV} {σ : Sg} {H H' : Hp} {te : TE} {ta : TA} {C : Addr}
theorem w_err (h : WA ta σ H fun vs H1 => ∃ v, vs = [v] ∧ VOk Kf H1 v ∧ ∀ a d, H1 a = none → H1 d = none → d ≠ a → K (.ref a) (errH H1 a C d v)) : W (tErr Kf C ta) σ H K := fun H1 e Q q =>
  h H1 e _ fun vs H2 H3 z e3 => by
    obtain ⟨v, rfl, o, k⟩ := z
    refine ⟨v, rfl, ?_, fun a d ha hd ne => q _ _ _ (k a d (ex_free e3 ha) (ex_free e3 hd) ne) (ex_upd (ex_upd e3))⟩
    rcases o with h | h | h | ⟨p, i, j, e1, e2, e4⟩
    · exact Or.inl h
    · exact Or.inr (Or.inl h)
    · exact Or.inr (Or.inr (Or.inl h))
    · exact Or.inr (Or.inr (Or.inr ⟨p, i, j, e1, Evl.ex_t e3 e2, e4⟩))
theorem exAt_up {a D : Addr} (e : Ex H H') (h : ExAt H a D) : ExAt H' a D := by
  rcases h with ⟨d, v, h1, h2⟩ | h
  · exact Or.inl ⟨d, v, e _ _ h1, e _ _ h2⟩
  · exact Or.inr (e _ _ h)
theorem c_isX {a D : Addr} {c : V} {cv : Value} {b : Bool} (ex : ExAt H a D) (own : ExcC Kf D) (hc : ∀ u, RelV c u → u = cv) (hk : PySem.W.kitOne Kf (.ref D) cv = some b) (k : K (.bl b) H) : WC (rIsX Kf) [.ref a, c] H K := fun H1 e Q q =>
  ⟨a, D, c, cv, b, rfl, exAt_up e ex, own, hc, hk, q _ _ _ k e⟩
theorem c_isXT {a D T : Addr} {cs : List Addr} (ex : ExAt H a D) (own : ExcC Kf D) (hT : H T = some (.tup (cs.map V.ref))) (no : ∀ c ∈ cs, PySem.W.kitOne Kf (.ref D) (.ref c) = some false) (k : K (.bl false) H) : WC (rIsXT Kf) [.ref a, .ref T] H K := fun H1 e Q q =>
  ⟨a, D, T, cs, rfl, exAt_up e ex, own, e _ _ hT, no, q _ _ _ k e⟩
theorem shown_up {v : V} {z : Str} (e : Ex H H') (h : ShownV Kf H v z) : ShownV Kf H' v z := by
  rcases h with h | h | h | ⟨a, d, h1, h2, h3⟩
  · exact Or.inl h
  · exact Or.inr (Or.inl h)
  · exact Or.inr (Or.inr (Or.inl h))
  · exact Or.inr (Or.inr (Or.inr ⟨a, d, h1, dp_up e h2, h3⟩))
theorem c_reprV {v : V} {z : Str} (h : ShownV Kf H v z) (k : K (.str z) H) : WC (rReprV Kf) [v] H K := fun H1 e Q q => ⟨v, z, rfl, shown_up e h, q _ _ _ k e⟩
theorem w_val (h : W te σ H fun x H1 => ∃ (a C d : Addr) (v : V), x = .ref a ∧ XfC Kf C ∧ PySem.W.findIn Kf (.ref C) "value" = some none ∧ H1 a = some (exo a C (some d)) ∧ H1 d = some (exd d [(("value" : Str), v)]) ∧ K v H1) : W (tVal Kf te) σ H K := fun H1 e Q q =>
  h H1 e _ fun x H2 H3 z e3 => by
    obtain ⟨a, C, d, v, rfl, t, no, h1, h2, k⟩ := z
    exact ⟨a, C, d, v, rfl, t, no, e3 _ _ h1, e3 _ _ h2, q _ _ _ k e3⟩
theorem w_exc0 (h : ∀ a, H a = none → K (.ref a) (upd H a (ExO (.ref C) a))) : W (tExc0 C) σ H K := fun H1 e Q q a ha => q _ _ _ (h a (ex_free e ha)) (ex_upd e)
/-- what stands apart from H in a heap that was grown out of it -/
theorem apart_of (e : Ex H H') : ∃ N, Apart H N ∧ H' = plus H N := by
  refine ⟨fun b => match H b with | some _ => none | none => H' b, fun b o h => ?_, ?_⟩
  · cases z : H b with
    | none => rfl
    | some u =>
      have h2 : (match H b with | some _ => none | none => H' b) = some o := h
      rw [z] at h2
      cases h2
  · funext b
    unfold plus
    cases z : H b with
    | none =>
      show H' b = (match H b with | some _ => none | none => H' b)
      rw [z]
    | some u => exact e _ _ z
end
end Mb

namespace Mb
open PySem PyProof.Rows L2
def topS (i : Nat) : Stmt := PySem.Challenge.pw_wordorder_k01_errors_and_their_values.main.body.getD i (.Pass ⟨0, 0, 0, 0⟩)
abbrev s_InvalidTable___init__ : Stmt := inClass (topS 2) 0
abbrev N_InvalidTable___init__ : List Str := ["self", "value"]

abbrev s_InvalidNumber___init__ : Stmt := inClass (topS 3) 0
abbrev N_InvalidNumber___init__ : List Str := ["self", "value"]

abbrev s_InvalidWords___init__ : Stmt := inClass (topS 4) 0
abbrev N_InvalidWords___init__ : List Str := ["self", "value"]

abbrev s_InvalidRange___init__ : Stmt := inClass (topS 5) 0
abbrev N_InvalidRange___init__ : List Str := ["self", "value"]

abbrev s_NothingToUndo___init__ : Stmt := inClass (topS 6) 0
abbrev N_NothingToUndo___init__ : List Str := ["self", "value"]

abbrev s_Unreadable___init__ : Stmt := inClass (topS 7) 0
abbrev N_Unreadable___init__ : List Str := ["self", "value"]

abbrev s_law_bag : Stmt := topS 9
abbrev N_law_bag : List Str := ["script", "blend", "great", "cell"]
theorem sc_law_bag : FnScope N_law_bag ["script"] (defScope s_law_bag) := ⟨rfl, rfl, rfl, by decide +kernel, rfl, by decide +kernel, by decide +kernel⟩

abbrev s_law_draw : Stmt := topS 10
abbrev N_law_draw : List Str := ["bag", "many", "drawn", "turn", "mixed"]
theorem sc_law_draw : FnScope N_law_draw ["bag", "many"] (defScope s_law_draw) := ⟨rfl, rfl, rfl, by decide +kernel, rfl, by decide +kernel, by decide +kernel⟩

abbrev s_law_made : Stmt := topS 11
abbrev N_law_made : List Str := ["which", "held"]
theorem sc_law_made : FnScope N_law_made ["which", "held"] (defScope s_law_made) := ⟨rfl, rfl, rfl, by decide +kernel, rfl, by decide +kernel, by decide +kernel⟩

abbrev s_law_flags : Stmt := topS 12
abbrev N_law_flags : List Str := ["one", "found"]
theorem sc_law_flags : FnScope N_law_flags ["one"] (defScope s_law_flags) := ⟨rfl, rfl, rfl, by decide +kernel, rfl, by decide +kernel, by decide +kernel⟩

abbrev s_law : Stmt := topS 13
abbrev N_law : List Str := ["script", "bag", "turn", "some", "which", "held", "one", "spot_now"]
theorem sc_law : FnScope N_law ["script"] (defScope s_law) := ⟨rfl, rfl, rfl, by decide +kernel, rfl, by decide +kernel, by decide +kernel⟩

end Mb

section
open PySem PyProof.Rows L2 Mb
local macro_rules | `(tactic| walk_at "sz") => `(tactic| first | decide | (simp only [List.length_cons, List.length_nil, List.length_map]; decide) | exact (by decide : (4:Nat) ≤ sizeLine) | exact (by decide : (3:Nat) ≤ sizeLine) | exact (by decide : (2:Nat) ≤ sizeLine) | exact (by decide : (1:Nat) ≤ sizeLine) | exact (by decide : (9:Nat) ≤ sizeLine) | exact (by decide : (8:Nat) ≤ sizeLine) | (show _ ≤ sizeLine; rw [sizeLine_eq]; omega) | (rw [sizeLine_eq]; simp; omega))
local macro_rules | `(tactic| walk_at "sq") => `(tactic| first | assumption | exact sl_same | exact st_same | (refine sl_new (by assumption) ?_; walk_at "sq") | (refine st_new (by assumption) ?_; walk_at "sq") | exact Or.inl (Or.inl (by walk_at "hp")))
local macro_rules | `(tactic| walk_at "hp") => `(tactic| first | assumption | exact upd_same | (refine up_new (by assumption) ?_; walk_at "hp") | (refine up_ne (by assumption) ?_; walk_at "hp") | (refine up_ne (Ne.symm (by assumption)) ?_; walk_at "hp"))
local macro_rules | `(tactic| walk_at "sd") => `(tactic| first | assumption | decide | omega | (rw [sizeLine_eq]; omega) | (refine Or.inl ⟨?_, ?_⟩ <;> omega) | (refine Or.inr ⟨?_, ?_⟩ <;> omega) | (refine ⟨?_, ?_⟩ <;> omega))
local macro_rules | `(tactic| walk_at "g1") => `(tactic| first
  | ((with_reducible apply w_var); exact rfl)
  | with_reducible apply w_c
  | with_reducible apply w_op
  | with_reducible apply w_un
  | with_reducible apply w_cb
  | with_reducible apply w_call
  | with_reducible apply w_callW
  | with_reducible apply wa_nil
  | with_reducible apply wa_cons
  | with_reducible apply wa_star
  | with_reducible apply wt_test
  | with_reducible apply wt_b
  | with_reducible apply wt_yes
  | with_reducible apply wt_not
  | with_reducible apply wt_and
  | with_reducible apply wt_or
  | with_reducible apply w_if
  | with_reducible apply w_andV
  | with_reducible apply w_orV
  | with_reducible apply w_notV
  | with_reducible apply w_isN
  | with_reducible apply w_chain
  | with_reducible apply w_sl
  | with_reducible apply wo_none
  | with_reducible apply wo_some
  | with_reducible apply w_tup
  | with_reducible apply w_lst
  | with_reducible apply w_dnew
  | with_reducible apply s_seq
  | with_reducible apply s_next
  | with_reducible apply s_brk
  | with_reducible apply s_cont
  | with_reducible apply s_drop
  | with_reducible apply s_ret
  | with_reducible apply s_retN
  | with_reducible apply s_if
  | with_reducible apply s_asg
  | with_reducible apply s_par
  | ((with_reducible apply s_aug); exact rfl)
  | with_reducible apply g_name
  | with_reducible apply gs_nil
  | with_reducible apply gs_cons
  | with_reducible apply r_I0
  | ((with_reducible apply r_I); (show _; walk_at "sd"))
  | with_reducible apply r_ip
  | with_reducible apply r_U
  | ((with_reducible apply r_eq); exact rfl)
  | ((with_reducible apply r_ne); exact rfl)
  | with_reducible apply r_isN2
  | with_reducible apply r_notN2
  | with_reducible apply r_inZ
  | with_reducible apply r_notInZ
  | ((with_reducible apply r_ixT); (walk_at "sq"); (exact rfl))
  | ((with_reducible apply r_ixL); (walk_at "sq"); (exact rfl))
  | ((with_reducible apply c_lenL); (walk_at "sq"))
  | ((with_reducible apply c_lenT); (walk_at "sq"))
  | ((with_reducible apply c_lenZ); (walk_at "sd"))
  | ((with_reducible apply c_divm); (walk_at "sd"); (walk_at "sd"))
  | with_reducible apply c_max2
  | with_reducible apply c_min2
  | with_reducible apply c_abs
  | with_reducible apply c_intI
  | with_reducible apply c_intB
  | with_reducible apply w_din
  | with_reducible apply w_dnin
  | with_reducible apply w_dget
  | with_reducible apply s_dput
  | (with_reducible apply w_bm (tyE := tyV_ext))
  | (with_reducible apply w_bm0 (tyE := tyV_ext))
  | with_reducible apply w_m1
  | with_reducible apply w_m0
  | (with_reducible refine (⟨_, rfl, ?_⟩ : ∃ k, V.bl _ = V.bl k ∧ _))
  | (with_reducible refine (⟨_, rfl, ?_⟩ : ∃ k, V.int _ = V.int k ∧ _))
  | (with_reducible refine (⟨⟨_, rfl⟩, ?_⟩ : (∃ a, V.str _ = V.str a) ∧ _))
  | ((with_reducible apply ite_t); exact rfl)
  | ((with_reducible apply ite_f); exact rfl))
local macro_rules | `(tactic| walk_at "go") => `(tactic| repeat walk_at "g1")
local macro_rules | `(tactic| walk_at "g1") => `(tactic| first
  | with_reducible apply w_disp
  | with_reducible apply wps_nil
  | with_reducible apply wps_cons
  | with_reducible apply s_daug
  | with_reducible apply w_err
  | with_reducible apply w_val
  | with_reducible apply w_exc0)


namespace Mb
open PySem PyProof.Rows L2
open Evl (Ex)
/-! ### the law's bag of draws -/
theorem map_get {α β : Type} {f : α → β} {xs : List α} {i : Nat} {y : β} (h : (xs.map f)[i]? = some y) : ∃ x, xs[i]? = some x ∧ y = f x := by
  rw [List.getElem?_map] at h
  obtain ⟨x, hx, rfl⟩ := Option.map_eq_some_iff.mp h
  exact ⟨x, hx, rfl⟩
theorem ite_via {b : Bool} {ta tb : TS} {D : KE} {σ : Sg} {H : Hp} (M : Sg → Hp → Prop) (h1 : b = true → S ta ⟨M, D.rt, D.bk, D.ct⟩ σ H) (h2 : b = false → S tb ⟨M, D.rt, D.bk, D.ct⟩ σ H) (k : ∀ σ H, M σ H → D.nx σ H) : if b = true then S ta D σ H else S tb D σ H := by
  cases b
  · rw [if_neg Bool.false_ne_true]
    exact (h2 rfl).mono k (fun _ _ z => z) (fun _ _ z => z) (fun _ _ z => z)
  · rw [if_pos rfl]
    exact (h1 rfl).mono k (fun _ _ z => z) (fun _ _ z => z) (fun _ _ z => z)
structure Bst where
  ds : List Int
  left : Int
  turn : Int
  blend : Int
structure Bst.Ok (B : Int) (s : Bst) : Prop where
  b0 : 0 ≤ s.blend
  b1 : s.blend < 2305843009213693951
  t0 : 0 ≤ s.turn
  t1 : s.turn ≤ B
theorem Bst.Ok.mono {B B' : Int} {s : Bst} (h : s.Ok B) (e : B ≤ B') : s.Ok B' := ⟨h.b0, h.b1, h.t0, Int.le_trans h.t1 e⟩
def bagK (gr : Addr) (s : Bst) : List (Key × V) := [(.inr "great", .ref gr), (.inr "left", .int s.left), (.inr "turn", .int s.turn), (.inr "blend", .int s.blend)]
section
variable {gr : Addr} {s : Bst} {z : Int}
theorem key_ne {a b : Str} (h : a ≠ b) : ¬ ((Sum.inr a : Key) = Sum.inr b) := fun e => h (by injection e)
theorem k_gl : ("great" : Str) ≠ "left" := by decide +kernel
theorem k_gt : ("great" : Str) ≠ "turn" := by decide +kernel
theorem k_gb : ("great" : Str) ≠ "blend" := by decide +kernel
theorem k_lt : ("left" : Str) ≠ "turn" := by decide +kernel
theorem k_lb : ("left" : Str) ≠ "blend" := by decide +kernel
theorem k_tb : ("turn" : Str) ≠ "blend" := by decide +kernel
theorem v_great : valV (bagK gr s) (Sum.inr "great") = some (.ref gr) := valV_pos rfl
theorem v_left : valV (bagK gr s) (Sum.inr "left") = some (.int s.left) := (valV_neg (key_ne k_gl)).trans (valV_pos rfl)
theorem v_turn : valV (bagK gr s) (Sum.inr "turn") = some (.int s.turn) := (valV_neg (key_ne k_gt)).trans ((valV_neg (key_ne k_lt)).trans (valV_pos rfl))
theorem v_blend : valV (bagK gr s) (Sum.inr "blend") = some (.int s.blend) := (valV_neg (key_ne k_gb)).trans ((valV_neg (key_ne k_lb)).trans ((valV_neg (key_ne k_tb)).trans (valV_pos rfl)))
theorem p_left : putK (bagK gr s) (Sum.inr "left") (.int z) = bagK gr { s with left := z } := by
  unfold putK bagK
  simp [k_gl, k_lt.symm, k_lb.symm]
theorem p_turn : putK (bagK gr s) (Sum.inr "turn") (.int z) = bagK gr { s with turn := z } := by
  unfold putK bagK
  simp [k_gt, k_lt, k_tb.symm]
theorem merge_bag : mergeK [] (bagK gr s) = bagK gr s := by
  unfold mergeK bagK
  simp [putK, k_gl, k_gt, k_gb, k_lt, k_lb, k_tb]
end
def BagH (H : Hp) (b gr : Addr) (s : Bst) : Hp := upd (upd H gr (.lst (s.ds.map V.int))) b (.dK (bagK gr s))
theorem bag_b {H : Hp} {b gr : Addr} {s : Bst} : BagH H b gr s b = some (.dK (bagK gr s)) := upd_same
theorem bag_gr {H : Hp} {b gr : Addr} {s : Bst} (h : b ≠ gr) : BagH H b gr s gr = some (.lst (s.ds.map V.int)) := up_ne h.symm upd_same
theorem bag_ex {H : Hp} {b gr : Addr} {s : Bst} (hb : H b = none) (hg : H gr = none) : Ex H (BagH H b gr s) := ex_mut (ex_mut Ex.rf hg) hb
theorem bag_free {H : Hp} {b gr q : Addr} {s : Bst} (h : BagH H b gr s q = none) : H q = none ∧ q ≠ b ∧ q ≠ gr := by
  obtain ⟨h1, h2⟩ := free_of h
  obtain ⟨h3, h4⟩ := free_of h1
  exact ⟨h3, h2, h4⟩
theorem bag_push {H : Hp} {b gr q : Addr} {s : Bst} {o : HO} (h1 : q ≠ b) (h2 : q ≠ gr) : upd (BagH H b gr s) q o = BagH (upd H q o) b gr s := by
  unfold BagH
  rw [upd_comm h1.symm, upd_comm h2.symm]
theorem bag_plus {H N : Hp} {b gr : Addr} {s : Bst} : plus (BagH H b gr s) N = BagH (plus H N) b gr s := by
  unfold BagH
  rw [plus_upd, plus_upd]
theorem bag_up {H H' : Hp} {b gr : Addr} {s : Bst} (e : Ex H H') : Ex (BagH H b gr s) (BagH H' b gr s) := ex_upd (ex_upd e)
theorem bag_get {H : Hp} {b gr q : Addr} {s : Bst} {o : HO} (h1 : q ≠ b) (h2 : q ≠ gr) (h : H q = some o) : BagH H b gr s q = some o := by
  unfold BagH
  rw [upd_ne h1, upd_ne h2, h]
structure BesideB (H : Hp) (b gr : Addr) : Prop where
  nb : H b = none
  ng : H gr = none
  ne : b ≠ gr
theorem BesideB.upd {H : Hp} {b gr q : Addr} {o : HO} (x : BesideB H b gr) (h1 : q ≠ b) (h2 : q ≠ gr) : BesideB (upd H q o) b gr := ⟨up_free h1.symm x.nb, up_free h2.symm x.ng, x.ne⟩
section
variable {P : Program} {w : World} {K : PySem.W.Frag} {mg : Str → Option Value} {base : Heap} {cc : Addr}
abbrev CalF (P : Program) (w : World) (K : PySem.W.Frag) (mg : Str → Option Value) (base : Heap) := Cal P w K mg base CX0
abbrev Sp_law_bag (K : PySem.W.Frag) : Sp := Pr (fun (x : Addr × List Int) vs H => vs = [.ref x.1] ∧ SqL K H x.1 (x.2.map V.int) ∧ x.2.length ≤ 63) (fun x H v H' => ∃ b gr s, v = .ref b ∧ BesideB H b gr ∧ s.Ok 0 ∧ H' = BagH H b gr s)
theorem ok_law_bag {f : Addr} {fd : FuncData} (F : Fun K "_law_bag" "_law_bag" s_law_bag f fd) (T : Bi mg) : FnOk P w K mg base CX0 1 f fd ["script"] (Sp_law_bag K) := by
  refine okP F sc_law_bag (fun x vs H h => ?_) (fun cdv A outer s H E x vs H0 hr h => ?_)
  · rw [h.1]
    rfl
  · obtain ⟨a, ns⟩ := x
    obtain ⟨rfl, hS, hl⟩ := h
    dsimp only at *
    refine ⟨_, (pss_cons (ps_par (i := 1) (j := 2) rfl sc_law_bag.nd rfl rfl (by decide) rfl rfl (pa_cons pe_int (pa_cons (pe_lst pa_nil) pa_nil)) rfl)
      (pss_cons (ps_for PassesOwn.never rfl (pi_list (pv 0)) (pg_name (i := 3) sc_law_bag.nd rfl (Or.inl rfl))
      (pss_cons (ps_set (i := 1) sc_law_bag.nd rfl (Or.inl rfl) (pe_op op_mod (pe_op op_add (pe_op op_mul (pv 1) pe_int) (pv 3)) pe_int))
      (pss_one (ps_if (pt_cmpR op_ge (pe_callB cr_abs (by rfl) T.abs_ boot_abs (pa_cons (pv 3) pa_nil)) (pe_op op_pow pe_int pe_int) (nomark _))
      (pss_one (ps_expr (pe_bm PySem.F.plainAttrs_list PySem.F.slot_list_append PySem.F.type_list_append mt_append (pv 2) (pa_cons (pe_callB cr_abs (by rfl) T.abs_ boot_abs (pa_cons (pv 3) pa_nil)) pa_nil))))
      pss_nil))))
      (pss_one (ps_ret (pe_disp (pps_cons pe_str (pv 2) (pps_cons pe_str pe_int (pps_cons pe_str pe_int (pps_cons pe_str (pv 1) pps_nil)))) (by rfl) (by rfl) (fun z => by cases z) (by decide)))))), ?_⟩
    try dsimp only [cxOf]
    walk_at "go"
    refine ⟨by walk_at "sz", fun dg nd => ?_⟩
    walk_at "go"
    refine ⟨_, _, rfl, ?_⟩
    walk_at "go"
    refine s_forL ?_
    walk_at "go"
    refine ⟨a, ns.map V.int, fun i σ' H' => ∃ (mix : Int) (ds : List Int) (z3 : Option V), σ' = [some (.ref a), some (.int mix), some (.ref dg), z3] ∧ 0 ≤ mix ∧ mix < 2305843009213693951 ∧ ds.length ≤ i ∧ H' = upd H0 dg (.lst (ds.map V.int)), rfl, sl_new nd hS, ⟨_, [], none, rfl, by decide, by decide, Nat.le_refl _, rfl⟩, fun i σ' H' hi h => ?_, fun i x σ' H' hi h => ?_, fun σ' H' h => ?_⟩
    · obtain ⟨mix, ds, z3, rfl, m0, m1, hd, rfl⟩ := h
      exact sl_new nd hS
    · obtain ⟨mix, ds, z3, rfl, m0, m1, hd, rfl⟩ := h
      obtain ⟨c, hc, rfl⟩ := map_get hi
      have hi63 : i < 63 := Nat.lt_of_lt_of_le (List.getElem?_eq_some_iff.mp hc).1 hl
      have k0 : 0 ≤ (mix * 1000003 + c) % 2305843009213693951 := Int.emod_nonneg _ (by decide)
      have k1 : (mix * 1000003 + c) % 2305843009213693951 < 2305843009213693951 := Int.emod_lt_of_pos _ (by decide)
      walk_at "go"
      refine ite2 (fun z => ?_) (fun z => ?_)
      · walk_at "go"
        refine ⟨Or.inl ⟨rfl, _, sl_same⟩, ?_⟩
        walk_at "go"
        refine m_append upd_same ?_ ?_
        · rw [List.length_map, sizeLine_eq]; omega
        rw [upd_upd]
        refine ⟨_, ⟨_, ds ++ [if c < 0 then -c else c], _, rfl, k0, k1, ?_, rfl⟩, ?_⟩
        · rw [List.length_append, List.length_singleton]; omega
        · rw [List.map_append]
          exact Ex.rf
      · walk_at "go"
        exact ⟨_, ⟨_, ds, _, rfl, k0, k1, by omega, rfl⟩, Ex.rf⟩
    · obtain ⟨mix, ds, z3, rfl, m0, m1, hd, rfl⟩ := h
      walk_at "go"
      intro b nb
      walk_at "go"
      obtain ⟨nb0, nbd⟩ := free_of nb
      refine ⟨upd_same, bagK dg ⟨ds, 0, 0, mix⟩, rfl, by show 4 ≤ 15; decide, ?_⟩
      rw [merge_bag, upd_upd]
      exact ⟨_, ⟨b, dg, ⟨ds, 0, 0, mix⟩, rfl, ⟨nb0, nd, nbd⟩, ⟨m0, m1, Int.le_refl _, Int.le_refl _⟩, rfl⟩, Ex.rf⟩
structure DrawA where
  b : Addr
  gr : Addr
  s : Bst
  H0 : Hp
  n : Int
  B : Int
abbrev Sp_law_draw : Sp := Pr (fun (x : DrawA) vs H => vs = [.ref x.b, .int x.n] ∧ Ex (BagH x.H0 x.b x.gr x.s) H ∧ BesideB x.H0 x.b x.gr ∧ x.s.Ok x.B ∧ x.B ≤ 1000000 ∧ 0 < x.n ∧ x.n.natAbs.log2 < 9000) (fun x _ v H' => ∃ (z : Int) (s : Bst), v = .int z ∧ 0 ≤ z ∧ z < x.n ∧ s.Ok (x.B + 1) ∧ H' = BagH x.H0 x.b x.gr s)
theorem ok_law_draw {f : Addr} {fd : FuncData} (F : Fun K "_law_draw" "_law_draw" s_law_draw f fd) (T : Bi mg) : FnOk P w K mg base CX0 1 f fd ["bag", "many"] Sp_law_draw := by
  refine okP F sc_law_draw (fun x vs H h => ?_) (fun cdv A outer s H E x vs H0 hr h => ?_)
  · rw [h.1]
    rfl
  · obtain ⟨b, gr, st, Hb, n, B⟩ := x
    obtain ⟨rfl, ex, bs, ok, hB, hn, hn2⟩ := h
    dsimp only at *
    refine ⟨_, (pss_cons (ps_if (PW.pt (pw_and (pt_cmpR op_lt (pe_dget (hu_of hr) (pv 0) pe_str (fun _ _ => rfl)) (pv 1) (nomark _)) (pw_and1 (pt_cmpR op_gt (pe_callB cr_lenS (by rfl) T.len_ boot_len (pa_cons (pe_dget (hu_of hr) (pv 0) pe_str (fun _ _ => rfl)) pa_nil)) pe_int (nomark _)))))
      (pss_one (ps_dput (hu_of hr) (pv 0) pe_str (pe_bm PySem.F.plainAttrs_list PySem.F.slot_list_pop PySem.F.type_list_pop mt_popAt (pe_dget (hu_of hr) (pv 0) pe_str (fun _ _ => rfl)) (pa_cons pe_int pa_nil)) rfl))
      pss_nil)
      (pss_cons (ps_if (pt_cmpR op_ge (pe_dget (hu_of hr) (pv 0) pe_str (fun _ _ => rfl)) (pv 1) (nomark _))
      (pss_cons (ps_set (i := 2) sc_law_draw.nd rfl (Or.inl rfl) (pe_op op_mod (pe_dget (hu_of hr) (pv 0) pe_str (fun _ _ => rfl)) (pv 1)))
      (pss_cons (ps_dput (hu_of hr) (pv 0) pe_str (pe_op op_fdivW (pe_dget (hu_of hr) (pv 0) pe_str (fun _ _ => rfl)) (pv 1)) rfl)
      (pss_one (ps_ret (pv 2)))))
      pss_nil)
      (pss_cons (ps_daug (hu_of hr) (pv 0) pe_str pe_int ip_add (fun _ _ _ => rfl))
      (pss_cons (ps_set (i := 3) sc_law_draw.nd rfl (Or.inl rfl) (pe_dget (hu_of hr) (pv 0) pe_str (fun _ _ => rfl)))
      (pss_cons (ps_set (i := 4) sc_law_draw.nd rfl (Or.inl rfl) (pe_op op_add (pe_op op_mul (pe_op op_add (pe_dget (hu_of hr) (pv 0) pe_str (fun _ _ => rfl)) (pe_op op_mul pe_int (pv 3))) (pe_op op_pow (pe_op op_add (pv 3) pe_int) pe_int)) (pe_op op_mul pe_int (pv 3))))
      (pss_one (ps_ret (pe_op op_mod (pe_op op_fdivW (pe_op op_mod (pe_op op_pow (pe_op op_mod (pv 4) pe_int) pe_int) (pe_op op_add (pe_op op_pow pe_int pe_int) pe_int)) pe_int) (pv 1))))))))), S.ext ex ?_⟩
    try dsimp only [cxOf]
    refine s_seq ?_
    refine S.mono (D := ⟨fun σ' H' => ∃ s' : Bst, σ' = [some (.ref b), some (.int n), none, none, none] ∧ s'.Ok B ∧ H' = BagH Hb b gr s', _, _, _⟩) ?_ (fun σ' H' z => ?_) (fun _ _ z => z) (fun _ _ z => z) (fun _ _ z => z)
    · walk_at "go"
      refine ⟨b, bagK gr st, Sum.inr "left", _, rfl, bag_b, rfl, v_left, ?_⟩
      walk_at "go"
      have no : ∃ s' : Bst, L2.start N_law_draw [V.ref b, V.int n] = [some (.ref b), some (.int n), none, none, none] ∧ s'.Ok B ∧ BagH Hb b gr st = BagH Hb b gr s' := ⟨st, rfl, ok, rfl⟩
      refine ite2 (fun z => ?_) (fun z => ?_)
      · walk_at "go"
        refine ⟨b, bagK gr st, Sum.inr "great", _, rfl, bag_b, rfl, v_great, ?_⟩
        walk_at "go"
        refine c_lenL (Or.inl (Or.inl (bag_gr bs.ne))) ?_
        walk_at "go"
        refine ite2 (fun z2 => ?_) (fun z2 => ?_)
        · obtain ⟨ds, left, turn, blend⟩ := st
          cases ds with
          | nil => cases z2
          | cons d r =>
            dsimp only at *
            walk_at "go"
            refine ⟨b, bagK gr ⟨d :: r, left, turn, blend⟩, Sum.inr "great", _, rfl, bag_b, rfl, v_great, ?_⟩
            refine ⟨Or.inl ⟨rfl, _, Or.inl (Or.inl (bag_gr bs.ne))⟩, ?_⟩
            walk_at "go"
            refine m_popAt (bag_gr bs.ne) (by decide) (by decide) (j := 0) (by simp [seqIndex?]) rfl ?_
            have e1 : upd (BagH Hb b gr ⟨d :: r, left, turn, blend⟩) gr (.lst (((d :: r).map V.int).eraseIdx 0)) = upd (upd Hb gr (.lst (r.map V.int))) b (.dK (bagK gr ⟨d :: r, left, turn, blend⟩)) := by
              unfold BagH
              rw [upd_comm bs.ne, upd_upd]
              rfl
            rw [e1]
            walk_at "go"
            refine ⟨b, bagK gr ⟨d :: r, left, turn, blend⟩, Sum.inr "left", rfl, upd_same, rfl, by show 4 < 16777216; decide, ?_⟩
            rw [p_left, upd_upd]
            exact ⟨⟨r, d, turn, blend⟩, rfl, ⟨ok.b0, ok.b1, ok.t0, ok.t1⟩, rfl⟩
        · exact s_next no
      · exact ite_f (by rfl) (s_next no)
    obtain ⟨s', rfl, ok', rfl⟩ := z
    walk_at "go"
    refine ⟨b, bagK gr s', Sum.inr "left", _, rfl, bag_b, rfl, v_left, ?_⟩
    walk_at "go"
    refine ite2 (fun z => ?_) (fun z => ?_)
    · walk_at "go"
      refine ⟨b, bagK gr s', Sum.inr "left", _, rfl, bag_b, rfl, v_left, ?_⟩
      walk_at "go"
      refine ⟨b, bagK gr s', Sum.inr "left", _, rfl, bag_b, rfl, v_left, ?_⟩
      walk_at "go"
      refine ⟨b, bagK gr s', Sum.inr "left", rfl, bag_b, rfl, by show 4 < 16777216; decide, ?_⟩
      rw [p_left]
      have e2 : upd (BagH Hb b gr s') b (.dK (bagK gr { s' with left := s'.left / n })) = BagH Hb b gr { s' with left := s'.left / n } := upd_upd
      rw [e2]
      walk_at "go"
      exact ⟨_, ⟨_, { s' with left := s'.left / n }, rfl, Int.emod_nonneg _ (by omega), Int.emod_lt_of_pos _ hn, ⟨ok'.b0, ok'.b1, ok'.t0, by have := ok'.t1; show s'.turn ≤ B + 1; omega⟩, rfl⟩, Ex.rf⟩
    · walk_at "go"
      refine ⟨b, bagK gr s', Sum.inr "turn", _, rfl, rfl, bag_b, v_turn, ?_⟩
      walk_at "go"
      refine ⟨bag_b, by show 4 < 16777216; decide, ?_⟩
      rw [p_turn]
      have e2 : upd (BagH Hb b gr s') b (.dK (bagK gr { s' with turn := s'.turn + 1 })) = BagH Hb b gr { s' with turn := s'.turn + 1 } := upd_upd
      rw [e2]
      have t0 := ok'.t0
      have t1 := ok'.t1
      have b0 := ok'.b0
      have b1 := ok'.b1
      walk_at "go"
      refine ⟨b, _, Sum.inr "turn", _, rfl, bag_b, rfl, v_turn, ?_⟩
      walk_at "go"
      refine ⟨b, _, Sum.inr "blend", _, rfl, bag_b, rfl, v_blend, ?_⟩
      walk_at "go"
      dsimp only
      walk_at "go"
      generalize hy : ((s'.blend + 17 * (s'.turn + 1)) * (s'.turn + 1 + 29) ^ Int.toNat 2 + 7919 * (s'.turn + 1)) % 2305843009213693951 = y
      have y0 : 0 ≤ y := by rw [← hy]; exact Int.emod_nonneg _ (by decide)
      have y1 : y < 2305843009213693951 := by rw [← hy]; exact Int.emod_lt_of_pos _ (by decide)
      refine r_I (C := CDivW) ?_ ?_
      · exact ⟨by decide, by decide⟩
      walk_at "go"
      exact ⟨_, ⟨_, { s' with turn := s'.turn + 1 }, rfl, Int.emod_nonneg _ (by omega), Int.emod_lt_of_pos _ hn, ⟨b0, b1, by show 0 ≤ s'.turn + 1; omega, by show s'.turn + 1 ≤ B + 1; omega⟩, rfl⟩, Ex.rf⟩
end
end Mb



namespace Mb
open PySem PyProof.Rows L2
open Evl (Ex)
/-- the six error classes -/
def cls6 (c0 c1 c2 c3 c4 c5 : Addr) : Nat → Addr
  | 0 => c0
  | 1 => c1
  | 2 => c2
  | 3 => c3
  | 4 => c4
  | _ => c5
/-- an error of the class at C that holds v -/
def ErrV (H : Hp) (e C : Addr) (v : V) : Prop := ∃ d, H e = some (exo e C (some d)) ∧ H d = some (exd d [(("value" : Str), v)])
theorem ErrV.up {H H' : Hp} {e C : Addr} {v : V} (x : Ex H H') (h : ErrV H e C v) : ErrV H' e C v := by
  obtain ⟨d, h1, h2⟩ := h
  exact ⟨d, x _ _ h1, x _ _ h2⟩
theorem errV_new {H : Hp} {e C d : Addr} {v : V} (ne : d ≠ e) : ErrV (errH H e C d v) e C v := ⟨d, upd_same, up_ne ne upd_same⟩
theorem err_ex {H : Hp} {e C d : Addr} {v : V} (he : H e = none) (hd : H d = none) : Ex H (errH H e C d v) := ex_mut (ex_mut Ex.rf hd) he
/-- what the text says of the six and of their base -/
structure ErrK (K : PySem.W.Frag) (Cs : Nat → Addr) (CO : Addr) : Prop where
  own : ∀ i, i < 6 → ExcC K (Cs i)
  ownO : ExcC K CO
  xf : ∀ i, i < 6 → XfC K (Cs i)
  noV : ∀ i, i < 6 → PySem.W.findIn K (.ref (Cs i)) "value" = some none
  kit : ∀ i j, i < 6 → j < 6 → PySem.W.kitOne K (.ref (Cs i)) (.ref (Cs j)) = some (decide (i = j))
  kitO : ∀ i, i < 6 → PySem.W.kitOne K (.ref (Cs i)) (.ref CO) = some true
  kitV : ∀ i, i < 6 → PySem.W.kitOne K (.ref (Cs i)) (.type "ValueError") = some true
  kitN : ∀ i, i < 6 → PySem.W.kitOne K (.ref CO) (.ref (Cs i)) = some false
theorem vok_up {K : PySem.W.Frag} {H H' : Hp} {v : V} (e : Ex H H') (h : VOk K H v) : VOk K H' v := by
  rcases h with h | h | h | ⟨p, i, j, e1, e2, e4⟩
  · exact Or.inl h
  · exact Or.inr (Or.inl h)
  · exact Or.inr (Or.inr (Or.inl h))
  · exact Or.inr (Or.inr (Or.inr ⟨p, i, j, e1, Evl.ex_t e e2, e4⟩))
section
variable {P : Program} {w : World} {K : PySem.W.Frag} {mg : Str → Option Value} {base : Heap} {C_InvalidTable C_InvalidNumber C_InvalidWords C_InvalidRange C_NothingToUndo C_Unreadable C_OrderError f0 f1 f2 f3 f4 f5 : Addr} {J0 J1 J2 J3 J4 J5 : Expr}
structure MadeA where
  i : Nat
  v : V
abbrev Sp_law_made (K : PySem.W.Frag) (Cs : Nat → Addr) : Sp := Pr (fun (x : MadeA) vs H => vs = [.int x.i, x.v] ∧ x.i < 6 ∧ VOk K H x.v) (fun x H v H' => Ex H H' ∧ ∃ p e1 e2, v = .ref p ∧ H' p = some (.lst [.ref e1, .ref e2]) ∧ ErrV H' e1 (Cs x.i) x.v ∧ ErrV H' e2 (Cs x.i) x.v)
theorem ok_law_made {f : Addr} {fd : FuncData} (F : Fun K "_law_made" "_law_made" s_law_made f fd) (T : Bi mg)
    (e_InvalidTable : PySem.ErrX.ErrTxt P K mg "InvalidTable" C_InvalidTable f0 J0) (e_InvalidNumber : PySem.ErrX.ErrTxt P K mg "InvalidNumber" C_InvalidNumber f1 J1) (e_InvalidWords : PySem.ErrX.ErrTxt P K mg "InvalidWords" C_InvalidWords f2 J2)
    (e_InvalidRange : PySem.ErrX.ErrTxt P K mg "InvalidRange" C_InvalidRange f3 J3) (e_NothingToUndo : PySem.ErrX.ErrTxt P K mg "NothingToUndo" C_NothingToUndo f4 J4) (e_Unreadable : PySem.ErrX.ErrTxt P K mg "Unreadable" C_Unreadable f5 J5)
    (jf_InvalidTable : JF J0) (jf_InvalidNumber : JF J1) (jf_InvalidWords : JF J2) (jf_InvalidRange : JF J3) (jf_NothingToUndo : JF J4) (jf_Unreadable : JF J5) :
    FnOk P w K mg base CX0 3 f fd ["which", "held"] (Sp_law_made K (cls6 C_InvalidTable C_InvalidNumber C_InvalidWords C_InvalidRange C_NothingToUndo C_Unreadable)) := by
  refine okP F sc_law_made (fun x vs H h => ?_) (fun cdv A outer s H E x vs H0 hr h => ?_)
  · rw [h.1]
    rfl
  · obtain ⟨i, v⟩ := x
    obtain ⟨rfl, hi, ho⟩ := h
    dsimp only at *
    refine ⟨_, (pss_cons (ps_if (pt_cmpR op_eq (pv 0) pe_int (nomark _))
      (pss_one (ps_ret (pe_lst (pa_cons (pe_err (k := 1) e_InvalidTable jf_InvalidTable (hr.mono (by decide)) (by rfl) (pa_cons (pv 1) pa_nil)) (pa_cons (pe_errK (k := 1) e_InvalidTable jf_InvalidTable (hr.mono (by decide)) (by rfl) (pk_cons (pv 1) pk_nil)) pa_nil)))))
      pss_nil)
      (pss_cons (ps_if (pt_cmpR op_eq (pv 0) pe_int (nomark _))
      (pss_one (ps_ret (pe_lst (pa_cons (pe_err (k := 1) e_InvalidNumber jf_InvalidNumber (hr.mono (by decide)) (by rfl) (pa_cons (pv 1) pa_nil)) (pa_cons (pe_errK (k := 1) e_InvalidNumber jf_InvalidNumber (hr.mono (by decide)) (by rfl) (pk_cons (pv 1) pk_nil)) pa_nil)))))
      pss_nil)
      (pss_cons (ps_if (pt_cmpR op_eq (pv 0) pe_int (nomark _))
      (pss_one (ps_ret (pe_lst (pa_cons (pe_err (k := 1) e_InvalidWords jf_InvalidWords (hr.mono (by decide)) (by rfl) (pa_cons (pv 1) pa_nil)) (pa_cons (pe_errK (k := 1) e_InvalidWords jf_InvalidWords (hr.mono (by decide)) (by rfl) (pk_cons (pv 1) pk_nil)) pa_nil)))))
      pss_nil)
      (pss_cons (ps_if (pt_cmpR op_eq (pv 0) pe_int (nomark _))
      (pss_one (ps_ret (pe_lst (pa_cons (pe_err (k := 1) e_InvalidRange jf_InvalidRange (hr.mono (by decide)) (by rfl) (pa_cons (pv 1) pa_nil)) (pa_cons (pe_errK (k := 1) e_InvalidRange jf_InvalidRange (hr.mono (by decide)) (by rfl) (pk_cons (pv 1) pk_nil)) pa_nil)))))
      pss_nil)
      (pss_cons (ps_if (pt_cmpR op_eq (pv 0) pe_int (nomark _))
      (pss_one (ps_ret (pe_lst (pa_cons (pe_err (k := 1) e_NothingToUndo jf_NothingToUndo (hr.mono (by decide)) (by rfl) (pa_cons (pv 1) pa_nil)) (pa_cons (pe_errK (k := 1) e_NothingToUndo jf_NothingToUndo (hr.mono (by decide)) (by rfl) (pk_cons (pv 1) pk_nil)) pa_nil)))))
      pss_nil)
      (pss_one (ps_ret (pe_lst (pa_cons (pe_err (k := 1) e_Unreadable jf_Unreadable (hr.mono (by decide)) (by rfl) (pa_cons (pv 1) pa_nil)) (pa_cons (pe_errK (k := 1) e_Unreadable jf_Unreadable (hr.mono (by decide)) (by rfl) (pk_cons (pv 1) pk_nil)) pa_nil)))))))))), ?_⟩
    try dsimp only [cxOf]
    have fin : ∀ {a d a2 d2 p C : Addr} (D : KE), H0 a = none → H0 d = none → d ≠ a → errH H0 a C d v a2 = none → errH H0 a C d v d2 = none → d2 ≠ a2 → errH (errH H0 a C d v) a2 C d2 v p = none →
        cls6 C_InvalidTable C_InvalidNumber C_InvalidWords C_InvalidRange C_NothingToUndo C_Unreadable i = C →
        ∃ H4, (Ex H0 H4 ∧ ∃ p' e1 e2, V.ref p = .ref p' ∧ H4 p' = some (.lst [.ref e1, .ref e2]) ∧ ErrV H4 e1 (cls6 C_InvalidTable C_InvalidNumber C_InvalidWords C_InvalidRange C_NothingToUndo C_Unreadable i) v ∧ ErrV H4 e2 (cls6 C_InvalidTable C_InvalidNumber C_InvalidWords C_InvalidRange C_NothingToUndo C_Unreadable i) v) ∧ Ex H4 (upd (errH (errH H0 a C d v) a2 C d2 v) p (.lst [.ref a, .ref a2])) := fun D na nd ne na2 nd2 ne2 np hC => by
      subst hC
      refine ⟨_, ⟨(err_ex na nd).trans ((err_ex na2 nd2).trans (ex_new np)), _, _, _, rfl, upd_same, ErrV.up ((err_ex na2 nd2).trans (ex_new np)) (errV_new ne), ErrV.up (ex_new np) (errV_new ne2)⟩, Ex.rf⟩
    walk_at "go"
    refine ite2 (fun z => ?_) (fun z => ?_)
    · have e : i = 0 := by have := of_decide_eq_true z; injection this with this; omega
      subst e
      walk_at "go"
      refine ⟨v, rfl, ho, fun a d na nd ne => ?_⟩
      walk_at "go"
      refine ⟨v, rfl, vok_up (err_ex na nd) ho, fun a2 d2 na2 nd2 ne2 => ?_⟩
      walk_at "go"
      refine ⟨by walk_at "sz", fun p np => ?_⟩
      exact fin ⟨fun _ _ => True, fun _ _ => True, fun _ _ => True, fun _ _ => True⟩ na nd ne na2 nd2 ne2 np rfl
    have n0 : i ≠ 0 := fun q => z (by rw [q]; rfl)
    clear z
    walk_at "go"
    refine ite2 (fun z => ?_) (fun z => ?_)
    · have e : i = 1 := by have := of_decide_eq_true z; injection this with this; omega
      subst e
      walk_at "go"
      refine ⟨v, rfl, ho, fun a d na nd ne => ?_⟩
      walk_at "go"
      refine ⟨v, rfl, vok_up (err_ex na nd) ho, fun a2 d2 na2 nd2 ne2 => ?_⟩
      walk_at "go"
      refine ⟨by walk_at "sz", fun p np => ?_⟩
      exact fin ⟨fun _ _ => True, fun _ _ => True, fun _ _ => True, fun _ _ => True⟩ na nd ne na2 nd2 ne2 np rfl
    have n1 : i ≠ 1 := fun q => z (by rw [q]; rfl)
    clear z
    walk_at "go"
    refine ite2 (fun z => ?_) (fun z => ?_)
    · have e : i = 2 := by have := of_decide_eq_true z; injection this with this; omega
      subst e
      walk_at "go"
      refine ⟨v, rfl, ho, fun a d na nd ne => ?_⟩
      walk_at "go"
      refine ⟨v, rfl, vok_up (err_ex na nd) ho, fun a2 d2 na2 nd2 ne2 => ?_⟩
      walk_at "go"
      refine ⟨by walk_at "sz", fun p np => ?_⟩
      exact fin ⟨fun _ _ => True, fun _ _ => True, fun _ _ => True, fun _ _ => True⟩ na nd ne na2 nd2 ne2 np rfl
    have n2 : i ≠ 2 := fun q => z (by rw [q]; rfl)
    clear z
    walk_at "go"
    refine ite2 (fun z => ?_) (fun z => ?_)
    · have e : i = 3 := by have := of_decide_eq_true z; injection this with this; omega
      subst e
      walk_at "go"
      refine ⟨v, rfl, ho, fun a d na nd ne => ?_⟩
      walk_at "go"
      refine ⟨v, rfl, vok_up (err_ex na nd) ho, fun a2 d2 na2 nd2 ne2 => ?_⟩
      walk_at "go"
      refine ⟨by walk_at "sz", fun p np => ?_⟩
      exact fin ⟨fun _ _ => True, fun _ _ => True, fun _ _ => True, fun _ _ => True⟩ na nd ne na2 nd2 ne2 np rfl
    have n3 : i ≠ 3 := fun q => z (by rw [q]; rfl)
    clear z
    walk_at "go"
    refine ite2 (fun z => ?_) (fun z => ?_)
    · have e : i = 4 := by have := of_decide_eq_true z; injection this with this; omega
      subst e
      walk_at "go"
      refine ⟨v, rfl, ho, fun a d na nd ne => ?_⟩
      walk_at "go"
      refine ⟨v, rfl, vok_up (err_ex na nd) ho, fun a2 d2 na2 nd2 ne2 => ?_⟩
      walk_at "go"
      refine ⟨by walk_at "sz", fun p np => ?_⟩
      exact fin ⟨fun _ _ => True, fun _ _ => True, fun _ _ => True, fun _ _ => True⟩ na nd ne na2 nd2 ne2 np rfl
    have n4 : i ≠ 4 := fun q => z (by rw [q]; rfl)
    clear z
    have e : i = 5 := by omega
    subst e
    walk_at "go"
    refine ⟨v, rfl, ho, fun a d na nd ne => ?_⟩
    walk_at "go"
    refine ⟨v, rfl, vok_up (err_ex na nd) ho, fun a2 d2 na2 nd2 ne2 => ?_⟩
    walk_at "go"
    refine ⟨by walk_at "sz", fun p np => ?_⟩
    exact fin ⟨fun _ _ => True, fun _ _ => True, fun _ _ => True, fun _ _ => True⟩ na nd ne na2 nd2 ne2 np rfl
abbrev Sp_law_flags (K : PySem.W.Frag) (Cs : Nat → Addr) : Sp := Pr (fun (x : Addr × Nat) vs H => vs = [.ref x.1] ∧ ExAt H x.1 (Cs x.2) ∧ x.2 < 6) (fun x H v H' => Ex H H' ∧ ∃ p, v = .ref p ∧ H' p = some (.lst ((List.range 6).map fun j => .bl (decide (x.2 = j)))))
theorem ok_law_flags {f : Addr} {fd : FuncData} (F : Fun K "_law_flags" "_law_flags" s_law_flags f fd) (T : Bi mg)
    (e_InvalidTable : PySem.ErrX.ErrTxt P K mg "InvalidTable" C_InvalidTable f0 J0) (e_InvalidNumber : PySem.ErrX.ErrTxt P K mg "InvalidNumber" C_InvalidNumber f1 J1) (e_InvalidWords : PySem.ErrX.ErrTxt P K mg "InvalidWords" C_InvalidWords f2 J2)
    (e_InvalidRange : PySem.ErrX.ErrTxt P K mg "InvalidRange" C_InvalidRange f3 J3) (e_NothingToUndo : PySem.ErrX.ErrTxt P K mg "NothingToUndo" C_NothingToUndo f4 J4) (e_Unreadable : PySem.ErrX.ErrTxt P K mg "Unreadable" C_Unreadable f5 J5)
    (k : ErrK K (cls6 C_InvalidTable C_InvalidNumber C_InvalidWords C_InvalidRange C_NothingToUndo C_Unreadable) C_OrderError) :
    FnOk P w K mg base CX0 1 f fd ["one"] (Sp_law_flags K (cls6 C_InvalidTable C_InvalidNumber C_InvalidWords C_InvalidRange C_NothingToUndo C_Unreadable)) := by
  refine okP F sc_law_flags (fun x vs H h => ?_) (fun cdv A outer s H E x vs H0 hr h => ?_)
  · rw [h.1]
    rfl
  · obtain ⟨e, i⟩ := x
    obtain ⟨rfl, ex, hi⟩ := h
    dsimp only at *
    refine ⟨_, (pss_cons (ps_set (i := 1) sc_law_flags.nd rfl (Or.inl rfl) (pe_lst (pa_cons (pe_callB call_isX (by rfl) T.isinstance_ boot_isinstance (pa_cons (pv 0) (pa_cons (pe_glob (v := .ref C_InvalidTable) (by rfl) e_InvalidTable.gC rfl) pa_nil))) (pa_cons (pe_callB call_isX (by rfl) T.isinstance_ boot_isinstance (pa_cons (pv 0) (pa_cons (pe_glob (v := .ref C_InvalidNumber) (by rfl) e_InvalidNumber.gC rfl) pa_nil))) (pa_cons (pe_callB call_isX (by rfl) T.isinstance_ boot_isinstance (pa_cons (pv 0) (pa_cons (pe_glob (v := .ref C_InvalidWords) (by rfl) e_InvalidWords.gC rfl) pa_nil))) pa_nil)))))
      (pss_one (ps_ret (pe_op op_cat (pv 1) (pe_lst (pa_cons (pe_callB call_isX (by rfl) T.isinstance_ boot_isinstance (pa_cons (pv 0) (pa_cons (pe_glob (v := .ref C_InvalidRange) (by rfl) e_InvalidRange.gC rfl) pa_nil))) (pa_cons (pe_callB call_isX (by rfl) T.isinstance_ boot_isinstance (pa_cons (pv 0) (pa_cons (pe_glob (v := .ref C_NothingToUndo) (by rfl) e_NothingToUndo.gC rfl) pa_nil))) (pa_cons (pe_callB call_isX (by rfl) T.isinstance_ boot_isinstance (pa_cons (pv 0) (pa_cons (pe_glob (v := .ref C_Unreadable) (by rfl) e_Unreadable.gC rfl) pa_nil))) pa_nil)))))))), ?_⟩
    try dsimp only [cxOf]
    have own := k.own i hi
    walk_at "go"
    refine c_isX ex own (fun u ru => ru) (k.kit i 0 hi (by decide)) ?_
    walk_at "go"
    refine c_isX ex own (fun u ru => ru) (k.kit i 1 hi (by decide)) ?_
    walk_at "go"
    refine c_isX ex own (fun u ru => ru) (k.kit i 2 hi (by decide)) ?_
    walk_at "go"
    refine ⟨by walk_at "sz", fun p np => ?_⟩
    have ex2 := exAt_up (ex_new (o := .lst [.bl (decide (i = 0)), .bl (decide (i = 1)), .bl (decide (i = 2))]) np) ex
    walk_at "go"
    refine c_isX ex2 own (fun u ru => ru) (k.kit i 3 hi (by decide)) ?_
    walk_at "go"
    refine c_isX ex2 own (fun u ru => ru) (k.kit i 4 hi (by decide)) ?_
    walk_at "go"
    refine c_isX ex2 own (fun u ru => ru) (k.kit i 5 hi (by decide)) ?_
    walk_at "go"
    refine ⟨by walk_at "sz", fun p2 np2 => ?_⟩
    refine r_cat (up_new np2 upd_same) upd_same (by show 3 + 3 ≤ 16777216; decide) fun p3 np3 => ?_
    exact ⟨_, ⟨(ex_new np).trans ((ex_new np2).trans (ex_new np3)), p3, rfl, upd_same⟩, Ex.rf⟩
end
end Mb



namespace Mb
open PySem PyProof.Rows L2
open Evl (Ex)
section
variable {P : Program} {w : World} {K : PySem.W.Frag} {mg : Str → Option Value} {base : Heap} {C_InvalidTable C_InvalidNumber C_InvalidWords C_InvalidRange C_NothingToUndo C_Unreadable C_OrderError f0 f1 f2 f3 f4 f5 : Addr} {J0 J1 J2 J3 J4 J5 : Expr}
theorem drawnB {b gr : Addr} {s : Bst} {Hb H : Hp} {n B : Int} {K' : KV} (bs : BesideB Hb b gr) (ok : s.Ok B) (hB : B ≤ 1000000) (e : Ex (BagH Hb b gr s) H) (hn : 0 < n) (hn2 : n.natAbs.log2 < 9000)
    (k : ∀ z s', 0 ≤ z → z < n → Bst.Ok (B + 1) s' → K' (.int z) (BagH Hb b gr s')) :
    ∃ x : DrawA, (([V.ref b, V.int n] : List V) = [.ref x.b, .int x.n] ∧ Ex (BagH x.H0 x.b x.gr x.s) H ∧ BesideB x.H0 x.b x.gr ∧ x.s.Ok x.B ∧ x.B ≤ 1000000 ∧ 0 < x.n ∧ x.n.natAbs.log2 < 9000) ∧
      ∀ v H', (∃ (z : Int) (s : Bst), v = .int z ∧ 0 ≤ z ∧ z < x.n ∧ s.Ok (x.B + 1) ∧ H' = BagH x.H0 x.b x.gr s) → K' v H' := by
  refine ⟨⟨b, gr, s, Hb, n, B⟩, ⟨rfl, e, bs, ok, hB, hn, hn2⟩, ?_⟩
  rintro v H' ⟨z, s', rfl, z0, z1, ok', rfl⟩
  exact k z s' z0 z1 ok'
theorem log_lt {i : Int} (h : i.natAbs < 2 ^ 120) : i.natAbs.log2 < 1900 := by
  by_cases e : i.natAbs = 0
  · rw [e]
    decide
  · have := (Nat.log2_lt e).mpr h
    omega
theorem dpBools {H : Hp} : ∀ xs : List Bool, DpAll K H (xs.map V.bl) (xs.map PyData.bool)
  | [] => .nil
  | x :: r => .cons (.bl x) (dpBools r)
def flagL (i : Nat) : List Bool := (List.range 6).map fun j => decide (i = j)
theorem flag_shaped : ∀ i, i < 6 → SeqAt.shaped (.list ((flagL i).map PyData.bool)) = true := by decide +kernel
theorem flag_same : ∀ i, i < 6 → PyData.eqv (.list ((flagL i).map PyData.bool)) (.list ((flagL i).map PyData.bool)) = true := by decide +kernel
/-- what is held -/
def heldL (a b : Int) (pt : Addr) : List V := [.non, .int a, .int (0 - b), .int (10 ^ Int.toNat 29), .str "two one", .str "", .ref pt]
theorem held_ok {H : Hp} {a b c : Int} {pt : Addr} (a0 : 0 ≤ a) (a1 : a < 99) (b0 : 0 ≤ b) (b1 : b < 10 ^ 15) (c0 : 0 ≤ c) (c1 : c < 9) (ht : H pt = some (.tup [.int c, .int (-1)])) :
    ∀ x ∈ heldL a b pt, VOk K H x ∧ ∃ z, ShownV K H x z := by
  intro x hx
  have st : SqT K H pt [.int c, .int (-1)] := Or.inl (Or.inl ht)
  unfold heldL at hx
  rcases List.mem_cons.mp hx with rfl | hx
  · exact ⟨Or.inl rfl, _, Or.inl ⟨rfl, rfl⟩⟩
  rcases List.mem_cons.mp hx with rfl | hx
  · have h := log_lt (i := a) (by omega)
    exact ⟨Or.inr (Or.inl ⟨_, rfl, h⟩), _, Or.inr (Or.inl ⟨_, rfl, h, rfl⟩)⟩
  rcases List.mem_cons.mp hx with rfl | hx
  · have h := log_lt (i := 0 - b) (by omega)
    exact ⟨Or.inr (Or.inl ⟨_, rfl, h⟩), _, Or.inr (Or.inl ⟨_, rfl, h, rfl⟩)⟩
  rcases List.mem_cons.mp hx with rfl | hx
  · have h := log_lt (i := 10 ^ Int.toNat 29) (by decide +kernel)
    exact ⟨Or.inr (Or.inl ⟨_, rfl, h⟩), _, Or.inr (Or.inl ⟨_, rfl, h, rfl⟩)⟩
  rcases List.mem_cons.mp hx with rfl | hx
  · exact ⟨Or.inr (Or.inr (Or.inl ⟨_, rfl, by decide +kernel, by decide +kernel⟩)), _, Or.inr (Or.inr (Or.inl ⟨_, rfl, by decide +kernel, rfl⟩))⟩
  rcases List.mem_cons.mp hx with rfl | hx
  · exact ⟨Or.inr (Or.inr (Or.inl ⟨_, rfl, by decide +kernel, by decide +kernel⟩)), _, Or.inr (Or.inr (Or.inl ⟨_, rfl, by decide +kernel, rfl⟩))⟩
  rw [List.mem_singleton.mp hx]
  refine ⟨Or.inr (Or.inr (Or.inr ⟨pt, c, -1, rfl, st, by omega, by decide⟩)), _, Or.inr (Or.inr (Or.inr ⟨pt, .tuple [.int c, .int (-1)], rfl, .tup st (.cons (.int c) (.cons (.int (-1)) .nil)), ?_, rfl, by show 1 ≤ 60; decide, ?_, rfl⟩))⟩
  · have h := log_of (i := c) (by omega)
    have h2 := log_of (i := -1) (by decide)
    show (decide (c.natAbs.log2 < 1920) && (decide ((-1 : Int).natAbs.log2 < 1920) && true)) = true
    rw [decide_eq_true h, decide_eq_true h2]
    rfl
  · have h := tup_short (i := c) (j := -1) (by omega) (by decide)
    show (tupleText [Str.ofString (toString c), Str.ofString (toString (-1 : Int))]).length ≤ sizeLine
    rw [sizeLine_eq]
    omega
abbrev Sp_law (K : PySem.W.Frag) : Sp := Pr (fun (x : Addr × List Int) vs H => vs = [.ref x.1] ∧ SqL K H x.1 (x.2.map V.int) ∧ x.2.length ≤ 63) (fun _ _ v _ => v = .bl true)
theorem ok_law {f : Addr} {fd : FuncData} (F : Fun K "law" "law" s_law f fd) (T : Bi mg) (tVE : mg "ValueError" = none)
    (e_InvalidTable : PySem.ErrX.ErrTxt P K mg "InvalidTable" C_InvalidTable f0 J0) (e_InvalidNumber : PySem.ErrX.ErrTxt P K mg "InvalidNumber" C_InvalidNumber f1 J1) (e_Unreadable : PySem.ErrX.ErrTxt P K mg "Unreadable" C_Unreadable f5 J5)
    (x_OrderError : PySem.W.excIn K C_OrderError [.type "ValueError", .type "Exception", .type "BaseException", .type "object"] "ValueError.__new__" = true) (g_OrderError : mg "OrderError" = some (.ref C_OrderError)) (kp_OrderError : PySem.W.keepIn K (.ref C_OrderError) = true)
    (k : ErrK K (cls6 C_InvalidTable C_InvalidNumber C_InvalidWords C_InvalidRange C_NothingToUndo C_Unreadable) C_OrderError)
    (c__law_bag : CalF P w K mg base 1 "_law_bag" ["script"] (Sp_law_bag K))
    (c__law_draw : CalF P w K mg base 1 "_law_draw" ["bag", "many"] Sp_law_draw)
    (c__law_made : CalF P w K mg base 3 "_law_made" ["which", "held"] (Sp_law_made K (cls6 C_InvalidTable C_InvalidNumber C_InvalidWords C_InvalidRange C_NothingToUndo C_Unreadable)))
    (c__law_flags : CalF P w K mg base 1 "_law_flags" ["one"] (Sp_law_flags K (cls6 C_InvalidTable C_InvalidNumber C_InvalidWords C_InvalidRange C_NothingToUndo C_Unreadable))) : FnG P w K mg base CX0 4 f fd ["script"] (Sp_law K) := by
  generalize hCs : cls6 C_InvalidTable C_InvalidNumber C_InvalidWords C_InvalidRange C_NothingToUndo C_Unreadable = Cs at *
  refine okG F sc_law (fun x vs H h => ?_) (fun cdv A outer s H E x vs H0 hG hr h => ?_)
  · rw [h.1]
    rfl
  · obtain ⟨sa, ns⟩ := x
    obtain ⟨rfl, hS, hl⟩ := h
    dsimp only at *
    refine ⟨_, (pss_cons (ps_set (i := 1) sc_law.nd rfl (Or.inl rfl) (pe_cal c__law_bag (hr.mono (by decide)) (by rfl) pass0 (pa_cons (pv 0) pa_nil)))
      (pss_cons (ps_for PassesOwn.never rfl (pi_range1 (by rfl) T.range_ (pa_cons (pe_op op_add pe_int (pe_callB (cr_min2 rfl) (by rfl) T.min_ boot_min (pa_cons pe_int (pa_cons (pe_callB cr_lenS (by rfl) T.len_ boot_len (pa_cons (pv 0) pa_nil)) pa_nil)))) pa_nil)) (pg_name (i := 2) sc_law.nd rfl (Or.inl rfl))
      (pss_cons (ps_set (i := 3) sc_law.nd rfl (Or.inl rfl) (pe_lst (pa_cons pe_non (pa_cons (pe_cal c__law_draw (hr.mono (by decide)) (by rfl) pass0 (pa_cons (pv 1) (pa_cons pe_int pa_nil))) (pa_cons (pe_op op_sub pe_int (pe_cal c__law_draw (hr.mono (by decide)) (by rfl) pass0 (pa_cons (pv 1) (pa_cons (pe_op op_pow pe_int pe_int) pa_nil)))) (pa_cons (pe_op op_pow pe_int pe_int) (pa_cons pe_str (pa_cons pe_str pa_nil))))))))
      (pss_cons (ps_expr (pe_bm PySem.F.plainAttrs_list PySem.F.slot_list_append PySem.F.type_list_append mt_append (pv 3) (pa_cons (pe_tup (pa_cons (pe_cal c__law_draw (hr.mono (by decide)) (by rfl) pass0 (pa_cons (pv 1) (pa_cons pe_int pa_nil))) (pa_cons (pe_un un_neg pe_int) pa_nil))) pa_nil)))
      (pss_one (ps_for PassesOwn.never rfl (pi_range1 (by rfl) T.range_ (pa_cons pe_int pa_nil)) (pg_name (i := 4) sc_law.nd rfl (Or.inr rfl))
      (pss_cons (ps_set (i := 5) sc_law.nd rfl (Or.inl rfl) (pe_ix (show IxR _ (rIxL K) from ix_list) (pv 3) (pe_cal c__law_draw (hr.mono (by decide)) (by rfl) pass0 (pa_cons (pv 1) (pa_cons (pe_callB cr_lenS (by rfl) T.len_ boot_len (pa_cons (pv 3) pa_nil)) pa_nil))) (fun _ _ => rfl)))
      (pss_one (ps_for PassesOwn.never rfl (pi_list (pe_cal c__law_made (hr.mono (by decide)) (by rfl) pass0 (pa_cons (pv 4) (pa_cons (pv 5) pa_nil)))) (pg_name (i := 6) sc_law.nd rfl (Or.inl rfl))
      (pss_cons (ps_if (PW.pt (pw_or (pt_cmpR (op_neD hr.units) (pe_cal c__law_flags (hr.mono (by decide)) (by rfl) pass0 (pa_cons (pv 6) pa_nil)) (pe_lc (own := [("spot_now", 7)]) (g := gName 7) (tt := tYes) rfl sc_law.nd (pi_range1 (by rfl) T.range_ (pa_cons pe_int pa_nil)) (blkOk_by (N := N_law) (sc := defScope s_law) (own := [("spot_now", 7)]) (by decide +kernel)) (fun _ _ _ _ _ => (pg_name (i := 7) sc_law.nd rfl (Or.inl rfl))) (fun _ _ _ _ _ => pts_nil) (fun _ _ _ _ _ => (pe_cmpR op_eq (pv 7) (pv 4) (nomark _)))) (nomark _)) (pw_or1 (pt_cmpR op_ne (pe_callB (cr_reprV hG hr.units) (by rfl) T.repr_ boot_repr (pa_cons (pe_val (pv 6)) pa_nil)) (pe_callB (cr_reprV hG hr.units) (by rfl) T.repr_ boot_repr (pa_cons (pv 5) pa_nil)) (nomark _)))))
      (pss_one (ps_ret pe_bl))
      pss_nil)
      (pss_one (ps_if (PW.pt (pw_or (pt_not (pt_val (pe_callB call_isX (by rfl) T.isinstance_ boot_isinstance (pa_cons (pv 6) (pa_cons (pe_glob (v := .ref C_OrderError) (by rfl) g_OrderError rfl) pa_nil))))) (pw_or1 (pt_not (pt_val (pe_callB call_isX (by rfl) T.isinstance_ boot_isinstance (pa_cons (pv 6) (pa_cons (pe_bltn (v := .ty "ValueError") (by rfl) tVE PyProof.Rows.Boot.«ValueError» rfl) pa_nil))))))))
      (pss_one (ps_ret pe_bl))
      pss_nil)))))))))))
      (pss_one (ps_ret (pe_not (pe_callB call_isXT (by rfl) T.isinstance_ boot_isinstance (pa_cons (pe_exc0 PySem.F.excBase_ValueError x_OrderError g_OrderError kp_OrderError (by rfl)) (pa_cons (pe_tup (pa_cons (pe_glob (v := .ref C_InvalidTable) (by rfl) e_InvalidTable.gC rfl) (pa_cons (pe_glob (v := .ref C_InvalidNumber) (by rfl) e_InvalidNumber.gC rfl) (pa_cons (pe_glob (v := .ref C_Unreadable) (by rfl) e_Unreadable.gC rfl) pa_nil)))) pa_nil)))))))), ?_⟩
    try dsimp only [cxOf]
    walk_at "go"
    refine ⟨(sa, ns), ⟨rfl, hS, hl⟩, ?_⟩
    rintro v H2 ⟨b, gr, st, rfl, bs, ok, rfl⟩
    have hS1 : SqL K (BagH H0 b gr st) sa (ns.map V.int) := Evl.ex_l (bag_ex bs.nb bs.ng) hS
    walk_at "go"
    refine s_forR1 ?_
    walk_at "go"
    rw [List.length_map]
    refine ⟨_, fun i σ' H' => ∃ (Hb : Hp) (s' : Bst) (z2 z3 z4 z5 z6 : Option V), σ' = [some (.ref sa), some (.ref b), z2, z3, z4, z5, z6, none] ∧ BesideB Hb b gr ∧ s'.Ok (9 * i) ∧ H' = BagH Hb b gr s', rfl, ?_, ?_, ⟨H0, st, _, _, _, _, _, rfl, bs, ok.mono (by omega), rfl⟩, fun i σ' H' hi h => ?_, fun σ' H' h => ?_⟩
    · split <;> omega
    · split <;> omega
    · obtain ⟨Hb, s1, z2, z3, z4, z5, z6, rfl, bs1, ok1, rfl⟩ := h
      have hi12 : i < 12 := by
        have : (4 + if ((ns.length : Nat) : Int) < 8 then ((ns.length : Nat) : Int) else 8) ≤ 12 := by split <;> omega
        omega
      walk_at "go"
      refine drawnB bs1 ok1 (by omega) Ex.rf (by decide) (by decide) fun a s2 a0 a1 ok2 => ?_
      walk_at "go"
      refine drawnB bs1 ok2 (by omega) Ex.rf (by decide) (by decide +kernel) fun d s3 d0 d1 ok3 => ?_
      walk_at "go"
      refine ⟨by walk_at "sz", fun ps nps => ?_⟩
      obtain ⟨nps0, npb, npg⟩ := bag_free nps
      rw [bag_push npb npg]
      have bs2 := bs1.upd (o := .lst [.non, .int a, .int (0 - d), .int (10 ^ Int.toNat 29), .str "two one", .str ""]) npb npg
      walk_at "go"
      refine ⟨Or.inl ⟨rfl, _, Or.inl (Or.inl (bag_get npb npg upd_same))⟩, ?_⟩
      walk_at "go"
      refine drawnB bs2 ok3 (by omega) Ex.rf (by decide) (by decide) fun c s4 c0 c1 ok4 => ?_
      walk_at "go"
      refine ⟨by walk_at "sz", fun pt npt => ?_⟩
      obtain ⟨npt0, nptb, nptg⟩ := bag_free npt
      obtain ⟨npt1, ntp⟩ := free_of npt0
      rw [bag_push nptb nptg]
      walk_at "go"
      refine m_append (bag_get npb npg (up_ne ntp.symm upd_same)) (by show 6 < 16777216; decide) ?_
      rw [bag_push npb npg]
      have bs3 := (bs2.upd (o := .tup [.int c, .int (-1)]) nptb nptg).upd (o := .lst (heldL a d pt)) npb npg
      obtain ⟨Hc, hHc⟩ : ∃ Hc, upd (upd (upd Hb ps (.lst [.non, .int a, .int (0 - d), .int (10 ^ Int.toNat 29), .str "two one", .str ""])) pt (.tup [.int c, .int (-1)])) ps (.lst (heldL a d pt)) = Hc := ⟨_, rfl⟩
      have lps : Hc ps = some (.lst (heldL a d pt)) := by rw [← hHc]; exact upd_same
      have lpt : Hc pt = some (.tup [.int c, .int (-1)]) := by rw [← hHc]; exact up_ne ntp upd_same
      rw [hHc] at bs3
      show S _ _ _ (BagH (upd (upd (upd Hb ps (.lst [.non, .int a, .int (0 - d), .int (10 ^ Int.toNat 29), .str "two one", .str ""])) pt (.tup [.int c, .int (-1)])) ps (.lst (heldL a d pt))) b gr s4)
      rw [hHc]
      clear hHc
      walk_at "go"
      refine s_forR1 ?_
      walk_at "go"
      refine ⟨6, fun j σ' H' => ∃ (s' : Bst) (z4 z5 z6 : Option V), σ' = [some (.ref sa), some (.ref b), some (.int i), some (.ref ps), z4, z5, z6, none] ∧ s'.Ok (9 * i + 3 + j) ∧ H' = BagH Hc b gr s', rfl, by decide, by decide, ⟨s4, _, _, _, rfl, ok4.mono (by omega), rfl⟩, fun j σ' H' hj h => ?_, fun σ' H' h => ?_⟩
      · obtain ⟨s5, z4, z5, z6, rfl, ok5, rfl⟩ := h
        have hj6 : j < 6 := hj
        walk_at "go"
        refine drawnB bs3 ok5 (by omega) Ex.rf (show (0 : Int) < 7 by decide) (show (7 : Int).natAbs.log2 < 9000 by decide) fun z s6 z0 z1 ok6 => ?_
        have hz7 : z.toNat < (heldL a d pt).length := by
          show z.toNat < 7
          have : z < 7 := z1
          omega
        have hx := List.getElem?_eq_getElem hz7
        generalize (heldL a d pt)[z.toNat]'hz7 = v at hx
        have ez : z = ((z.toNat : Nat) : Int) := by omega
        refine r_ixL (Or.inl (Or.inl (bag_get npb npg lps))) (by rw [ez]; exact atI_nat hx) ?_
        obtain ⟨vo, zs, sh⟩ := held_ok (K := K) (H := BagH Hc b gr s6) a0 a1 d0 d1 c0 c1 (bag_get nptb nptg lpt) v (List.mem_of_getElem? hx)
        walk_at "go"
        refine s_forL ?_
        walk_at "go"
        refine ⟨⟨j, v⟩, ⟨rfl, hj6, vo⟩, ?_⟩
        rintro u H2 ⟨eH2, p, e1, e2, rfl, lp, ev1, ev2⟩
        dsimp only at ev1 ev2
        refine ⟨p, [.ref e1, .ref e2], fun m σ' H' => ∃ z6, σ' = [some (.ref sa), some (.ref b), some (.int i), some (.ref ps), some (.int j), some v, z6, none] ∧ H' = H2, rfl, Or.inl (Or.inl lp), ⟨_, rfl, rfl⟩, fun m σ' H' hm h => ?_, fun m x σ' H' hm h => ?_, fun σ' H' h => ?_⟩
        · obtain ⟨z6, rfl, rfl⟩ := h
          exact Or.inl (Or.inl lp)
        · obtain ⟨z6, rfl, rfl⟩ := h
          obtain ⟨e, rfl, ev⟩ : ∃ e, x = .ref e ∧ ErrV H' e (Cs j) v := by
            have hmem := List.mem_of_getElem? hm
            rcases List.mem_cons.mp hmem with rfl | h
            · exact ⟨e1, rfl, ev1⟩
            · rw [List.mem_singleton.mp h]
              exact ⟨e2, rfl, ev2⟩
          obtain ⟨dd, l1, l2⟩ := ev
          have exA : ExAt H' e (Cs j) := Or.inl ⟨dd, v, l1, l2⟩
          have own := k.own j hj6
          walk_at "go"
          refine ⟨(e, j), ⟨rfl, exA, hj6⟩, ?_⟩
          rintro u H3 ⟨eH3, p3, rfl, lp3⟩
          dsimp only at lp3
          refine w_lcR_map (n := 6) (fun m => .bl (decide (V.int (m : Int) = V.int (j : Int)))) (fun _ => rfl) ?_
          walk_at "go"
          refine ⟨rfl, by decide, by decide, fun m hm H' K' e k => ?_, fun q nq => ?_⟩
          · walk_at "go"
            exact k
          have eL : (List.range (Int.toNat 6)).map (fun (m : Nat) => V.bl (decide (V.int (m : Int) = V.int (j : Int)))) = (flagL j).map V.bl := by
            unfold flagL
            rw [List.map_map]
            refine List.map_congr_left fun m _ => ?_
            show V.bl (decide (V.int (m : Int) = V.int (j : Int))) = V.bl (decide (j = m))
            congr 1
            by_cases h : j = m
            · rw [decide_eq_true h, decide_eq_true (by rw [h])]
            · rw [decide_eq_false h, decide_eq_false (fun q => h (by injection q with q; omega))]
          have eL3 : (List.range 6).map (fun m => V.bl (decide (j = m))) = (flagL j).map V.bl := by
            unfold flagL
            rw [List.map_map]
            rfl
          rw [eL]
          rw [eL3] at lp3
          refine r_ned (d := .list ((flagL j).map PyData.bool)) (e := .list ((flagL j).map PyData.bool)) ?_ ?_ (flag_shaped j hj6) (flag_shaped j hj6) ?_
          · exact .lst (Or.inl (Or.inl (up_new nq lp3))) (dpBools _)
          · exact .lst (Or.inl (Or.inl upd_same)) (dpBools _)
          rw [flag_same j hj6]
          refine ⟨_, rfl, ?_⟩
          refine ite_f (by rfl) ?_
          have xH : Ex H' (upd H3 q (.lst ((flagL j).map V.bl))) := eH3.trans (ex_new nq)
          have m1 := xH _ _ l1
          have m2 := xH _ _ l2
          have sh2 := shown_up (Kf := K) (eH2.trans xH) sh
          walk_at "go"
          refine ⟨e, Cs j, dd, v, rfl, k.xf j hj6, k.noV j hj6, m1, m2, ?_⟩
          walk_at "go"
          refine c_reprV sh2 ?_
          walk_at "go"
          refine c_reprV sh2 ?_
          refine r_ne rfl ?_
          refine ⟨_, rfl, ?_⟩
          refine ite_f (by rw [decide_eq_true rfl]; rfl) (s_next ?_)
          have exB := exAt_up xH exA
          walk_at "go"
          refine c_isX exB own (fun u ru => ru) (k.kitO j hj6) ?_
          walk_at "go"
          refine c_isX exB own (fun u ru => ru) (k.kitV j hj6) ?_
          walk_at "go"
          exact ⟨_, ⟨_, rfl, rfl⟩, xH⟩
        · obtain ⟨z6, rfl, rfl⟩ := h
          exact ⟨_, ⟨s6, _, _, _, rfl, ok6.mono (by omega), rfl⟩, eH2⟩
      · obtain ⟨s5, z4, z5, z6, rfl, ok5, rfl⟩ := h
        exact ⟨_, ⟨Hc, s5, _, _, _, _, _, rfl, bs3, ok5.mono (by push_cast; omega), rfl⟩, Ex.rf⟩
    · obtain ⟨Hb, s1, z2, z3, z4, z5, z6, rfl, bs1, ok1, rfl⟩ := h
      walk_at "go"
      intro a na
      walk_at "go"
      refine ⟨by walk_at "sz", fun p np => ?_⟩
      walk_at "go"
      refine c_isXT (cs := [C_InvalidTable, C_InvalidNumber, C_Unreadable]) (Or.inr (up_new np upd_same)) k.ownO upd_same (fun c hc => ?_) ?_
      · subst hCs
        rcases List.mem_cons.mp hc with rfl | hc
        · exact k.kitN 0 (by decide)
        rcases List.mem_cons.mp hc with rfl | hc
        · exact k.kitN 1 (by decide)
        rw [List.mem_singleton.mp hc]
        exact k.kitN 5 (by decide)
      walk_at "go"
      exact ⟨_, rfl, Ex.rf⟩
end
end Mb

end
namespace Mb
open PySem PyProof.Rows L2
/-- the text that an error hands to its base -/
def jOf (s : Stmt) : Expr := match defBody s with | [.Expr (.Call _ [J] _ _) _, _] => J | _ => .Constant .none 0 ⟨0, 0, 0, 0⟩
abbrev J_InvalidTable : Expr := jOf s_InvalidTable___init__
theorem jf_InvalidTable : JF J_InvalidTable := JF.rep _ _ _ _ _ _ (by decide +kernel)
abbrev J_InvalidNumber : Expr := jOf s_InvalidNumber___init__
theorem jf_InvalidNumber : JF J_InvalidNumber := JF.fmt _ _ _ _ _ _ (by decide +kernel)
abbrev J_InvalidWords : Expr := jOf s_InvalidWords___init__
theorem jf_InvalidWords : JF J_InvalidWords := JF.fmt _ _ _ _ _ _ (by decide +kernel)
abbrev J_InvalidRange : Expr := jOf s_InvalidRange___init__
theorem jf_InvalidRange : JF J_InvalidRange := JF.fmt _ _ _ _ _ _ (by decide +kernel)
abbrev J_NothingToUndo : Expr := jOf s_NothingToUndo___init__
theorem jf_NothingToUndo : JF J_NothingToUndo := JF.con _ _ _
abbrev J_Unreadable : Expr := jOf s_Unreadable___init__
theorem jf_Unreadable : JF J_Unreadable := JF.rep _ _ _ _ _ _ (by decide +kernel)
theorem jf_js {J : Expr} (h : JF J) (env : Env) : starEach [J] env = (false, eval J env) :: starEach [] env := by cases h <;> rfl
theorem jf_je {J : Expr} (h : JF J) (env : Env) (p0 p1 p2 p3 : Pos) (hl : (p2.endLine == p3.line) = true) : ∃ pl : Sem Bool, eval (.Call (.Attribute (.Call (.Name "super" p0) [] [] p1) "__init__" p2) [J] [] p3) env = (do
    let ov ← attributeBase (.Call (.Name "super" p0) [] [] p1) "__init__" env (eval (.Call (.Name "super" p0) [] [] p1) env)
    standAt p2.atName
    let (f, first) ← holding [ov] (getMethod ov "__init__" pl)
    callWith p3 f first (backTo p3 (starEach [J] env)) []) := by
  have form : methodCallForm 1 (backTo p3 (starEach [J] env)) (backToKw p3 (keywordEach [] env)) = true := by cases h <;> rfl
  refine ⟨do return (← importBound (.Call (.Name "super" p0) [] [] p1) env).getD true, ?_⟩
  have hpos : methodCallPos true (.Call (.Name "super" p0) [] [] p1) env p2 p3 = pure p3 := by unfold methodCallPos; simp [hl]
  rw [arm_eval_Call]
  unfold methodCall
  show (do
    let ov ← attributeBase (.Call (.Name "super" p0) [] [] p1) "__init__" env (eval (.Call (.Name "super" p0) [] [] p1) env)
    standAt p2.atName
    let (f, first) ← holding [ov] (calleeOf (methodCallForm 1 (backTo p3 (starEach [J] env)) (backToKw p3 (keywordEach [] env))) (.Call (.Name "super" p0) [] [] p1) env ov "__init__")
    let callPos ← methodCallPos (methodCallForm 1 (backTo p3 (starEach [J] env)) (backToKw p3 (keywordEach [] env))) (.Call (.Name "super" p0) [] [] p1) env p2 p3
    callWith callPos f first (backTo p3 (starEach [J] env)) []) = _
  rw [form, hpos]
  rfl
theorem ne_of_sub {K : PySem.W.Frag} {D C : Addr} (h : PySem.W.subIn K (.ref D) (.ref C) = some false) (s : PySem.W.subIn K (.ref D) (.ref D) = some true) : D ≠ C := fun q => by
  subst q
  rw [s] at h
  cases h
end Mb
namespace Mb
open PySem PyProof.Rows L2
theorem all_mk {P : Program} {w : World} {K : PySem.W.Frag} {mg : Str → Option Value} {h : Heap} {fa : Addr} (X : K.In h) (G : h.Ns mainGlobals mg) (hfa : mg "law" = some (.ref fa))
    {f0 : Addr} {oc0 kV0 dc0 pm0 cd0 ct0 : Value} {od0 an0 : Option Addr} {sl0 : Array (Option Value)}
    {f1 : Addr} {oc1 kV1 dc1 pm1 cd1 ct1 : Value} {od1 an1 : Option Addr} {sl1 : Array (Option Value)}
    {f2 : Addr} {oc2 kV2 dc2 pm2 cd2 ct2 : Value} {od2 an2 : Option Addr} {sl2 : Array (Option Value)}
    {f3 : Addr} {oc3 kV3 dc3 pm3 cd3 ct3 : Value} {od3 an3 : Option Addr} {sl3 : Array (Option Value)}
    {f4 : Addr} {oc4 kV4 dc4 pm4 cd4 ct4 : Value} {od4 an4 : Option Addr} {sl4 : Array (Option Value)}
    (a0 : PySem.W.nsIn K mainGlobals "_law_bag" = some (some (.ref f0))) (l0 : K.lookup f0 = some ⟨oc0, od0, .func (PySem.W.fnOf "_law_bag" "_law_bag" (defArgs s_law_bag) (defBody s_law_bag) (defScope s_law_bag) .none kV0 dc0 pm0 an0 cd0 ct0), sl0⟩) (c0 : PySem.W.codeIn K cd0 "_law_bag" = true) (k0 : PySem.W.keepIn K (.ref f0) = true)
    (a1 : PySem.W.nsIn K mainGlobals "_law_draw" = some (some (.ref f1))) (l1 : K.lookup f1 = some ⟨oc1, od1, .func (PySem.W.fnOf "_law_draw" "_law_draw" (defArgs s_law_draw) (defBody s_law_draw) (defScope s_law_draw) .none kV1 dc1 pm1 an1 cd1 ct1), sl1⟩) (c1 : PySem.W.codeIn K cd1 "_law_draw" = true) (k1 : PySem.W.keepIn K (.ref f1) = true)
    (a2 : PySem.W.nsIn K mainGlobals "_law_made" = some (some (.ref f2))) (l2 : K.lookup f2 = some ⟨oc2, od2, .func (PySem.W.fnOf "_law_made" "_law_made" (defArgs s_law_made) (defBody s_law_made) (defScope s_law_made) .none kV2 dc2 pm2 an2 cd2 ct2), sl2⟩) (c2 : PySem.W.codeIn K cd2 "_law_made" = true) (k2 : PySem.W.keepIn K (.ref f2) = true)
    (a3 : PySem.W.nsIn K mainGlobals "_law_flags" = some (some (.ref f3))) (l3 : K.lookup f3 = some ⟨oc3, od3, .func (PySem.W.fnOf "_law_flags" "_law_flags" (defArgs s_law_flags) (defBody s_law_flags) (defScope s_law_flags) .none kV3 dc3 pm3 an3 cd3 ct3), sl3⟩) (c3 : PySem.W.codeIn K cd3 "_law_flags" = true) (k3 : PySem.W.keepIn K (.ref f3) = true)
    (a4 : PySem.W.nsIn K mainGlobals "law" = some (some (.ref f4))) (l4 : K.lookup f4 = some ⟨oc4, od4, .func (PySem.W.fnOf "law" "law" (defArgs s_law) (defBody s_law) (defScope s_law) .none kV4 dc4 pm4 an4 cd4 ct4), sl4⟩) (c4 : PySem.W.codeIn K cd4 "law" = true) (k4 : PySem.W.keepIn K (.ref f4) = true)
    (z_len : PySem.W.nsIn K mainGlobals "len" = some none)
    (z_sum : PySem.W.nsIn K mainGlobals "sum" = some none)
    (z_all : PySem.W.nsIn K mainGlobals "all" = some none)
    (z_any : PySem.W.nsIn K mainGlobals "any" = some none)
    (z_max : PySem.W.nsIn K mainGlobals "max" = some none)
    (z_min : PySem.W.nsIn K mainGlobals "min" = some none)
    (z_abs : PySem.W.nsIn K mainGlobals "abs" = some none)
    (z_divmod : PySem.W.nsIn K mainGlobals "divmod" = some none)
    (z_range : PySem.W.nsIn K mainGlobals "range" = some none)
    (z_isinstance : PySem.W.nsIn K mainGlobals "isinstance" = some none)
    (z_repr : PySem.W.nsIn K mainGlobals "repr" = some none)
    (z_sorted : PySem.W.nsIn K mainGlobals "sorted" = some none)
    (z_list : PySem.W.nsIn K mainGlobals "list" = some none)
    (z_int : PySem.W.nsIn K mainGlobals "int" = some none)
    (z_str : PySem.W.nsIn K mainGlobals "str" = some none)
    (z_bool : PySem.W.nsIn K mainGlobals "bool" = some none)
    (z_tuple : PySem.W.nsIn K mainGlobals "tuple" = some none)
    (z_enumerate : PySem.W.nsIn K mainGlobals "enumerate" = some none)
    (z_zip : PySem.W.nsIn K mainGlobals "zip" = some none)
    (z_set : PySem.W.nsIn K mainGlobals "set" = some none)
    (z_reversed : PySem.W.nsIn K mainGlobals "reversed" = some none)
    {C_InvalidTable C_InvalidNumber C_InvalidWords C_InvalidRange C_NothingToUndo C_Unreadable C_OrderError : Addr}
    {fE0 ccE0 cdaE0 : Addr} {nmE0 qE0 : Str} {NE0 : Addr} {bsE0 subE0 : List Value} {snE0 : List Str} {abE0 : Bool} {colE0 : Option Bool} {ddE0 : Option Addr} {m0E0 m1E0 m2E0 m3E0 m5E0 : Option Value} {ocE0 dcE0 pmE0 ctE0 clE0 cclE0 : Value} {odE0 anE0 cldE0 cddE0 : Option Addr} {slE0 cslE0 ccsE0 : Array (Option Value)} {vsE0 : Array Value} {fileE0 : Str} {tfE0 : Tok}
    {fE1 ccE1 cdaE1 : Addr} {nmE1 qE1 : Str} {NE1 : Addr} {bsE1 subE1 : List Value} {snE1 : List Str} {abE1 : Bool} {colE1 : Option Bool} {ddE1 : Option Addr} {m0E1 m1E1 m2E1 m3E1 m5E1 : Option Value} {ocE1 dcE1 pmE1 ctE1 clE1 cclE1 : Value} {odE1 anE1 cldE1 cddE1 : Option Addr} {slE1 cslE1 ccsE1 : Array (Option Value)} {vsE1 : Array Value} {fileE1 : Str} {tfE1 : Tok}
    {fE2 ccE2 cdaE2 : Addr} {nmE2 qE2 : Str} {NE2 : Addr} {bsE2 subE2 : List Value} {snE2 : List Str} {abE2 : Bool} {colE2 : Option Bool} {ddE2 : Option Addr} {m0E2 m1E2 m2E2 m3E2 m5E2 : Option Value} {ocE2 dcE2 pmE2 ctE2 clE2 cclE2 : Value} {odE2 anE2 cldE2 cddE2 : Option Addr} {slE2 cslE2 ccsE2 : Array (Option Value)} {vsE2 : Array Value} {fileE2 : Str} {tfE2 : Tok}
    {fE3 ccE3 cdaE3 : Addr} {nmE3 qE3 : Str} {NE3 : Addr} {bsE3 subE3 : List Value} {snE3 : List Str} {abE3 : Bool} {colE3 : Option Bool} {ddE3 : Option Addr} {m0E3 m1E3 m2E3 m3E3 m5E3 : Option Value} {ocE3 dcE3 pmE3 ctE3 clE3 cclE3 : Value} {odE3 anE3 cldE3 cddE3 : Option Addr} {slE3 cslE3 ccsE3 : Array (Option Value)} {vsE3 : Array Value} {fileE3 : Str} {tfE3 : Tok}
    {fE4 ccE4 cdaE4 : Addr} {nmE4 qE4 : Str} {NE4 : Addr} {bsE4 subE4 : List Value} {snE4 : List Str} {abE4 : Bool} {colE4 : Option Bool} {ddE4 : Option Addr} {m0E4 m1E4 m2E4 m3E4 m5E4 : Option Value} {ocE4 dcE4 pmE4 ctE4 clE4 cclE4 : Value} {odE4 anE4 cldE4 cddE4 : Option Addr} {slE4 cslE4 ccsE4 : Array (Option Value)} {vsE4 : Array Value} {fileE4 : Str} {tfE4 : Tok}
    {fE5 ccE5 cdaE5 : Addr} {nmE5 qE5 : Str} {NE5 : Addr} {bsE5 subE5 : List Value} {snE5 : List Str} {abE5 : Bool} {colE5 : Option Bool} {ddE5 : Option Addr} {m0E5 m1E5 m2E5 m3E5 m5E5 : Option Value} {ocE5 dcE5 pmE5 ctE5 clE5 cclE5 : Value} {odE5 anE5 cldE5 cddE5 : Option Addr} {slE5 cslE5 ccsE5 : Array (Option Value)} {vsE5 : Array Value} {fileE5 : Str} {tfE5 : Tok}
    (aO : PySem.W.nsIn K mainGlobals "OrderError" = some (some (.ref C_OrderError)))
    (ga_OrderError : PySem.W.findIn K (.ref C_OrderError) "__getattribute__" = some (some (.builtin "BaseException.__getattribute__")))
    (gg_OrderError : PySem.W.findIn K (.ref C_OrderError) "__getattr__" = some none)
    (eC_OrderError : PySem.W.subIn K (.ref C_OrderError) (.type "BaseException") = some true)
    (hC_OrderError : PySem.W.hasDictIn K C_OrderError = true)
    (cl_OrderError : PySem.W.findIn K (.ref C_OrderError) "__class__" = some (some (.builtin "object.__class__")))
    (mo_OrderError : PySem.W.mroIn K C_OrderError (.type "object") = some true)
    (is_OrderError : PySem.W.isClsIn K C_OrderError = true)
    (ty_OrderError : PySem.W.typeIn K (.ref C_OrderError) = some (.type "type"))
    (ss_OrderError : PySem.W.subIn K (.ref C_OrderError) (.ref C_OrderError) = some true)
    (kC_OrderError : PySem.W.keepIn K (.ref C_OrderError) = true)
    (xO : PySem.W.excIn K C_OrderError [.type "ValueError", .type "Exception", .type "BaseException", .type "object"] "ValueError.__new__" = true)
    (cg : PySem.W.specialIn K (.builtin "object.__class__") "__get__" = some (some (.builtin "getset_descriptor.__get__")))
    (ct : PySem.W.takesIn K (.builtin "object.__class__") = some true)
    (nst : PySem.W.nsIn K cStatics "thirdparty.any" = some none)
    (zS : PySem.W.nsIn K mainGlobals "super" = some none)
    (zV : PySem.W.nsIn K mainGlobals "ValueError" = some none)
    (top : (P.main.scope.names.lookup ("super" : Str)).isSome = false)
    (aE0 : PySem.W.nsIn K mainGlobals "InvalidTable" = some (some (.ref C_InvalidTable)))
    (xLE0 : K.lookup C_InvalidTable = some (excClassObj nmE0 qE0 C_InvalidTable NE0 bsE0 [.ref C_OrderError, .type "ValueError", .type "Exception", .type "BaseException", .type "object"] true snE0 subE0 abE0 colE0 ddE0 m0E0 m1E0 m2E0 m3E0 m5E0 "ValueError.__new__"))
    (ga_InvalidTable : PySem.W.findIn K (.ref C_InvalidTable) "__getattribute__" = some (some (.builtin "BaseException.__getattribute__")))
    (gg_InvalidTable : PySem.W.findIn K (.ref C_InvalidTable) "__getattr__" = some none)
    (eC_InvalidTable : PySem.W.subIn K (.ref C_InvalidTable) (.type "BaseException") = some true)
    (hC_InvalidTable : PySem.W.hasDictIn K C_InvalidTable = true)
    (cl_InvalidTable : PySem.W.findIn K (.ref C_InvalidTable) "__class__" = some (some (.builtin "object.__class__")))
    (mo_InvalidTable : PySem.W.mroIn K C_InvalidTable (.type "object") = some true)
    (is_InvalidTable : PySem.W.isClsIn K C_InvalidTable = true)
    (ty_InvalidTable : PySem.W.typeIn K (.ref C_InvalidTable) = some (.type "type"))
    (ss_InvalidTable : PySem.W.subIn K (.ref C_InvalidTable) (.ref C_InvalidTable) = some true)
    (kC_InvalidTable : PySem.W.keepIn K (.ref C_InvalidTable) = true)
    (saE0 : PySem.W.findIn K (.ref C_InvalidTable) "__setattr__" = some (some (.builtin "object.__setattr__")))
    (nvE0 : PySem.W.findIn K (.ref C_InvalidTable) "value" = some none)
    (iCE0 : PySem.W.findIn K (.ref C_InvalidTable) "__init__" = some (some (.ref fE0)))
    (tCE0 : PySem.W.typeIn K (.ref fE0) = some (.type "function"))
    (veE0 : PySem.W.subIn K (.ref C_InvalidTable) (.type "ValueError") = some true)
    (meE0 : PySem.W.mroIn K C_InvalidTable (.ref C_InvalidTable) = some true)
    (suE0 : PySem.W.ks_superIn K C_InvalidTable C_InvalidTable "__init__" = some (some (.builtin "ValueError.__init__")))
    (lE0 : K.lookup fE0 = some ⟨ocE0, odE0, .func (PySem.W.fnX "__init__" "InvalidTable.__init__" (defArgs s_InvalidTable___init__) (defBody s_InvalidTable___init__) (defScope s_InvalidTable___init__) [("__class__", ccE0)] .none .none dcE0 pmE0 anE0 (.ref cdaE0) ctE0), slE0⟩)
    (cE0 : PySem.W.codeIn K (.ref cdaE0) "InvalidTable.__init__" = true)
    (ceE0 : K.lookup ccE0 = some ⟨clE0, cldE0, .cell (some (.ref C_InvalidTable)), cslE0⟩)
    (coE0 : K.lookup cdaE0 = some ⟨cclE0, cddE0, .fields vsE0, ccsE0⟩)
    (vsE0 : vsE0[2]? = some (.str fileE0 tfE0))
    (fiE0 : ((P.main.file : Str) == fileE0) = true)
    (soE0 : PySem.W.subIn K (.ref C_InvalidTable) (.ref C_OrderError) = some true)
    (noE0 : PySem.W.subIn K (.ref C_OrderError) (.ref C_InvalidTable) = some false)
    (aE1 : PySem.W.nsIn K mainGlobals "InvalidNumber" = some (some (.ref C_InvalidNumber)))
    (xLE1 : K.lookup C_InvalidNumber = some (excClassObj nmE1 qE1 C_InvalidNumber NE1 bsE1 [.ref C_OrderError, .type "ValueError", .type "Exception", .type "BaseException", .type "object"] true snE1 subE1 abE1 colE1 ddE1 m0E1 m1E1 m2E1 m3E1 m5E1 "ValueError.__new__"))
    (ga_InvalidNumber : PySem.W.findIn K (.ref C_InvalidNumber) "__getattribute__" = some (some (.builtin "BaseException.__getattribute__")))
    (gg_InvalidNumber : PySem.W.findIn K (.ref C_InvalidNumber) "__getattr__" = some none)
    (eC_InvalidNumber : PySem.W.subIn K (.ref C_InvalidNumber) (.type "BaseException") = some true)
    (hC_InvalidNumber : PySem.W.hasDictIn K C_InvalidNumber = true)
    (cl_InvalidNumber : PySem.W.findIn K (.ref C_InvalidNumber) "__class__" = some (some (.builtin "object.__class__")))
    (mo_InvalidNumber : PySem.W.mroIn K C_InvalidNumber (.type "object") = some true)
    (is_InvalidNumber : PySem.W.isClsIn K C_InvalidNumber = true)
    (ty_InvalidNumber : PySem.W.typeIn K (.ref C_InvalidNumber) = some (.type "type"))
    (ss_InvalidNumber : PySem.W.subIn K (.ref C_InvalidNumber) (.ref C_InvalidNumber) = some true)
    (kC_InvalidNumber : PySem.W.keepIn K (.ref C_InvalidNumber) = true)
    (saE1 : PySem.W.findIn K (.ref C_InvalidNumber) "__setattr__" = some (some (.builtin "object.__setattr__")))
    (nvE1 : PySem.W.findIn K (.ref C_InvalidNumber) "value" = some none)
    (iCE1 : PySem.W.findIn K (.ref C_InvalidNumber) "__init__" = some (some (.ref fE1)))
    (tCE1 : PySem.W.typeIn K (.ref fE1) = some (.type "function"))
    (veE1 : PySem.W.subIn K (.ref C_InvalidNumber) (.type "ValueError") = some true)
    (meE1 : PySem.W.mroIn K C_InvalidNumber (.ref C_InvalidNumber) = some true)
    (suE1 : PySem.W.ks_superIn K C_InvalidNumber C_InvalidNumber "__init__" = some (some (.builtin "ValueError.__init__")))
    (lE1 : K.lookup fE1 = some ⟨ocE1, odE1, .func (PySem.W.fnX "__init__" "InvalidNumber.__init__" (defArgs s_InvalidNumber___init__) (defBody s_InvalidNumber___init__) (defScope s_InvalidNumber___init__) [("__class__", ccE1)] .none .none dcE1 pmE1 anE1 (.ref cdaE1) ctE1), slE1⟩)
    (cE1 : PySem.W.codeIn K (.ref cdaE1) "InvalidNumber.__init__" = true)
    (ceE1 : K.lookup ccE1 = some ⟨clE1, cldE1, .cell (some (.ref C_InvalidNumber)), cslE1⟩)
    (coE1 : K.lookup cdaE1 = some ⟨cclE1, cddE1, .fields vsE1, ccsE1⟩)
    (vsE1 : vsE1[2]? = some (.str fileE1 tfE1))
    (fiE1 : ((P.main.file : Str) == fileE1) = true)
    (soE1 : PySem.W.subIn K (.ref C_InvalidNumber) (.ref C_OrderError) = some true)
    (noE1 : PySem.W.subIn K (.ref C_OrderError) (.ref C_InvalidNumber) = some false)
    (aE2 : PySem.W.nsIn K mainGlobals "InvalidWords" = some (some (.ref C_InvalidWords)))
    (xLE2 : K.lookup C_InvalidWords = some (excClassObj nmE2 qE2 C_InvalidWords NE2 bsE2 [.ref C_OrderError, .type "ValueError", .type "Exception", .type "BaseException", .type "object"] true snE2 subE2 abE2 colE2 ddE2 m0E2 m1E2 m2E2 m3E2 m5E2 "ValueError.__new__"))
    (ga_InvalidWords : PySem.W.findIn K (.ref C_InvalidWords) "__getattribute__" = some (some (.builtin "BaseException.__getattribute__")))
    (gg_InvalidWords : PySem.W.findIn K (.ref C_InvalidWords) "__getattr__" = some none)
    (eC_InvalidWords : PySem.W.subIn K (.ref C_InvalidWords) (.type "BaseException") = some true)
    (hC_InvalidWords : PySem.W.hasDictIn K C_InvalidWords = true)
    (cl_InvalidWords : PySem.W.findIn K (.ref C_InvalidWords) "__class__" = some (some (.builtin "object.__class__")))
    (mo_InvalidWords : PySem.W.mroIn K C_InvalidWords (.type "object") = some true)
    (is_InvalidWords : PySem.W.isClsIn K C_InvalidWords = true)
    (ty_InvalidWords : PySem.W.typeIn K (.ref C_InvalidWords) = some (.type "type"))
    (ss_InvalidWords : PySem.W.subIn K (.ref C_InvalidWords) (.ref C_InvalidWords) = some true)
    (kC_InvalidWords : PySem.W.keepIn K (.ref C_InvalidWords) = true)
    (saE2 : PySem.W.findIn K (.ref C_InvalidWords) "__setattr__" = some (some (.builtin "object.__setattr__")))
    (nvE2 : PySem.W.findIn K (.ref C_InvalidWords) "value" = some none)
    (iCE2 : PySem.W.findIn K (.ref C_InvalidWords) "__init__" = some (some (.ref fE2)))
    (tCE2 : PySem.W.typeIn K (.ref fE2) = some (.type "function"))
    (veE2 : PySem.W.subIn K (.ref C_InvalidWords) (.type "ValueError") = some true)
    (meE2 : PySem.W.mroIn K C_InvalidWords (.ref C_InvalidWords) = some true)
    (suE2 : PySem.W.ks_superIn K C_InvalidWords C_InvalidWords "__init__" = some (some (.builtin "ValueError.__init__")))
    (lE2 : K.lookup fE2 = some ⟨ocE2, odE2, .func (PySem.W.fnX "__init__" "InvalidWords.__init__" (defArgs s_InvalidWords___init__) (defBody s_InvalidWords___init__) (defScope s_InvalidWords___init__) [("__class__", ccE2)] .none .none dcE2 pmE2 anE2 (.ref cdaE2) ctE2), slE2⟩)
    (cE2 : PySem.W.codeIn K (.ref cdaE2) "InvalidWords.__init__" = true)
    (ceE2 : K.lookup ccE2 = some ⟨clE2, cldE2, .cell (some (.ref C_InvalidWords)), cslE2⟩)
    (coE2 : K.lookup cdaE2 = some ⟨cclE2, cddE2, .fields vsE2, ccsE2⟩)
    (vsE2 : vsE2[2]? = some (.str fileE2 tfE2))
    (fiE2 : ((P.main.file : Str) == fileE2) = true)
    (soE2 : PySem.W.subIn K (.ref C_InvalidWords) (.ref C_OrderError) = some true)
    (noE2 : PySem.W.subIn K (.ref C_OrderError) (.ref C_InvalidWords) = some false)
    (aE3 : PySem.W.nsIn K mainGlobals "InvalidRange" = some (some (.ref C_InvalidRange)))
    (xLE3 : K.lookup C_InvalidRange = some (excClassObj nmE3 qE3 C_InvalidRange NE3 bsE3 [.ref C_OrderError, .type "ValueError", .type "Exception", .type "BaseException", .type "object"] true snE3 subE3 abE3 colE3 ddE3 m0E3 m1E3 m2E3 m3E3 m5E3 "ValueError.__new__"))
    (ga_InvalidRange : PySem.W.findIn K (.ref C_InvalidRange) "__getattribute__" = some (some (.builtin "BaseException.__getattribute__")))
    (gg_InvalidRange : PySem.W.findIn K (.ref C_InvalidRange) "__getattr__" = some none)
    (eC_InvalidRange : PySem.W.subIn K (.ref C_InvalidRange) (.type "BaseException") = some true)
    (hC_InvalidRange : PySem.W.hasDictIn K C_InvalidRange = true)
    (cl_InvalidRange : PySem.W.findIn K (.ref C_InvalidRange) "__class__" = some (some (.builtin "object.__class__")))
    (mo_InvalidRange : PySem.W.mroIn K C_InvalidRange (.type "object") = some true)
    (is_InvalidRange : PySem.W.isClsIn K C_InvalidRange = true)
    (ty_InvalidRange : PySem.W.typeIn K (.ref C_InvalidRange) = some (.type "type"))
    (ss_InvalidRange : PySem.W.subIn K (.ref C_InvalidRange) (.ref C_InvalidRange) = some true)
    (kC_InvalidRange : PySem.W.keepIn K (.ref C_InvalidRange) = true)
    (saE3 : PySem.W.findIn K (.ref C_InvalidRange) "__setattr__" = some (some (.builtin "object.__setattr__")))
    (nvE3 : PySem.W.findIn K (.ref C_InvalidRange) "value" = some none)
    (iCE3 : PySem.W.findIn K (.ref C_InvalidRange) "__init__" = some (some (.ref fE3)))
    (tCE3 : PySem.W.typeIn K (.ref fE3) = some (.type "function"))
    (veE3 : PySem.W.subIn K (.ref C_InvalidRange) (.type "ValueError") = some true)
    (meE3 : PySem.W.mroIn K C_InvalidRange (.ref C_InvalidRange) = some true)
    (suE3 : PySem.W.ks_superIn K C_InvalidRange C_InvalidRange "__init__" = some (some (.builtin "ValueError.__init__")))
    (lE3 : K.lookup fE3 = some ⟨ocE3, odE3, .func (PySem.W.fnX "__init__" "InvalidRange.__init__" (defArgs s_InvalidRange___init__) (defBody s_InvalidRange___init__) (defScope s_InvalidRange___init__) [("__class__", ccE3)] .none .none dcE3 pmE3 anE3 (.ref cdaE3) ctE3), slE3⟩)
    (cE3 : PySem.W.codeIn K (.ref cdaE3) "InvalidRange.__init__" = true)
    (ceE3 : K.lookup ccE3 = some ⟨clE3, cldE3, .cell (some (.ref C_InvalidRange)), cslE3⟩)
    (coE3 : K.lookup cdaE3 = some ⟨cclE3, cddE3, .fields vsE3, ccsE3⟩)
    (vsE3 : vsE3[2]? = some (.str fileE3 tfE3))
    (fiE3 : ((P.main.file : Str) == fileE3) = true)
    (soE3 : PySem.W.subIn K (.ref C_InvalidRange) (.ref C_OrderError) = some true)
    (noE3 : PySem.W.subIn K (.ref C_OrderError) (.ref C_InvalidRange) = some false)
    (aE4 : PySem.W.nsIn K mainGlobals "NothingToUndo" = some (some (.ref C_NothingToUndo)))
    (xLE4 : K.lookup C_NothingToUndo = some (excClassObj nmE4 qE4 C_NothingToUndo NE4 bsE4 [.ref C_OrderError, .type "ValueError", .type "Exception", .type "BaseException", .type "object"] true snE4 subE4 abE4 colE4 ddE4 m0E4 m1E4 m2E4 m3E4 m5E4 "ValueError.__new__"))
    (ga_NothingToUndo : PySem.W.findIn K (.ref C_NothingToUndo) "__getattribute__" = some (some (.builtin "BaseException.__getattribute__")))
    (gg_NothingToUndo : PySem.W.findIn K (.ref C_NothingToUndo) "__getattr__" = some none)
    (eC_NothingToUndo : PySem.W.subIn K (.ref C_NothingToUndo) (.type "BaseException") = some true)
    (hC_NothingToUndo : PySem.W.hasDictIn K C_NothingToUndo = true)
    (cl_NothingToUndo : PySem.W.findIn K (.ref C_NothingToUndo) "__class__" = some (some (.builtin "object.__class__")))
    (mo_NothingToUndo : PySem.W.mroIn K C_NothingToUndo (.type "object") = some true)
    (is_NothingToUndo : PySem.W.isClsIn K C_NothingToUndo = true)
    (ty_NothingToUndo : PySem.W.typeIn K (.ref C_NothingToUndo) = some (.type "type"))
    (ss_NothingToUndo : PySem.W.subIn K (.ref C_NothingToUndo) (.ref C_NothingToUndo) = some true)
    (kC_NothingToUndo : PySem.W.keepIn K (.ref C_NothingToUndo) = true)
    (saE4 : PySem.W.findIn K (.ref C_NothingToUndo) "__setattr__" = some (some (.builtin "object.__setattr__")))
    (nvE4 : PySem.W.findIn K (.ref C_NothingToUndo) "value" = some none)
    (iCE4 : PySem.W.findIn K (.ref C_NothingToUndo) "__init__" = some (some (.ref fE4)))
    (tCE4 : PySem.W.typeIn K (.ref fE4) = some (.type "function"))
    (veE4 : PySem.W.subIn K (.ref C_NothingToUndo) (.type "ValueError") = some true)
    (meE4 : PySem.W.mroIn K C_NothingToUndo (.ref C_NothingToUndo) = some true)
    (suE4 : PySem.W.ks_superIn K C_NothingToUndo C_NothingToUndo "__init__" = some (some (.builtin "ValueError.__init__")))
    (lE4 : K.lookup fE4 = some ⟨ocE4, odE4, .func (PySem.W.fnX "__init__" "NothingToUndo.__init__" (defArgs s_NothingToUndo___init__) (defBody s_NothingToUndo___init__) (defScope s_NothingToUndo___init__) [("__class__", ccE4)] .none .none dcE4 pmE4 anE4 (.ref cdaE4) ctE4), slE4⟩)
    (cE4 : PySem.W.codeIn K (.ref cdaE4) "NothingToUndo.__init__" = true)
    (ceE4 : K.lookup ccE4 = some ⟨clE4, cldE4, .cell (some (.ref C_NothingToUndo)), cslE4⟩)
    (coE4 : K.lookup cdaE4 = some ⟨cclE4, cddE4, .fields vsE4, ccsE4⟩)
    (vsE4 : vsE4[2]? = some (.str fileE4 tfE4))
    (fiE4 : ((P.main.file : Str) == fileE4) = true)
    (soE4 : PySem.W.subIn K (.ref C_NothingToUndo) (.ref C_OrderError) = some true)
    (noE4 : PySem.W.subIn K (.ref C_OrderError) (.ref C_NothingToUndo) = some false)
    (aE5 : PySem.W.nsIn K mainGlobals "Unreadable" = some (some (.ref C_Unreadable)))
    (xLE5 : K.lookup C_Unreadable = some (excClassObj nmE5 qE5 C_Unreadable NE5 bsE5 [.ref C_OrderError, .type "ValueError", .type "Exception", .type "BaseException", .type "object"] true snE5 subE5 abE5 colE5 ddE5 m0E5 m1E5 m2E5 m3E5 m5E5 "ValueError.__new__"))
    (ga_Unreadable : PySem.W.findIn K (.ref C_Unreadable) "__getattribute__" = some (some (.builtin "BaseException.__getattribute__")))
    (gg_Unreadable : PySem.W.findIn K (.ref C_Unreadable) "__getattr__" = some none)
    (eC_Unreadable : PySem.W.subIn K (.ref C_Unreadable) (.type "BaseException") = some true)
    (hC_Unreadable : PySem.W.hasDictIn K C_Unreadable = true)
    (cl_Unreadable : PySem.W.findIn K (.ref C_Unreadable) "__class__" = some (some (.builtin "object.__class__")))
    (mo_Unreadable : PySem.W.mroIn K C_Unreadable (.type "object") = some true)
    (is_Unreadable : PySem.W.isClsIn K C_Unreadable = true)
    (ty_Unreadable : PySem.W.typeIn K (.ref C_Unreadable) = some (.type "type"))
    (ss_Unreadable : PySem.W.subIn K (.ref C_Unreadable) (.ref C_Unreadable) = some true)
    (kC_Unreadable : PySem.W.keepIn K (.ref C_Unreadable) = true)
    (saE5 : PySem.W.findIn K (.ref C_Unreadable) "__setattr__" = some (some (.builtin "object.__setattr__")))
    (nvE5 : PySem.W.findIn K (.ref C_Unreadable) "value" = some none)
    (iCE5 : PySem.W.findIn K (.ref C_Unreadable) "__init__" = some (some (.ref fE5)))
    (tCE5 : PySem.W.typeIn K (.ref fE5) = some (.type "function"))
    (veE5 : PySem.W.subIn K (.ref C_Unreadable) (.type "ValueError") = some true)
    (meE5 : PySem.W.mroIn K C_Unreadable (.ref C_Unreadable) = some true)
    (suE5 : PySem.W.ks_superIn K C_Unreadable C_Unreadable "__init__" = some (some (.builtin "ValueError.__init__")))
    (lE5 : K.lookup fE5 = some ⟨ocE5, odE5, .func (PySem.W.fnX "__init__" "Unreadable.__init__" (defArgs s_Unreadable___init__) (defBody s_Unreadable___init__) (defScope s_Unreadable___init__) [("__class__", ccE5)] .none .none dcE5 pmE5 anE5 (.ref cdaE5) ctE5), slE5⟩)
    (cE5 : PySem.W.codeIn K (.ref cdaE5) "Unreadable.__init__" = true)
    (ceE5 : K.lookup ccE5 = some ⟨clE5, cldE5, .cell (some (.ref C_Unreadable)), cslE5⟩)
    (coE5 : K.lookup cdaE5 = some ⟨cclE5, cddE5, .fields vsE5, ccsE5⟩)
    (vsE5 : vsE5[2]? = some (.str fileE5 tfE5))
    (fiE5 : ((P.main.file : Str) == fileE5) = true)
    (soE5 : PySem.W.subIn K (.ref C_Unreadable) (.ref C_OrderError) = some true)
    (noE5 : PySem.W.subIn K (.ref C_OrderError) (.ref C_Unreadable) = some false)
    (sn01 : PySem.W.subIn K (.ref C_InvalidTable) (.ref C_InvalidNumber) = some false)
    (sn02 : PySem.W.subIn K (.ref C_InvalidTable) (.ref C_InvalidWords) = some false)
    (sn03 : PySem.W.subIn K (.ref C_InvalidTable) (.ref C_InvalidRange) = some false)
    (sn04 : PySem.W.subIn K (.ref C_InvalidTable) (.ref C_NothingToUndo) = some false)
    (sn05 : PySem.W.subIn K (.ref C_InvalidTable) (.ref C_Unreadable) = some false)
    (sn10 : PySem.W.subIn K (.ref C_InvalidNumber) (.ref C_InvalidTable) = some false)
    (sn12 : PySem.W.subIn K (.ref C_InvalidNumber) (.ref C_InvalidWords) = some false)
    (sn13 : PySem.W.subIn K (.ref C_InvalidNumber) (.ref C_InvalidRange) = some false)
    (sn14 : PySem.W.subIn K (.ref C_InvalidNumber) (.ref C_NothingToUndo) = some false)
    (sn15 : PySem.W.subIn K (.ref C_InvalidNumber) (.ref C_Unreadable) = some false)
    (sn20 : PySem.W.subIn K (.ref C_InvalidWords) (.ref C_InvalidTable) = some false)
    (sn21 : PySem.W.subIn K (.ref C_InvalidWords) (.ref C_InvalidNumber) = some false)
    (sn23 : PySem.W.subIn K (.ref C_InvalidWords) (.ref C_InvalidRange) = some false)
    (sn24 : PySem.W.subIn K (.ref C_InvalidWords) (.ref C_NothingToUndo) = some false)
    (sn25 : PySem.W.subIn K (.ref C_InvalidWords) (.ref C_Unreadable) = some false)
    (sn30 : PySem.W.subIn K (.ref C_InvalidRange) (.ref C_InvalidTable) = some false)
    (sn31 : PySem.W.subIn K (.ref C_InvalidRange) (.ref C_InvalidNumber) = some false)
    (sn32 : PySem.W.subIn K (.ref C_InvalidRange) (.ref C_InvalidWords) = some false)
    (sn34 : PySem.W.subIn K (.ref C_InvalidRange) (.ref C_NothingToUndo) = some false)
    (sn35 : PySem.W.subIn K (.ref C_InvalidRange) (.ref C_Unreadable) = some false)
    (sn40 : PySem.W.subIn K (.ref C_NothingToUndo) (.ref C_InvalidTable) = some false)
    (sn41 : PySem.W.subIn K (.ref C_NothingToUndo) (.ref C_InvalidNumber) = some false)
    (sn42 : PySem.W.subIn K (.ref C_NothingToUndo) (.ref C_InvalidWords) = some false)
    (sn43 : PySem.W.subIn K (.ref C_NothingToUndo) (.ref C_InvalidRange) = some false)
    (sn45 : PySem.W.subIn K (.ref C_NothingToUndo) (.ref C_Unreadable) = some false)
    (sn50 : PySem.W.subIn K (.ref C_Unreadable) (.ref C_InvalidTable) = some false)
    (sn51 : PySem.W.subIn K (.ref C_Unreadable) (.ref C_InvalidNumber) = some false)
    (sn52 : PySem.W.subIn K (.ref C_Unreadable) (.ref C_InvalidWords) = some false)
    (sn53 : PySem.W.subIn K (.ref C_Unreadable) (.ref C_InvalidRange) = some false)
    (sn54 : PySem.W.subIn K (.ref C_Unreadable) (.ref C_NothingToUndo) = some false)
    : ∃ fd : FuncData, (∀ (s : Shared) (v : Value), BindsTo s fd ⟨[v], []⟩ [("script", v)]) ∧ ∀ base : Heap, K.In base → base.Ns mainGlobals mg → FnG P w K mg base CX0 4 fa fd ["script"] (Sp_law K) := by
  have e := hfa.symm.trans (PySem.W.mg_of X G a4)
  cases e
  have F0 := fun_mk (st := s_law_bag) l0 c0 k0
  have F1 := fun_mk (st := s_law_draw) l1 c1 k1
  have F2 := fun_mk (st := s_law_made) l2 c2 k2
  have F3 := fun_mk (st := s_law_flags) l3 c3 k3
  have F4 := fun_mk (st := s_law) l4 c4 k4
  have T : Bi mg := ⟨PySem.W.mg_none_of X G z_len, PySem.W.mg_none_of X G z_sum, PySem.W.mg_none_of X G z_all, PySem.W.mg_none_of X G z_any, PySem.W.mg_none_of X G z_max, PySem.W.mg_none_of X G z_min, PySem.W.mg_none_of X G z_abs, PySem.W.mg_none_of X G z_divmod, PySem.W.mg_none_of X G z_range, PySem.W.mg_none_of X G z_isinstance, PySem.W.mg_none_of X G z_repr, PySem.W.mg_none_of X G z_sorted, PySem.W.mg_none_of X G z_list, PySem.W.mg_none_of X G z_int, PySem.W.mg_none_of X G z_str, PySem.W.mg_none_of X G z_bool, PySem.W.mg_none_of X G z_tuple, PySem.W.mg_none_of X G z_enumerate, PySem.W.mg_none_of X G z_zip, PySem.W.mg_none_of X G z_set, PySem.W.mg_none_of X G z_reversed⟩
  have e_InvalidTable : PySem.ErrX.ErrTxt P K mg "InvalidTable" C_InvalidTable fE0 J_InvalidTable := { js := jf_js jf_InvalidTable, je := jf_je jf_InvalidTable, gC := PySem.W.mg_of X G aE0, gS := PySem.W.mg_none_of X G zS, cls := ⟨_, _, _, _, _, _, _, _, _, _, _, _, _, _, _, xLE0, rfl⟩, sa := saE0, noV := nvE0, iC := iCE0, tC := tCE0, kC := kC_InvalidTable, veC := veE0, meC := meE0, sup := suE0, nst := nst, top := top, fn := ⟨_, _, _, _, _, _, _, _, _, _, _, _, _, _, _, _, _, _, _, _, _, _, _, _, _, _, _, _, _, _, lE0, cE0, ceE0, coE0, vsE0, fiE0, rfl⟩ }
  have e_InvalidNumber : PySem.ErrX.ErrTxt P K mg "InvalidNumber" C_InvalidNumber fE1 J_InvalidNumber := { js := jf_js jf_InvalidNumber, je := jf_je jf_InvalidNumber, gC := PySem.W.mg_of X G aE1, gS := PySem.W.mg_none_of X G zS, cls := ⟨_, _, _, _, _, _, _, _, _, _, _, _, _, _, _, xLE1, rfl⟩, sa := saE1, noV := nvE1, iC := iCE1, tC := tCE1, kC := kC_InvalidNumber, veC := veE1, meC := meE1, sup := suE1, nst := nst, top := top, fn := ⟨_, _, _, _, _, _, _, _, _, _, _, _, _, _, _, _, _, _, _, _, _, _, _, _, _, _, _, _, _, _, lE1, cE1, ceE1, coE1, vsE1, fiE1, rfl⟩ }
  have e_InvalidWords : PySem.ErrX.ErrTxt P K mg "InvalidWords" C_InvalidWords fE2 J_InvalidWords := { js := jf_js jf_InvalidWords, je := jf_je jf_InvalidWords, gC := PySem.W.mg_of X G aE2, gS := PySem.W.mg_none_of X G zS, cls := ⟨_, _, _, _, _, _, _, _, _, _, _, _, _, _, _, xLE2, rfl⟩, sa := saE2, noV := nvE2, iC := iCE2, tC := tCE2, kC := kC_InvalidWords, veC := veE2, meC := meE2, sup := suE2, nst := nst, top := top, fn := ⟨_, _, _, _, _, _, _, _, _, _, _, _, _, _, _, _, _, _, _, _, _, _, _, _, _, _, _, _, _, _, lE2, cE2, ceE2, coE2, vsE2, fiE2, rfl⟩ }
  have e_InvalidRange : PySem.ErrX.ErrTxt P K mg "InvalidRange" C_InvalidRange fE3 J_InvalidRange := { js := jf_js jf_InvalidRange, je := jf_je jf_InvalidRange, gC := PySem.W.mg_of X G aE3, gS := PySem.W.mg_none_of X G zS, cls := ⟨_, _, _, _, _, _, _, _, _, _, _, _, _, _, _, xLE3, rfl⟩, sa := saE3, noV := nvE3, iC := iCE3, tC := tCE3, kC := kC_InvalidRange, veC := veE3, meC := meE3, sup := suE3, nst := nst, top := top, fn := ⟨_, _, _, _, _, _, _, _, _, _, _, _, _, _, _, _, _, _, _, _, _, _, _, _, _, _, _, _, _, _, lE3, cE3, ceE3, coE3, vsE3, fiE3, rfl⟩ }
  have e_NothingToUndo : PySem.ErrX.ErrTxt P K mg "NothingToUndo" C_NothingToUndo fE4 J_NothingToUndo := { js := jf_js jf_NothingToUndo, je := jf_je jf_NothingToUndo, gC := PySem.W.mg_of X G aE4, gS := PySem.W.mg_none_of X G zS, cls := ⟨_, _, _, _, _, _, _, _, _, _, _, _, _, _, _, xLE4, rfl⟩, sa := saE4, noV := nvE4, iC := iCE4, tC := tCE4, kC := kC_NothingToUndo, veC := veE4, meC := meE4, sup := suE4, nst := nst, top := top, fn := ⟨_, _, _, _, _, _, _, _, _, _, _, _, _, _, _, _, _, _, _, _, _, _, _, _, _, _, _, _, _, _, lE4, cE4, ceE4, coE4, vsE4, fiE4, rfl⟩ }
  have e_Unreadable : PySem.ErrX.ErrTxt P K mg "Unreadable" C_Unreadable fE5 J_Unreadable := { js := jf_js jf_Unreadable, je := jf_je jf_Unreadable, gC := PySem.W.mg_of X G aE5, gS := PySem.W.mg_none_of X G zS, cls := ⟨_, _, _, _, _, _, _, _, _, _, _, _, _, _, _, xLE5, rfl⟩, sa := saE5, noV := nvE5, iC := iCE5, tC := tCE5, kC := kC_Unreadable, veC := veE5, meC := meE5, sup := suE5, nst := nst, top := top, fn := ⟨_, _, _, _, _, _, _, _, _, _, _, _, _, _, _, _, _, _, _, _, _, _, _, _, _, _, _, _, _, _, lE5, cE5, ceE5, coE5, vsE5, fiE5, rfl⟩ }
  have kit : ∀ i j, i < 6 → j < 6 → PySem.W.kitOne K (.ref (cls6 C_InvalidTable C_InvalidNumber C_InvalidWords C_InvalidRange C_NothingToUndo C_Unreadable i)) (.ref (cls6 C_InvalidTable C_InvalidNumber C_InvalidWords C_InvalidRange C_NothingToUndo C_Unreadable j)) = some (decide (i = j)) := fun i j hi hj => match i, j, hi, hj with
    | 0, 0, _, _ => PySem.W.kit_self
    | 0, 1, _, _ => PySem.W.kit_own is_InvalidNumber ty_InvalidNumber sn01 (ne_of_sub sn01 ss_InvalidTable)
    | 0, 2, _, _ => PySem.W.kit_own is_InvalidWords ty_InvalidWords sn02 (ne_of_sub sn02 ss_InvalidTable)
    | 0, 3, _, _ => PySem.W.kit_own is_InvalidRange ty_InvalidRange sn03 (ne_of_sub sn03 ss_InvalidTable)
    | 0, 4, _, _ => PySem.W.kit_own is_NothingToUndo ty_NothingToUndo sn04 (ne_of_sub sn04 ss_InvalidTable)
    | 0, 5, _, _ => PySem.W.kit_own is_Unreadable ty_Unreadable sn05 (ne_of_sub sn05 ss_InvalidTable)
    | 1, 0, _, _ => PySem.W.kit_own is_InvalidTable ty_InvalidTable sn10 (ne_of_sub sn10 ss_InvalidNumber)
    | 1, 1, _, _ => PySem.W.kit_self
    | 1, 2, _, _ => PySem.W.kit_own is_InvalidWords ty_InvalidWords sn12 (ne_of_sub sn12 ss_InvalidNumber)
    | 1, 3, _, _ => PySem.W.kit_own is_InvalidRange ty_InvalidRange sn13 (ne_of_sub sn13 ss_InvalidNumber)
    | 1, 4, _, _ => PySem.W.kit_own is_NothingToUndo ty_NothingToUndo sn14 (ne_of_sub sn14 ss_InvalidNumber)
    | 1, 5, _, _ => PySem.W.kit_own is_Unreadable ty_Unreadable sn15 (ne_of_sub sn15 ss_InvalidNumber)
    | 2, 0, _, _ => PySem.W.kit_own is_InvalidTable ty_InvalidTable sn20 (ne_of_sub sn20 ss_InvalidWords)
    | 2, 1, _, _ => PySem.W.kit_own is_InvalidNumber ty_InvalidNumber sn21 (ne_of_sub sn21 ss_InvalidWords)
    | 2, 2, _, _ => PySem.W.kit_self
    | 2, 3, _, _ => PySem.W.kit_own is_InvalidRange ty_InvalidRange sn23 (ne_of_sub sn23 ss_InvalidWords)
    | 2, 4, _, _ => PySem.W.kit_own is_NothingToUndo ty_NothingToUndo sn24 (ne_of_sub sn24 ss_InvalidWords)
    | 2, 5, _, _ => PySem.W.kit_own is_Unreadable ty_Unreadable sn25 (ne_of_sub sn25 ss_InvalidWords)
    | 3, 0, _, _ => PySem.W.kit_own is_InvalidTable ty_InvalidTable sn30 (ne_of_sub sn30 ss_InvalidRange)
    | 3, 1, _, _ => PySem.W.kit_own is_InvalidNumber ty_InvalidNumber sn31 (ne_of_sub sn31 ss_InvalidRange)
    | 3, 2, _, _ => PySem.W.kit_own is_InvalidWords ty_InvalidWords sn32 (ne_of_sub sn32 ss_InvalidRange)
    | 3, 3, _, _ => PySem.W.kit_self
    | 3, 4, _, _ => PySem.W.kit_own is_NothingToUndo ty_NothingToUndo sn34 (ne_of_sub sn34 ss_InvalidRange)
    | 3, 5, _, _ => PySem.W.kit_own is_Unreadable ty_Unreadable sn35 (ne_of_sub sn35 ss_InvalidRange)
    | 4, 0, _, _ => PySem.W.kit_own is_InvalidTable ty_InvalidTable sn40 (ne_of_sub sn40 ss_NothingToUndo)
    | 4, 1, _, _ => PySem.W.kit_own is_InvalidNumber ty_InvalidNumber sn41 (ne_of_sub sn41 ss_NothingToUndo)
    | 4, 2, _, _ => PySem.W.kit_own is_InvalidWords ty_InvalidWords sn42 (ne_of_sub sn42 ss_NothingToUndo)
    | 4, 3, _, _ => PySem.W.kit_own is_InvalidRange ty_InvalidRange sn43 (ne_of_sub sn43 ss_NothingToUndo)
    | 4, 4, _, _ => PySem.W.kit_self
    | 4, 5, _, _ => PySem.W.kit_own is_Unreadable ty_Unreadable sn45 (ne_of_sub sn45 ss_NothingToUndo)
    | 5, 0, _, _ => PySem.W.kit_own is_InvalidTable ty_InvalidTable sn50 (ne_of_sub sn50 ss_Unreadable)
    | 5, 1, _, _ => PySem.W.kit_own is_InvalidNumber ty_InvalidNumber sn51 (ne_of_sub sn51 ss_Unreadable)
    | 5, 2, _, _ => PySem.W.kit_own is_InvalidWords ty_InvalidWords sn52 (ne_of_sub sn52 ss_Unreadable)
    | 5, 3, _, _ => PySem.W.kit_own is_InvalidRange ty_InvalidRange sn53 (ne_of_sub sn53 ss_Unreadable)
    | 5, 4, _, _ => PySem.W.kit_own is_NothingToUndo ty_NothingToUndo sn54 (ne_of_sub sn54 ss_Unreadable)
    | 5, 5, _, _ => PySem.W.kit_self
    | n + 6, _, hi, _ => absurd hi (by omega)
    | _, n + 6, _, hj => absurd hj (by omega)
  have kitO : ∀ i, i < 6 → PySem.W.kitOne K (.ref (cls6 C_InvalidTable C_InvalidNumber C_InvalidWords C_InvalidRange C_NothingToUndo C_Unreadable i)) (.ref C_OrderError) = some true := fun i hi => match i, hi with
    | 0, _ => PySem.W.kit_own is_OrderError ty_OrderError soE0 (ne_of_sub noE0 ss_OrderError).symm
    | 1, _ => PySem.W.kit_own is_OrderError ty_OrderError soE1 (ne_of_sub noE1 ss_OrderError).symm
    | 2, _ => PySem.W.kit_own is_OrderError ty_OrderError soE2 (ne_of_sub noE2 ss_OrderError).symm
    | 3, _ => PySem.W.kit_own is_OrderError ty_OrderError soE3 (ne_of_sub noE3 ss_OrderError).symm
    | 4, _ => PySem.W.kit_own is_OrderError ty_OrderError soE4 (ne_of_sub noE4 ss_OrderError).symm
    | 5, _ => PySem.W.kit_own is_OrderError ty_OrderError soE5 (ne_of_sub noE5 ss_OrderError).symm
    | n + 6, hi => absurd hi (by omega)
  have kitV : ∀ i, i < 6 → PySem.W.kitOne K (.ref (cls6 C_InvalidTable C_InvalidNumber C_InvalidWords C_InvalidRange C_NothingToUndo C_Unreadable i)) (.type "ValueError") = some true := fun i hi => match i, hi with
    | 0, _ => PySem.W.kit_ve veE0
    | 1, _ => PySem.W.kit_ve veE1
    | 2, _ => PySem.W.kit_ve veE2
    | 3, _ => PySem.W.kit_ve veE3
    | 4, _ => PySem.W.kit_ve veE4
    | 5, _ => PySem.W.kit_ve veE5
    | n + 6, hi => absurd hi (by omega)
  have kitN : ∀ i, i < 6 → PySem.W.kitOne K (.ref C_OrderError) (.ref (cls6 C_InvalidTable C_InvalidNumber C_InvalidWords C_InvalidRange C_NothingToUndo C_Unreadable i)) = some false := fun i hi => match i, hi with
    | 0, _ => PySem.W.kit_own is_InvalidTable ty_InvalidTable noE0 (ne_of_sub noE0 ss_OrderError)
    | 1, _ => PySem.W.kit_own is_InvalidNumber ty_InvalidNumber noE1 (ne_of_sub noE1 ss_OrderError)
    | 2, _ => PySem.W.kit_own is_InvalidWords ty_InvalidWords noE2 (ne_of_sub noE2 ss_OrderError)
    | 3, _ => PySem.W.kit_own is_InvalidRange ty_InvalidRange noE3 (ne_of_sub noE3 ss_OrderError)
    | 4, _ => PySem.W.kit_own is_NothingToUndo ty_NothingToUndo noE4 (ne_of_sub noE4 ss_OrderError)
    | 5, _ => PySem.W.kit_own is_Unreadable ty_Unreadable noE5 (ne_of_sub noE5 ss_OrderError)
    | n + 6, hi => absurd hi (by omega)
  have own : ∀ i, i < 6 → ExcC K (cls6 C_InvalidTable C_InvalidNumber C_InvalidWords C_InvalidRange C_NothingToUndo C_Unreadable i) := fun i hi => match i, hi with
    | 0, _ => ⟨ga_InvalidTable, gg_InvalidTable, eC_InvalidTable, hC_InvalidTable, cl_InvalidTable, cg, ct, mo_InvalidTable⟩
    | 1, _ => ⟨ga_InvalidNumber, gg_InvalidNumber, eC_InvalidNumber, hC_InvalidNumber, cl_InvalidNumber, cg, ct, mo_InvalidNumber⟩
    | 2, _ => ⟨ga_InvalidWords, gg_InvalidWords, eC_InvalidWords, hC_InvalidWords, cl_InvalidWords, cg, ct, mo_InvalidWords⟩
    | 3, _ => ⟨ga_InvalidRange, gg_InvalidRange, eC_InvalidRange, hC_InvalidRange, cl_InvalidRange, cg, ct, mo_InvalidRange⟩
    | 4, _ => ⟨ga_NothingToUndo, gg_NothingToUndo, eC_NothingToUndo, hC_NothingToUndo, cl_NothingToUndo, cg, ct, mo_NothingToUndo⟩
    | 5, _ => ⟨ga_Unreadable, gg_Unreadable, eC_Unreadable, hC_Unreadable, cl_Unreadable, cg, ct, mo_Unreadable⟩
    | n + 6, hi => absurd hi (by omega)
  have xf : ∀ i, i < 6 → XfC K (cls6 C_InvalidTable C_InvalidNumber C_InvalidWords C_InvalidRange C_NothingToUndo C_Unreadable i) := fun i hi => match i, hi with
    | 0, _ => ⟨ga_InvalidTable, gg_InvalidTable, eC_InvalidTable, hC_InvalidTable⟩
    | 1, _ => ⟨ga_InvalidNumber, gg_InvalidNumber, eC_InvalidNumber, hC_InvalidNumber⟩
    | 2, _ => ⟨ga_InvalidWords, gg_InvalidWords, eC_InvalidWords, hC_InvalidWords⟩
    | 3, _ => ⟨ga_InvalidRange, gg_InvalidRange, eC_InvalidRange, hC_InvalidRange⟩
    | 4, _ => ⟨ga_NothingToUndo, gg_NothingToUndo, eC_NothingToUndo, hC_NothingToUndo⟩
    | 5, _ => ⟨ga_Unreadable, gg_Unreadable, eC_Unreadable, hC_Unreadable⟩
    | n + 6, hi => absurd hi (by omega)
  have noV : ∀ i, i < 6 → PySem.W.findIn K (.ref (cls6 C_InvalidTable C_InvalidNumber C_InvalidWords C_InvalidRange C_NothingToUndo C_Unreadable i)) "value" = some none := fun i hi => match i, hi with
    | 0, _ => nvE0
    | 1, _ => nvE1
    | 2, _ => nvE2
    | 3, _ => nvE3
    | 4, _ => nvE4
    | 5, _ => nvE5
    | n + 6, hi => absurd hi (by omega)
  have k : ErrK K (cls6 C_InvalidTable C_InvalidNumber C_InvalidWords C_InvalidRange C_NothingToUndo C_Unreadable) C_OrderError := ⟨own, ⟨ga_OrderError, gg_OrderError, eC_OrderError, hC_OrderError, cl_OrderError, cg, ct, mo_OrderError⟩, xf, noV, kit, kitO, kitV, kitN⟩
  refine ⟨PySem.W.fnOf "law" "law" (defArgs s_law) (defBody s_law) (defScope s_law) .none kV4 dc4 pm4 an4 cd4 ct4, fun s v => .of_eq rfl, fun base _ _ => ?_⟩
  have c__law_bag := Fun.cal F0 (ps := ["script"]) (P := P) (w := w) (base := base) (ok_law_bag F0 T) (PySem.W.mg_of X G a0) (fun _ _ _ _ _ _ us hl => match us, hl with | [_], _ => rfl)
  have c__law_draw := Fun.cal F1 (ps := ["bag", "many"]) (P := P) (w := w) (base := base) (ok_law_draw F1 T) (PySem.W.mg_of X G a1) (fun _ _ _ _ _ _ us hl => match us, hl with | [_, _], _ => rfl)
  have c__law_made := Fun.cal F2 (ps := ["which", "held"]) (P := P) (w := w) (base := base) (ok_law_made F2 T e_InvalidTable e_InvalidNumber e_InvalidWords e_InvalidRange e_NothingToUndo e_Unreadable jf_InvalidTable jf_InvalidNumber jf_InvalidWords jf_InvalidRange jf_NothingToUndo jf_Unreadable) (PySem.W.mg_of X G a2) (fun _ _ _ _ _ _ us hl => match us, hl with | [_, _], _ => rfl)
  have c__law_flags := Fun.cal F3 (ps := ["one"]) (P := P) (w := w) (base := base) (ok_law_flags F3 T e_InvalidTable e_InvalidNumber e_InvalidWords e_InvalidRange e_NothingToUndo e_Unreadable k) (PySem.W.mg_of X G a3) (fun _ _ _ _ _ _ us hl => match us, hl with | [_], _ => rfl)
  exact ok_law F4 T (PySem.W.mg_none_of X G zV) e_InvalidTable e_InvalidNumber e_Unreadable xO (PySem.W.mg_of X G aO) kC_OrderError k c__law_bag c__law_draw c__law_made c__law_flags
theorem walk {l : PySem.W.OpenLaw} {q : Program} {loose : List Str} {XP : (Str → Option Value) → Heap → Prop} {YP : World → Heap → Prop} {d : DefRec} {K : Params → PySem.W.Frag} (hn : l.most = some 63) (hdf : d.params.defaults = [])
    (hY : ∀ (w : World) (h : Heap), YP w h → (K w.params).In h)
    (F : ∀ (w : World) (mg : Str → Option Value) (fa : Addr) (h : Heap), (K w.params).In h → h.Ns mainGlobals mg → mg d.name = some (.ref fa) →
      ∃ fd : FuncData, (∀ (s : Shared) (u : Value), BindsTo s fd ⟨[u], []⟩ [("script", u)]) ∧ ∀ base : Heap, (K w.params).In base → base.Ns mainGlobals mg → FnG l.prog w (K w.params) mg base CX0 4 fa fd ["script"] (Sp_law (K w.params))) :
    PySem.W.WalkO q loose XP YP l.row.toRowW d [] (fun f vs => PySem.call f vs) :=
  walkG (n := 63) (k := 4) (x := "script") (CX := fun _ => CX0) (sp := fun w => Sp_law (K w.params)) hn (by decide) hdf ⟨rfl, by decide, by decide⟩ hY F (fun w H a ns hl hb hO hS => ⟨(a, ns), H, fun _ _ z => z, ⟨rfl, hS, hl⟩, fun _ _ _ z _ => z⟩) (fun _ _ _ _ _ z => z)
end Mb
open PySem PySem.W PyProof.Rows
set_option maxRecDepth 100000 in
set_option maxHeartbeats 0 in
theorem PySem.Challenge.cw_wordorder_k01_errors_and_their_values_holds : PySem.Challenge.rw_wordorder_k01_errors_and_their_values.Holds := by
  w_on; o_law; k_head; (case hw => w_witness2)
  k_fill
  refine Mb.walk (l := PySem.Challenge.rw_wordorder_k01_errors_and_their_values) rfl rfl (fun w h Y => PySem.W.kIn_of Y) ?F
  case F =>
    intro w mg fa h KX G hmg
    refine' Mb.all_mk KX G hmg ?a0 ?l0 ?c0 ?k0 ?a1 ?l1 ?c1 ?k1 ?a2 ?l2 ?c2 ?k2 ?a3 ?l3 ?c3 ?k3 ?a4 ?l4 ?c4 ?k4 ?z_len ?z_sum ?z_all ?z_any ?z_max ?z_min ?z_abs ?z_divmod ?z_range ?z_isinstance ?z_repr ?z_sorted ?z_list ?z_int ?z_str ?z_bool ?z_tuple ?z_enumerate ?z_zip ?z_set ?z_reversed ?aO ?ga_OrderError ?gg_OrderError ?eC_OrderError ?hC_OrderError ?cl_OrderError ?mo_OrderError ?is_OrderError ?ty_OrderError ?ss_OrderError ?kC_OrderError ?xO ?cg ?ct ?nst ?zS ?zV ?top ?aE0 ?xLE0 ?ga_InvalidTable ?gg_InvalidTable ?eC_InvalidTable ?hC_InvalidTable ?cl_InvalidTable ?mo_InvalidTable ?is_InvalidTable ?ty_InvalidTable ?ss_InvalidTable ?kC_InvalidTable ?saE0 ?nvE0 ?iCE0 ?tCE0 ?veE0 ?meE0 ?suE0 ?lE0 ?cE0 ?ceE0 ?coE0 ?vsE0 ?fiE0 ?soE0 ?noE0 ?aE1 ?xLE1 ?ga_InvalidNumber ?gg_InvalidNumber ?eC_InvalidNumber ?hC_InvalidNumber ?cl_InvalidNumber ?mo_InvalidNumber ?is_InvalidNumber ?ty_InvalidNumber ?ss_InvalidNumber ?kC_InvalidNumber ?saE1 ?nvE1 ?iCE1 ?tCE1 ?veE1 ?meE1 ?suE1 ?lE1 ?cE1 ?ceE1 ?coE1 ?vsE1 ?fiE1 ?soE1 ?noE1 ?aE2 ?xLE2 ?ga_InvalidWords ?gg_InvalidWords ?eC_InvalidWords ?hC_InvalidWords ?cl_InvalidWords ?mo_InvalidWords ?is_InvalidWords ?ty_InvalidWords ?ss_InvalidWords ?kC_InvalidWords ?saE2 ?nvE2 ?iCE2 ?tCE2 ?veE2 ?meE2 ?suE2 ?lE2 ?cE2 ?ceE2 ?coE2 ?vsE2 ?fiE2 ?soE2 ?noE2 ?aE3 ?xLE3 ?ga_InvalidRange ?gg_InvalidRange ?eC_InvalidRange ?hC_InvalidRange ?cl_InvalidRange ?mo_InvalidRange ?is_InvalidRange ?ty_InvalidRange ?ss_InvalidRange ?kC_InvalidRange ?saE3 ?nvE3 ?iCE3 ?tCE3 ?veE3 ?meE3 ?suE3 ?lE3 ?cE3 ?ceE3 ?coE3 ?vsE3 ?fiE3 ?soE3 ?noE3 ?aE4 ?xLE4 ?ga_NothingToUndo ?gg_NothingToUndo ?eC_NothingToUndo ?hC_NothingToUndo ?cl_NothingToUndo ?mo_NothingToUndo ?is_NothingToUndo ?ty_NothingToUndo ?ss_NothingToUndo ?kC_NothingToUndo ?saE4 ?nvE4 ?iCE4 ?tCE4 ?veE4 ?meE4 ?suE4 ?lE4 ?cE4 ?ceE4 ?coE4 ?vsE4 ?fiE4 ?soE4 ?noE4 ?aE5 ?xLE5 ?ga_Unreadable ?gg_Unreadable ?eC_Unreadable ?hC_Unreadable ?cl_Unreadable ?mo_Unreadable ?is_Unreadable ?ty_Unreadable ?ss_Unreadable ?kC_Unreadable ?saE5 ?nvE5 ?iCE5 ?tCE5 ?veE5 ?meE5 ?suE5 ?lE5 ?cE5 ?ceE5 ?coE5 ?vsE5 ?fiE5 ?soE5 ?noE5 ?sn01 ?sn02 ?sn03 ?sn04 ?sn05 ?sn10 ?sn12 ?sn13 ?sn14 ?sn15 ?sn20 ?sn21 ?sn23 ?sn24 ?sn25 ?sn30 ?sn31 ?sn32 ?sn34 ?sn35 ?sn40 ?sn41 ?sn42 ?sn43 ?sn45 ?sn50 ?sn51 ?sn52 ?sn53 ?sn54
    (case a0 => k_is)
    (case l0 => k_is)
    (case c0 => k_is)
    (case k0 => k_is)
    (case a1 => k_is)
    (case l1 => k_is)
    (case c1 => k_is)
    (case k1 => k_is)
    (case a2 => k_is)
    (case l2 => k_is)
    (case c2 => k_is)
    (case k2 => k_is)
    (case a3 => k_is)
    (case l3 => k_is)
    (case c3 => k_is)
    (case k3 => k_is)
    (case a4 => k_is)
    (case l4 => k_is)
    (case c4 => k_is)
    (case k4 => k_is)
    (case z_len => k_is)
    (case z_sum => k_is)
    (case z_all => k_is)
    (case z_any => k_is)
    (case z_max => k_is)
    (case z_min => k_is)
    (case z_abs => k_is)
    (case z_divmod => k_is)
    (case z_range => k_is)
    (case z_isinstance => k_is)
    (case z_repr => k_is)
    (case z_sorted => k_is)
    (case z_list => k_is)
    (case z_int => k_is)
    (case z_str => k_is)
    (case z_bool => k_is)
    (case z_tuple => k_is)
    (case z_enumerate => k_is)
    (case z_zip => k_is)
    (case z_set => k_is)
    (case z_reversed => k_is)
    (case aO => k_is)
    (case ga_OrderError => k_is)
    (case gg_OrderError => k_is)
    (case eC_OrderError => k_is)
    (case hC_OrderError => k_is)
    (case cl_OrderError => k_is)
    (case mo_OrderError => k_is)
    (case is_OrderError => k_is)
    (case ty_OrderError => k_is)
    (case ss_OrderError => k_is)
    (case kC_OrderError => k_is)
    (case xO => first | k_exc | k_is)
    (case cg => k_is)
    (case ct => k_is)
    (case nst => k_is)
    (case zS => k_is)
    (case zV => k_is)
    (case top => first | rfl | decide +kernel)
    (case aE0 => k_is)
    (case xLE0 => k_is)
    (case ga_InvalidTable => k_is)
    (case gg_InvalidTable => k_is)
    (case eC_InvalidTable => k_is)
    (case hC_InvalidTable => k_is)
    (case cl_InvalidTable => k_is)
    (case mo_InvalidTable => k_is)
    (case is_InvalidTable => k_is)
    (case ty_InvalidTable => k_is)
    (case ss_InvalidTable => k_is)
    (case kC_InvalidTable => k_is)
    (case saE0 => k_is)
    (case nvE0 => k_is)
    (case iCE0 => k_is)
    (case tCE0 => k_is)
    (case veE0 => k_is)
    (case meE0 => k_is)
    (case suE0 => first | ks_is | k_is | rfl | kernel_rfl)
    (case lE0 => k_is)
    (case cE0 => k_is)
    (case ceE0 => k_is)
    (case coE0 => k_is)
    (case vsE0 => rfl)
    (case fiE0 => first | rfl | decide +kernel)
    (case soE0 => k_is)
    (case noE0 => k_is)
    (case aE1 => k_is)
    (case xLE1 => k_is)
    (case ga_InvalidNumber => k_is)
    (case gg_InvalidNumber => k_is)
    (case eC_InvalidNumber => k_is)
    (case hC_InvalidNumber => k_is)
    (case cl_InvalidNumber => k_is)
    (case mo_InvalidNumber => k_is)
    (case is_InvalidNumber => k_is)
    (case ty_InvalidNumber => k_is)
    (case ss_InvalidNumber => k_is)
    (case kC_InvalidNumber => k_is)
    (case saE1 => k_is)
    (case nvE1 => k_is)
    (case iCE1 => k_is)
    (case tCE1 => k_is)
    (case veE1 => k_is)
    (case meE1 => k_is)
    (case suE1 => first | ks_is | k_is | rfl | kernel_rfl)
    (case lE1 => k_is)
    (case cE1 => k_is)
    (case ceE1 => k_is)
    (case coE1 => k_is)
    (case vsE1 => rfl)
    (case fiE1 => first | rfl | decide +kernel)
    (case soE1 => k_is)
    (case noE1 => k_is)
    (case aE2 => k_is)
    (case xLE2 => k_is)
    (case ga_InvalidWords => k_is)
    (case gg_InvalidWords => k_is)
    (case eC_InvalidWords => k_is)
    (case hC_InvalidWords => k_is)
    (case cl_InvalidWords => k_is)
    (case mo_InvalidWords => k_is)
    (case is_InvalidWords => k_is)
    (case ty_InvalidWords => k_is)
    (case ss_InvalidWords => k_is)
    (case kC_InvalidWords => k_is)
    (case saE2 => k_is)
    (case nvE2 => k_is)
    (case iCE2 => k_is)
    (case tCE2 => k_is)
    (case veE2 => k_is)
    (case meE2 => k_is)
    (case suE2 => first | ks_is | k_is | rfl | kernel_rfl)
    (case lE2 => k_is)
    (case cE2 => k_is)
    (case ceE2 => k_is)
    (case coE2 => k_is)
    (case vsE2 => rfl)
    (case fiE2 => first | rfl | decide +kernel)
    (case soE2 => k_is)
    (case noE2 => k_is)
    (case aE3 => k_is)
    (case xLE3 => k_is)
    (case ga_InvalidRange => k_is)
    (case gg_InvalidRange => k_is)
    (case eC_InvalidRange => k_is)
    (case hC_InvalidRange => k_is)
    (case cl_InvalidRange => k_is)
    (case mo_InvalidRange => k_is)
    (case is_InvalidRange => k_is)
    (case ty_InvalidRange => k_is)
    (case ss_InvalidRange => k_is)
    (case kC_InvalidRange => k_is)
    (case saE3 => k_is)
    (case nvE3 => k_is)
    (case iCE3 => k_is)
    (case tCE3 => k_is)
    (case veE3 => k_is)
    (case meE3 => k_is)
    (case suE3 => first | ks_is | k_is | rfl | kernel_rfl)
    (case lE3 => k_is)
    (case cE3 => k_is)
    (case ceE3 => k_is)
    (case coE3 => k_is)
    (case vsE3 => rfl)
    (case fiE3 => first | rfl | decide +kernel)
    (case soE3 => k_is)
    (case noE3 => k_is)
    (case aE4 => k_is)
    (case xLE4 => k_is)
    (case ga_NothingToUndo => k_is)
    (case gg_NothingToUndo => k_is)
    (case eC_NothingToUndo => k_is)
    (case hC_NothingToUndo => k_is)
    (case cl_NothingToUndo => k_is)
    (case mo_NothingToUndo => k_is)
    (case is_NothingToUndo => k_is)
    (case ty_NothingToUndo => k_is)
    (case ss_NothingToUndo => k_is)
    (case kC_NothingToUndo => k_is)
    (case saE4 => k_is)
    (case nvE4 => k_is)
    (case iCE4 => k_is)
    (case tCE4 => k_is)
    (case veE4 => k_is)
    (case meE4 => k_is)
    (case suE4 => first | ks_is | k_is | rfl | kernel_rfl)
    (case lE4 => k_is)
    (case cE4 => k_is)
    (case ceE4 => k_is)
    (case coE4 => k_is)
    (case vsE4 => rfl)
    (case fiE4 => first | rfl | decide +kernel)
    (case soE4 => k_is)
    (case noE4 => k_is)
    (case aE5 => k_is)
    (case xLE5 => k_is)
    (case ga_Unreadable => k_is)
    (case gg_Unreadable => k_is)
    (case eC_Unreadable => k_is)
    (case hC_Unreadable => k_is)
    (case cl_Unreadable => k_is)
    (case mo_Unreadable => k_is)
    (case is_Unreadable => k_is)
    (case ty_Unreadable => k_is)
    (case ss_Unreadable => k_is)
    (case kC_Unreadable => k_is)
    (case saE5 => k_is)
    (case nvE5 => k_is)
    (case iCE5 => k_is)
    (case tCE5 => k_is)
    (case veE5 => k_is)
    (case meE5 => k_is)
    (case suE5 => first | ks_is | k_is | rfl | kernel_rfl)
    (case lE5 => k_is)
    (case cE5 => k_is)
    (case ceE5 => k_is)
    (case coE5 => k_is)
    (case vsE5 => rfl)
    (case fiE5 => first | rfl | decide +kernel)
    (case soE5 => k_is)
    (case noE5 => k_is)
    (case sn01 => k_is)
    (case sn02 => k_is)
    (case sn03 => k_is)
    (case sn04 => k_is)
    (case sn05 => k_is)
    (case sn10 => k_is)
    (case sn12 => k_is)
    (case sn13 => k_is)
    (case sn14 => k_is)
    (case sn15 => k_is)
    (case sn20 => k_is)
    (case sn21 => k_is)
    (case sn23 => k_is)
    (case sn24 => k_is)
    (case sn25 => k_is)
    (case sn30 => k_is)
    (case sn31 => k_is)
    (case sn32 => k_is)
    (case sn34 => k_is)
    (case sn35 => k_is)
    (case sn40 => k_is)
    (case sn41 => k_is)
    (case sn42 => k_is)
    (case sn43 => k_is)
    (case sn45 => k_is)
    (case sn50 => k_is)
    (case sn51 => k_is)
    (case sn52 => k_is)
    (case sn53 => k_is)
    (case sn54 => k_is)

