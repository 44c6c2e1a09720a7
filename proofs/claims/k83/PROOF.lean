import PyProof.Rows.All
import Wide.All
import OpenK.AllK
import Wide.FinOn
import PyProof.ToksMono
import PyProof.ReprRoads
import KE.KDictCopyH
import HandS.ForMost
import HandS.ForExc
import HandS.Walk
import HandS.IsInst
import HandS.ExcInit
import HandS.ExcField
import HandS.ExcIs
import HandS.TryMany
import HandS.Wide
import HandS.ReplaceLit
import HandS.ReplaceList
import HandS.Codes
import HandS.More
import KE.GoesMore
import KE.GoesEnum
import PySem.Challenge.RW_iceopened_k83_lines_read
section
set_option Elab.async false
set_option linter.all false
set_option maxRecDepth 100000
set_option maxHeartbeats 2000000
/-! Own rules, ahead of the law: repr of data, defs that call it, X.__init__(self, text) of an own error class. -/
namespace IK
open PySem PySem.Spec PyProof.Rows L2

/-! ### defs that call repr: promised where no repr runs around them -/
section
variable (P : Program) (w : World) (K : PySem.W.Frag) (mg : Str → Option Value) (base : Heap) (CX : CXT)
/-- the promise sp, at one place A -/
def At (A : Around) (f : Addr) (fd : FuncData) (ps : List Str) (sp : Sp) : Prop :=
  ∀ (outer : List Env) (s : Shared) (H : Hp) (args : Args) (us : List Value) (vs : List V) (Q : VK) (E : XK), Env0 P w K mg base A outer s H →
    BindsTo s fd args (ps.zip us) → Vals vs us → sp vs H Q E → codeAny (model P w) A (.call (.ref f) args) (CR CX outer P w H s Q E) s
structure FnG (k : Nat) (f : Addr) (fd : FuncData) (ps : List Str) (sp : Sp) : Prop where
  len : ∀ vs H Q E, sp vs H Q E → vs.length = ps.length
  run : ∀ A : Around, Room k A → A.guards = some [] → At P w K mg base CX A f fd ps sp
end

section
variable {X : Cx} {CX : CXT} {k : Nat} {f : Addr} {fd : FuncData} {ps : List Str} {sp : Sp} {E : XK}
theorem FnG.go {pins : List (Addr × Obj)} {σ : L2.St} {H : Hp} {s : Shared} {Q : VK} {us : List Value} {vs : List V} (F : FnG X.prog X.w X.K X.mg X.base CX k f fd ps sp) (hr : Room k X.A)
    (gd : X.A.guards = some []) (hb : Binds X.K fd ps []) (hx : Passes CX X E) (I : Inv X pins σ H s) (r : Vals vs us) (h : sp vs H Q E) :
    wpAny (model X.prog X.w) X.A (call (.ref f) us) (EP X pins σ Q) X.xe s := by
  have hl : us.length = ps.length := (Paired.length r).symm.trans (F.len _ _ _ _ h)
  have bd := hb s us I.kIn (by simpa using hl)
  rw [List.append_nil] at bd
  refine wpAny_call (codeAny_mono (F.run X.A hr gd X.stack s H ⟨us, []⟩ us vs Q E I.env0 bd r h) ?_)
  intro r' s' hq
  match r', hq with
  | .error e, hq => exact hx pins σ H s e s' I hq
  | .ok (.ret u), hq => exact I.after hq
/-- f(e, ..) of such a def -/
theorem pe_callG {x : Str} {p pos : Pos} {e : Expr} {es : List Expr} {t : TA} (F : FnG X.prog X.w X.K X.mg X.base CX k f fd ps sp) (hr : Room k X.A) (gd : X.A.guards = some []) (hg : Gl X x) (hm : X.mg x = some (.ref f))
    (hk : PySem.W.keepIn X.K (.ref f) = true) (hb : Binds X.K fd ps []) (hx : Passes CX X E) (ha : PA X (e :: es) t) (hdb : (x == ("__debug__" : Str)) = false := by decide)
    (he : starEach (e :: es) X.env = (false, eval e X.env) :: starEach es X.env := by rfl) (hpl : (backTo pos (starEach es X.env)).any (·.1) = false := by rfl) :
    PE X (.Call (.Name x p) (e :: es) [] pos) (fun σ H Q => t σ H fun vs H1 => sp vs H1 Q E) where
  run := fun pins s σ H Q I h => by
    apply wpAny_Call_Name_kw
    apply ld_glob I hg hm _ hdb
    refine PySem.W.callWith_K (h₀ := X.base) I.ok.mod.kin hk (wpAny_mono (ha.run pos pins s σ H _ I h) ?_ fun _ _ z => z) he hpl
    rintro us s1 ⟨vs, H1, I1, r, q⟩
    exact ⟨I1.kIn, F.go hr gd hb hx I1 r q⟩
end
/-- such a def by its body -/
theorem funG {CX : CXT} {P : Program} {w : World} {K : PySem.W.Frag} {mg : Str → Option Value} {base : Heap} {k : Nat} {f : Addr} {x qual : Str} {st : Stmt} {fd : FuncData} {N ps : List Str} {sp : Sp}
    (F : Fun K x qual st f fd) (S : FnScope N ps (defScope st)) (len : ∀ vs H Q E, sp vs H Q E → vs.length = ps.length)
    (hbody : ∀ (cdv : Value) (A : Around) (outer : List Env) (s : Shared) (H : Hp) (vs : List V) (Q : VK) (E : XK), Room k (A.deeper (envOfC qual (defScope st) s.heap.objs.size f cdv)) → A.guards = some [] → sp vs H Q E →
      ∃ t, PSs (cxOf CX P w K mg base N qual (defScope st) f cdv A outer s H E) (defBody st) t ∧ t { nx := fun _ H' => Q .non H', rt := Q } (start N vs) H) : FnG P w K mg base CX (k + 1) f fd ps sp := by
  obtain ⟨oc, od, kV, doc, pm, an, cdv, ct, osl, e, lk, hcd⟩ := F.ex
  subst e
  refine ⟨len, ?_⟩
  intro A hr gd outer s H args us vs Q E e0 hb r hsp
  have old : ∀ b o, base.get? b = some o → s.heap.get? b = some o := fun b o q => (e0.bs b o q).1
  have KX := e0.mod.kin.keeps old
  refine codeAny_call_function hr.depth (KX _ _ lk) rfl S.co S.gen rfl (PySem.W.codeRec_of KX hcd) (hb _ _ _ _ (wpAny_newFunctionEnv_cells S.kind ?_ ?_))
  · rintro ⟨n, v⟩ hy
    cases S.par n (List.of_mem_zip hy).1 with
    | inl q => exact Or.inl q
    | inr q => exact Or.inr ⟨q, PySem.W.cellsFrom_some _ _ _ (.inl q)⟩
  · intro env he s1 y
    subst he
    refine ⟨(e0.mod.nolimit.keeps old).keeps y.toInCall.keep, codeAny_func ?_⟩
    obtain ⟨t, ht, hq⟩ := hbody cdv A outer s H vs Q E (hr.deeper _) gd hsp
    have I := inv_start (CX := CX) (E := E) S hr.hd e0 (len _ _ _ _ hsp) r y
    apply wpAny_mono (ht.run [] s1 (start N vs) H _ I hq) _ fun _ _ z => z
    intro fl s' hs
    match fl, hs with
    | .ret u, ⟨v, σ', H', J, rv, q⟩ => exact ⟨v, H', J.os, J.bare, J.base, J.hok, rv, q⟩
    | .next, ⟨σ', H', J, q⟩ => exact ⟨V.non, H', J.os, J.bare, J.base, J.hok, rfl, q⟩
    | .brk, ⟨_, _, _, q⟩ => exact False.elim q
    | .cont, ⟨_, _, _, q⟩ => exact False.elim q
end IK
end
section
set_option Elab.async false
set_option linter.all false
set_option maxRecDepth 100000
set_option maxHeartbeats 2000000
namespace IK
open PySem PySem.Spec PyProof.Rows L2

/-! ### the law's own call: its def promised by FnG -/
section
variable {P : Program} {w : World} {K : PySem.W.Frag} {mg mb : Str → Option Value} {CX : CXT} {k : Nat} {fa a : Addr} {fd : FuncData} {x : Str} {sp : Sp} {s₁ : Shared} {vs : List Value} {ns : List Int}
/-- from an abstract heap that tracks at most the script -/
theorem law_core (H : Hp) (KX : K.In s₁.heap) (hns : s₁.heap.Ns mainGlobals mg) (hb : s₁.heap.Ns builtinsNs mb) (hbb : ∀ x : Str, x ≠ "__name__" → mb x = bootBuiltins x) (hlim : s₁.heap.NoLimit) (hg : s₁.gens = #[])
    (hr : Room k callerA) (F : ∀ base : Heap, K.In base → base.Ns mainGlobals mg → FnG P w K mg base CX k fa fd [x] sp) (hbind : ∀ (s : Shared) (u : Value), BindsTo s fd ⟨[u], []⟩ [(x, u)])
    (hsp : sp [.ref a] H (fun v _ => v = .bl true) fun _ _ _ => False) (hCX : ∀ e s', CX [] H s₁ (fun _ _ _ => False) e s' → False) (hO : Only H) (hok : HOk P w H s₁.heap)
    (hd : ∀ b o es ep, s₁.heap.get? b = some o → o.data = .dict es ep → H b = none) (hK : ∀ b o, K.lookup b = some o → H b = none) :
    codeAny (model P w) callerA (.call (.ref fa) ⟨[.ref a], []⟩) (fun r s' => r = .ok (.ret (.bool true)) ∧ OldK s₁.heap s'.heap ∧ s'.os = s₁.os ∧ AllBare s'.gens) s₁ := by
  have ns' : ∀ {b : Addr} {m : Str → Option Value}, s₁.heap.Ns b m → (hidT s₁.heap H).Ns b m := by
    rintro b m ⟨o, es, ep, e, d, r⟩
    exact ⟨o, es, ep, hidT_get e (hd b o es ep e d), d, r⟩
  have kin : K.In (hidT s₁.heap H) := fun b o e => hidT_get (KX b o e) (hK b o e)
  obtain ⟨ml, l1, l2⟩ := hlim
  have M : Mod K mg (hidT s₁.heap H) := { kin := kin, glob := ns' hns, blt := ⟨mb, ns' hb, hbb⟩, nolimit := ⟨ml, ns' l1, l2⟩ }
  have none_in : ∀ b : Addr, b ∉ frs ([] : List Env) := fun b z => List.not_mem_nil z
  have e0 : Env0 P w K mg (hidT s₁.heap H) callerA [] s₁ H := by
    refine ⟨rfl, M, fun b o e => of_hidT e, ?_, trivial, fun b z => (none_in b z).elim, hok, .of_eq hg⟩
    rw [hidT_size]
    exact Nat.le_refl _
  have run := (F _ kin (ns' hns)).run callerA hr rfl [] s₁ H ⟨[.ref a], []⟩ [.ref a] [.ref a] _ _ e0 (hbind s₁ (.ref a)) (.cons rfl .nil) hsp
  apply codeAny_mono run
  intro r s' h
  match r, h with
  | .error e, h => exact (hCX e s' h).elim
  | .ok (.ret u), ⟨v, H', os, bare, un, hok', rv, q⟩ =>
    have q' : v = .bl true := q
    subst q'
    cases rv
    refine ⟨rfl, OldK.of_keep ?_, os, bare⟩
    intro b o e
    rcases hO b with z | ⟨ob, xs, z⟩
    · exact un.keep b o e z (none_in b) List.not_mem_nil
    · have h1 := (hok b _ z).1
      have h2 := (hok' b _ (un.frzs b ob _ z)).1
      rw [e] at h1
      rw [h2, ← h1]
theorem law_callG (KX : K.In s₁.heap) (hns : s₁.heap.Ns mainGlobals mg) (hb : s₁.heap.Ns builtinsNs mb) (hbb : ∀ x : Str, x ≠ "__name__" → mb x = bootBuiltins x) (hlim : s₁.heap.NoLimit) (hg : s₁.gens = #[])
    (ha : s₁.heap.get? a = some { cls := .type "list", data := .seq vs.toArray }) (hi : IntsAre vs ns) (hl : ns.length ≤ sizeLine)
    (hr : Room k callerA) (F : ∀ base : Heap, K.In base → base.Ns mainGlobals mg → FnG P w K mg base CX k fa fd [x] sp) (hbind : ∀ (s : Shared) (u : Value), BindsTo s fd ⟨[u], []⟩ [(x, u)])
    (hsp : ∀ H : Hp, Only H → SqL K H a (ns.map V.int) → sp [.ref a] H (fun v _ => v = .bl true) fun _ _ _ => False) (hCX : ∀ H e s', CX [] H s₁ (fun _ _ _ => False) e s' → False) :
    codeAny (model P w) callerA (.call (.ref fa) ⟨[.ref a], []⟩) (fun r s' => r = .ok (.ret (.bool true)) ∧ OldK s₁.heap s'.heap ∧ s'.os = s₁.os ∧ AllBare s'.gens) s₁ := by
  have rv := vals_ints hi
  have hlen : (ns.map V.int).length ≤ sizeLine := by simpa using hl
  cases hk : K.lookup a with
  | some o =>
    have e : o = { cls := .type "list", data := .seq vs.toArray } := by
      have z := KX a o hk
      rw [ha] at z
      exact (Option.some.inj z).symm
    subst e
    have hq : SqL K (fun _ => none) a (ns.map V.int) := .inr ⟨_, vs.toArray, _, hk, rfl, rfl, rfl, (by rw [List.size_toArray, hi.length]; exact hl), (by simpa using rv)⟩
    have hO : Only (fun _ => none) := fun _ => .inl rfl
    refine law_core (fun _ => none) KX hns hb hbb hlim hg hr F hbind (hsp _ hO hq) (hCX _) hO ?_ (fun _ _ _ _ _ _ => rfl) (fun _ _ _ => rfl)
    intro b u z
    exact absurd z (by simp)
  | none =>
    let H : Hp := fun b => if b = a then some (.frz { cls := .type "list", data := .seq vs.toArray } (.lst (ns.map V.int))) else none
    have Ha : H a = some (.frz { cls := .type "list", data := .seq vs.toArray } (.lst (ns.map V.int))) := if_pos rfl
    have Hn : ∀ b, b ≠ a → H b = none := fun b h => if_neg h
    have hO : Only H := fun b => if h : b = a then .inr ⟨_, _, h ▸ Ha⟩ else .inl (Hn b h)
    refine law_core H KX hns hb hbb hlim hg hr F hbind (hsp _ hO (.inl (.inr ⟨_, Ha⟩))) (hCX _) hO ?_ ?_ ?_
    · intro b u z
      by_cases h : b = a
      · subst h
        rw [Ha] at z
        cases z
        exact ⟨ha, hlen, vs, _, rv, ha⟩
      · rw [Hn b h] at z
        cases z
    · intro b o es ep e d
      by_cases h : b = a
      · subst h
        rw [ha] at e
        cases e
        cases d
      · exact Hn b h
    · intro b o e
      by_cases h : b = a
      · rw [h, hk] at e
        cases e
      · exact Hn b h
end
theorem walkG {l : PySem.W.OpenLaw} {n k : Nat} {q : Program} {loose : List Str} {XP : (Str → Option Value) → Heap → Prop} {YP : World → Heap → Prop} {d : DefRec} {K : Params → PySem.W.Frag} {CX : World → CXT} {sp : World → Sp} {x : Str}
    (hn : l.most = some n) (hn2 : n ≤ sizeLine) (hdf : d.params.defaults = []) (hr : Room k callerA)
    (hY : ∀ (w : World) (h : Heap), YP w h → (K w.params).In h)
    (F : ∀ (w : World) (mg : Str → Option Value) (fa : Addr) (h : Heap), (K w.params).In h → h.Ns mainGlobals mg → mg d.name = some (.ref fa) →
      ∃ fd : FuncData, (∀ (s : Shared) (u : Value), BindsTo s fd ⟨[u], []⟩ [(x, u)]) ∧
        ∀ base : Heap, (K w.params).In base → base.Ns mainGlobals mg → FnG l.prog w (K w.params) mg base (CX w) k fa fd [x] (sp w))
    (hsp : ∀ (w : World) (H : Hp) (a : Addr) (ns : List Int), ns.length ≤ n → Only H → SqL (K w.params) H a (ns.map V.int) → sp w [.ref a] H (fun v _ => v = .bl true) fun _ _ _ => False)
    (hCX : ∀ (w : World) (H : Hp) (s : Shared) (e : Value) (s' : Shared), CX w [] H s (fun _ _ _ => False) e s' → False) :
    PySem.W.WalkO q loose XP YP l.row.toRowW d [] (fun f vs => PySem.call f vs) := by
  apply Att.attach_call hn hdf
  intro w s₀ s₁ mg mb fa o pm cd doc a vs ns G Y ho hd hcd hmg hobj hints hlen hg
  obtain ⟨fd, hb, hF⟩ := F w mg fa _ (hY w _ Y) G.T.g hmg
  refine law_callG (hY w _ Y) G.T.g G.T.b G.T.builtins G.T.nolimit hg hobj hints (Nat.le_trans hlen hn2) hr hF hb ?_ ?_
  · exact fun H hO hS => hsp w H a ns hlen hO hS
  · exact fun H e s' => hCX w H s₁ e s'
end IK
end
section
set_option Elab.async false
set_option linter.all false
set_option maxRecDepth 100000
set_option maxHeartbeats 2000000
namespace IK
open PySem PySem.Spec PyProof.Rows L2

/-! ### repr of a list or tuple of data -/
def rRepr (K : PySem.W.Frag) : List V → Hp → VK → Prop := fun xs H Q => ∃ (a : Addr) (d : PyData), xs = [.ref a] ∧ Dp K H (.ref a) d ∧ d.showable = true ∧ d.hasDict = false ∧ d.depth ≤ 40 ∧ d.shown.length ≤ sizeLine ∧ Q (.str d.shown) H
theorem call_repr {X : Cx} (gd : X.A.guards = some []) (hu : X.A.units + 64 < cLine) : CallR X (.builtin "repr") (rRepr X.K) := by
  intro pins s σ H xs us Q I r h
  obtain ⟨a, d, rfl, hd, sh, nd, dp, sz, q⟩ := h
  cases r with
  | cons r1 r2 =>
    cases r2
    cases r1
    obtain ⟨as, R⟩ := Dp.reads I d (.ref a) (.ref a) hd rfl
    refine repr_of_reads' R sh (PyData.noDict_hsm nd) gd (by omega) (fun b o e => e) (fun h' u tk hk => ?_) sz
    exact ⟨.str d.shown, H, I.kept (t' := tk) hk, ⟨u, rfl⟩, q⟩

/-! ### X.__init__(self, ..) of an own error class over ValueError: nothing of it is told -/
/-- the class at B as the text names it: its __init__ is ValueError's own -/
structure BInit (K : PySem.W.Frag) (mg : Str → Option Value) (x : Str) (B : Addr) : Prop where
  at_ : mg x = some (.ref B)
  sp : PySem.W.specialIn K (.ref B) "__getattribute__" = some (some (.builtin "type.__getattribute__"))
  rd : PySem.W.readsIn K B (.type "type") = true
  ty : PySem.W.typeIn K (.ref B) = some (.type "type")
  fi : PySem.W.findCls K (.ref B) (.type "type") "__init__" = some (.val (.builtin "ValueError.__init__"))

/-- reads C.m of a class of one's own: a value that the class itself hands out -/
theorem getcls_ok {X : Cx} {pins : List (Addr × Obj)} {σ : L2.St} {H : Hp} {s : Shared} {B : Addr} {m : Str} {u : Value} {pl : Sem Bool} {Q : Value × List Value → Shared → Prop} {E : Value → Shared → Prop} {A : Around} (I : Inv X pins σ H s)
    (sp : PySem.W.specialIn X.K (.ref B) "__getattribute__" = some (some (.builtin "type.__getattribute__"))) (rd : PySem.W.readsIn X.K B (.type "type") = true) (fi : PySem.W.findCls X.K (.ref B) (.type "type") m = some (.val u))
    (hh : PySem.W.handedIn u = true) (h : ∀ s', Inv X pins σ H s' → Q (u, []) s') : wpAny (model X.prog X.w) A (getMethod (.ref B) m pl) Q E s :=
  PySem.W.method_cls I.kIn sp (PySem.W.cls_value I.kIn rd fi hh (h _ (I.tok _)))

section
variable {X : Cx} {e : Expr} {es : List Expr} {ta : TA} {x : Str} {B : Addr} {p1 p2 pos : Pos}
/-- X.__init__(self, ..) within the __init__ of an error class under X -/
theorem pe_binit {pl : Sem Bool} (T : BInit X.K X.mg x B) (hg : Gl X x) (ha : PA X (e :: es) ta) (hdb : (x == ("__debug__" : Str)) = false := by decide)
    (hc : eval (.Call (.Attribute (.Name x p1) "__init__" p2) (e :: es) [] pos) X.env = (do
      let ov ← eval (.Name x p1) X.env
      standAt p2.atName
      let (f, first) ← holding [ov] (getMethod ov "__init__" pl)
      callWith pos f first (backTo pos (starEach (e :: es) X.env)) (backToKw pos (keywordEach [] X.env))) := by rfl)
    (he : starEach (e :: es) X.env = (false, eval e X.env) :: starEach es X.env := by rfl) (hpl : (backTo pos (starEach es X.env)).any (·.1) = false := by rfl) :
    PE X (.Call (.Attribute (.Name x p1) "__init__" p2) (e :: es) [] pos) (tVeI X.K ta) where
  run := fun pins s σ H Q I h => by
    apply PySem.W.methodCall_KW (ld_glob I hg T.at_ _ hdb) hc
    apply getcls_ok I T.sp T.rd T.fi (by decide +kernel)
    intro s' I'
    show wpAny _ _ (callWith pos (Value.builtin "ValueError.__init__") [] (backTo pos (starEach (e :: es) X.env)) []) _ _ _
    refine PyProof.Rows.callWith_method1 (wpAny_mono (ha.run pos pins _ σ H _ I' h) ?_ fun _ _ z => z) he hpl
    rintro us s1 ⟨vs, H1, I1, r1, a, C, ws, rfl, hl, TC, ea, q⟩
    cases r1 with
    | cons ra rw' =>
      cases ra
      refine oinit_ok TC I1 ea ?_ fun s2 J => ⟨.non, H1, J, rfl, q⟩
      rw [← Paired.length rw', sizeLine_eq]
      omega
end
end IK
end
section
set_option Elab.async false
set_option linter.all false
set_option maxRecDepth 100000
set_option maxHeartbeats 4000000
/-! an own exception held as a value: isinstance, ==, its making -/
namespace PySem.W
open PySem PySem.Spec PySem.Calls PyProof.Rows
section
variable {prog : Program} {w : World} {A : Around} {E : Value → Shared → Prop} {s : Shared} {K : Frag} {x D : Addr} {ox : Obj} {od : Option Obj}
/-- what is read of an exception's class, as far as ==, isinstance and fields ask -/
structure ExVal (K : Frag) (D : Addr) : Prop where
  ga : findIn K (.ref D) "__getattribute__" = some (some (.builtin "BaseException.__getattribute__"))
  gt : findIn K (.ref D) "__getattr__" = some none
  sb : subIn K (.ref D) (.type "BaseException") = some true
  cl : (clsIn K D).isSome = true
  ca : findIn K (.ref D) "__class__" = some (some (.builtin "object.__class__"))
  cg : specialIn K (.builtin "object.__class__") "__get__" = some (some (.builtin "getset_descriptor.__get__"))
  ct : takesIn K (.builtin "object.__class__") = some true
  mo : mroIn K D (.type "object") = some true
  eq : findIn K (.ref D) "__eq__" = some (some (.builtin "object.__eq__"))
theorem find_class (T : ExVal K D) (hl : ∀ o, od = some o → lookIn "__class__" o = some none) : findObj K D od "__class__" = some (.bind (.builtin "getset_descriptor.__get__") (.builtin "object.__class__")) := by
  obtain ⟨cd, hc⟩ := Option.isSome_iff_exists.mp T.cl
  unfold findObj
  cases od with
  | none =>
    rw [hc, Option.bind_some, T.ca, Option.bind_some]
    simp [T.cg, T.ct]
  | some o =>
    rw [hc, Option.bind_some, T.ca, Option.bind_some]
    simp [T.cg, T.ct, hl o rfl]
theorem read_class {Q : Option Value → Shared → Prop} (T : ExVal K D) (hl : ∀ o, od = some o → lookIn "__class__" o = some none) (X : K.In s.heap) (I : InstAt s.heap x ox D od) (h : Q (some (.ref D)) { s with toks := s.toks + 1 }) :
    wpAny (model prog w) A (getAttr? (.ref x) "__class__") Q E s := by
  obtain ⟨hp, g, d, t, os⟩ := s
  have tyx := I.type (M := model prog w)
  have fnd := looks_find (M := model prog w) X I (find_class T hl)
  have gaq : (Value.builtin "BaseException.__getattribute__" == Value.builtin "object.__getattribute__") = false := by decide +kernel
  unfold getAttr? getAttrBy? getAttrBy
  apply wpAny_bind; apply wpAny_mkText; apply wpAny_bind; apply wpAny_attempt; apply wpAny_holding; apply wpAny_bind
  apply tyx.at; apply wpAny_bind; apply (looks_findIn (M := model prog w) X T.ga).at
  show wpAny _ _ (if (onTheHeap (Value.ref D) && _) = true then _ else _) _ _ _
  rw [gaq, Bool.and_false, if_neg Bool.false_ne_true]
  unfold getAttrByItsOwn hookBefore
  apply wpAny_bind
  rw [show onTheHeap (Value.ref D) = true from rfl, if_pos rfl]
  apply (looks_findIn (M := model prog w) X T.gt).at
  apply wpAny_bind; apply wpAny_attempt; apply wpAny_holding
  unfold callGetattribute
  rw [show (false && onTheHeap (Value.builtin "BaseException.__getattribute__")) = false from rfl, if_neg Bool.false_ne_true]
  unfold boundAndCalled
  rw [PySem.F.excAttr_ValueError.ga.bind (.ref x)]
  apply wpAny_bind; apply wpAny_pure
  show wpAny _ _ (call (.builtin "BaseException.__getattribute__") [.ref x, .str "__class__" t]) _ _ _
  apply wpAny_call; apply codeAny_call_builtin PySem.F.excAttr_ValueError.ga.plain PySem.F.entry_bexc_ga
  apply @check_slot (model prog w) _ _ ⟨hp, g, d, t + 1, os⟩ "BaseException.__getattribute__" "BaseException" "__getattribute__" (.ref x) [.str "__class__" t] [] _ (by decide +kernel) (by decide +kernel)
    (tyx.andThen (looks_subIn X T.sb)) (PySem.F.args_bexc_ga (.ref x) (.str "__class__" t))
  unfold Builtin.«object.__getattribute__»
  refine wpAny_bind (wpAny_of_eq (a := ((Value.ref x : Value), [Value.str "__class__" t])) (by first | rfl | (simp only [slotArgs]; rfl)) ?_)
  apply wpAny_bind; apply wpAny_pure; apply wpAny_bind; apply tyx.at; apply wpAny_bind; apply fnd.at
  show wpAny _ _ (holding [Value.builtin "object.__class__"] (call (.builtin "getset_descriptor.__get__") [.builtin "object.__class__", .ref x, .ref D]) >>= ret) _ _ _
  apply wpAny_bind; apply wpAny_holding; apply wpAny_call
  refine class_get (s := ⟨hp, g, d, t + 1, os⟩) (ox := ox) (od := od) X I T.mo ?_
  apply wpAny_pure
  show wpAny _ _ (handedOut (.ref D)) _ _ _
  rw [handedOut_of (v := .ref D) rfl]
  first
    | exact wpAny_pure (wpAny_pure h)
    | exact wpAny_pure h
    | exact wpAny_pure (wpAny_bind (wpAny_pure (wpAny_pure h)))
theorem kitx_ex (T : ExVal K D) : KitX K (.ref x) (.ref D) (fun h => ∃ ox od, InstAt h x ox D od ∧ ∀ o, od = some o → lookIn "__class__" o = some none) where
  ty := fun _ _ _ ⟨_, _, I, _⟩ => I.type
  it := fun _ _ X _ => by
    obtain ⟨cd, hc⟩ := Option.isSome_iff_exists.mp T.cl
    unfold clsIn at hc
    split at hc
    · rename_i ho
      intro A' Q' E' s' k q
      unfold isType loadHead
      exact wpAny_bind (wpAny_loadPart (k _ _ (X _ _ ho)) (wpAny_pure q))
    · cases hc
  ne := fun h tp dd its n sl X htp => by
    obtain ⟨cd, hc⟩ := Option.isSome_iff_exists.mp T.cl
    unfold clsIn at hc
    split at hc
    · rename_i ho
      cases q : (Value.ref D == Value.ref tp) with
      | false => rfl
      | true =>
        have e := Value.ref.inj (beq_iff_eq.mp q)
        rw [← e, X _ _ ho] at htp
        cases htp
    · cases hc
  ca := fun X ⟨_, _, I, hl⟩ k => read_class T hl X I k
/-- e == e, one exception -/
theorem ex_same {Q : Value → Shared → Prop} (T : ExVal K D) (hu : A.units < cLine) (X : K.In s.heap) (I : InstAt s.heap x ox D od) (hq : ∀ k, Q (.bool true) { s with toks := k }) : wpAny (model prog w) A (compareOp .Eq (.ref x) (.ref x)) Q E s := by
  have hit : wpAny (model prog w) A (tryCompare (.ref x) "__eq__" (.ref x)) (fun r s' => r = some (.bool true) ∧ s' = s) E s := by
    unfold tryCompare
    apply wpAny_bind
    apply HN.ifBound_objEq X I T.eq
    apply wpAny_call
    apply codeAny_call_builtin F.cmp_object.eq.plain F.cmpEntry_eq
    apply check_slot F.cmpKind_eq F.cmpSplit_eq (I.type.andThen (looks_mroIn X T.mo)) (F.cmpArgs_eq _ _)
    exact objEq_entry_same (wpAny_pure ⟨rfl, rfl⟩)
  show wpAny _ _ (richCompare .Eq (.ref x) (.ref x)) _ _ _
  simp only [richCompare, cmpInfo_Eq, oneThing_ref]
  apply wpAny_holding; apply wpAny_bind; apply wpAny_cRoomFor hu; apply wpAny_bind; apply I.type.here; apply wpAny_bind; apply I.type.here
  rw [if_neg (by simp)]
  apply wpAny_bind; apply wpAny_pure
  rw [if_neg Bool.false_ne_true]
  apply wpAny_bind
  apply wpAny_mono hit _ fun _ _ z => z
  rintro r s1 ⟨rfl, rfl⟩
  exact wpAny_pure (hq s1.toks)
end
end PySem.W

namespace IK
open PySem PySem.Spec PyProof.Rows L2
/-! ### over the layer -/
/-- at a: an exception of the class C, its dict at d with the fields fs -/
structure ExAt (K : PySem.W.Frag) (H : Hp) (a C d : Addr) (fs : List (Str × V)) : Prop where
  ob : H a = some (exo a C (some d))
  dc : H d = some (exd d fs)
  nc : fs.lookup ("__class__" : Str) = none
  ev : PySem.W.ExVal K C
theorem ExAt.inst {X : Cx} {pins : List (Addr × Obj)} {σ : L2.St} {H : Hp} {s : Shared} {a C d : Addr} {fs : List (Str × V)} (T : ExAt X.K H a C d fs) (I : Inv X pins σ H s) :
    ∃ ox od, PySem.W.InstAt s.heap a ox C od ∧ ∀ o, od = some o → PySem.W.lookIn "__class__" o = some none := by
  obtain ⟨t1, ho⟩ := exo_at I.hok T.ob
  obtain ⟨mA, hns, rel⟩ := exd_at I.hok T.dc
  obtain ⟨od, hod, hl⟩ := lookIn_ns hns
  refine ⟨_, some od, ⟨ho, rfl, rfl, hod⟩, fun o e => ?_⟩
  cases e
  rw [hl]
  have r := rel "__class__"
  rw [T.nc] at r
  cases e : mA "__class__" with
  | none => rfl
  | some u =>
    rw [e] at r
    exact r.elim
/-- == of an exception with itself -/
def rEqX (K : PySem.W.Frag) : R2 := fun x y H Q => ∃ a C d fs, x = .ref a ∧ y = .ref a ∧ ExAt K H a C d fs ∧ Q (.bl true) H
theorem op_eqX {X : Cx} (hu : X.A.units < cLine) : OpR X (compareOp .Eq) (rEqX X.K) := by
  rintro pins s σ H x y v u Q I rx ry ⟨a, C, d, fs, rfl, rfl, T, q⟩
  cases rx
  cases ry
  obtain ⟨ox, od, J, _⟩ := T.inst I
  exact PySem.W.ex_same T.ev hu I.kIn J fun k => ⟨.bl true, H, I.tok k, rfl, q⟩
/-- one of two rules -/
theorem op_alt {X : Cx} {f : Value → Value → Sem Value} {r1 r2 : R2} (h1 : OpR X f r1) (h2 : OpR X f r2) : OpR X f (fun x y H Q => r1 x y H Q ∨ r2 x y H Q) := by
  intro pins s σ H x y v u Q I rx ry h
  cases h with
  | inl h => exact h1 pins s σ H x y v u Q I rx ry h
  | inr h => exact h2 pins s σ H x y v u Q I rx ry h
theorem call_alt {X : Cx} {f : Value} {r1 r2 : List V → Hp → VK → Prop} (h1 : CallR X f r1) (h2 : CallR X f r2) : CallR X f (fun xs H Q => r1 xs H Q ∨ r2 xs H Q) := by
  intro pins s σ H xs us Q I r h
  cases h with
  | inl h => exact h1 pins s σ H xs us Q I r h
  | inr h => exact h2 pins s σ H xs us Q I r h
/-- isinstance of such an exception -/
def rIsX (K : PySem.W.Frag) : List V → Hp → VK → Prop := fun xs H Q => ∃ (a C d : Addr) (fs : List (Str × V)) (c : V) (u : Value) (b : Bool), xs = [.ref a, c] ∧ ClsV c u ∧ ExAt K H a C d fs ∧ PySem.W.kitOne K (.ref C) u = some b ∧ Q (.bl b) H
theorem call_isX {X : Cx} : CallR X (.builtin "isinstance") (rIsX X.K) := by
  rintro pins s σ H xs us Q I r ⟨a, C, d, fs, c, u, b, rfl, k, T, e, q⟩
  obtain ⟨u1, u2, rfl, r1, r2⟩ := vals2 r
  have e2 := k.eq r2
  subst e2
  cases r1
  exact PySem.W.kia_one (PySem.W.kitx_ex T.ev) I.kIn (T.inst I) e (fun z => nomatch z) fun tk => ⟨.bl b, H, I.tok tk, rfl, q⟩
end IK
end
section
set_option Elab.async false
set_option linter.all false
set_option maxRecDepth 100000
set_option maxHeartbeats 4000000
namespace IK
open PySem PySem.Spec PyProof.Rows L2

/-! ### error classes of one field: made, raised -/
/-- what __init__(self, v) leaves: the field f is v -/
def spErr (C : Addr) (f : Str) : Sp := fun vs H Q _ => ∃ (a : Addr) (v : V), vs = [.ref a, v] ∧ H a = some (exo a C none) ∧ ∀ d, H d = none → d ≠ a → Q .non (upd (upd H d (exd d [(f, v)])) a (exo a C (some d)))
/-- an error class of the text, named x, at C -/
structure Err (P : Program) (w : World) (K : PySem.W.Frag) (mg : Str → Option Value) (base : Heap) (x : Str) (C : Addr) (f : Str) : Prop where
  ox : OexC K C
  ev : PySem.W.ExVal K C
  nf : PySem.W.findIn K (.ref C) f = some none
  hd : PySem.W.hasDictIn K C = true
  at_ : mg x = some (.ref C)
  init : ∃ fI fd, PySem.W.findIn K (.ref C) "__init__" = some (some (.ref fI)) ∧ PySem.W.typeIn K (.ref fI) = some (.type "function") ∧ FnOk P w K mg base CX0 1 fI fd ["self", f] (spErr C f) ∧ Binds K fd ["self", f] []

theorem back_heap {H : Hp} {a d : Addr} {C : Addr} {fs : List (Str × V)} (ha : H a = none) (hda : d ≠ a) :
    upd (del (upd (upd (upd H a (exo a C none)) d (exd d fs)) a (exo a C (some d))) a) d (.xd fs) = upd H d (.xd fs) := by
  funext b
  by_cases hb : b = d
  · rw [hb, upd_same, upd_same]
  · rw [upd_ne hb, upd_ne hb]
    by_cases hba : b = a
    · rw [hba, del_same, ha]
    · rw [del_ne hba, upd_ne hba, upd_ne hb, upd_ne hba]
section
variable {X : Cx} {x f : Str} {C : Addr} {e : Expr} {te : TE} {p pos : Pos}
/-- raise x(e): e's value, then the wish at a new dict d -/
def tErr (C : Addr) (f : Str) (te : TE) : L2.St → Hp → XK → Prop := fun σ H Q => te σ H fun v H1 => ∀ d, H1 d = none → Q (.ref C) (some d) (upd H1 d (.xd [(f, v)]))
/-- a reading whose wish may be told stronger -/
def weak (te : TE) : TE := fun σ H Q => ∃ P : VK, te σ H P ∧ ∀ v H1, P v H1 → Q v H1
theorem pe_weak (he : PE X e te) : PE X e (weak te) where
  run := fun pins s σ H Q I ⟨P, h, k⟩ => by
    apply wpAny_mono (he.run pins s σ H P I h) _ fun _ _ z => z
    rintro u s' ⟨v, H', I', r, q⟩
    exact ⟨v, H', I', r, k v H' q⟩
theorem pmk_err (T : Err X.prog X.w X.K X.mg X.base x C f) (hr : Room 2 X.A) (hg : Gl X x) (he : PE X e te) (hdb : (x == ("__debug__" : Str)) = false := by decide)
    (hs : starEach [e] X.env = (false, eval e X.env) :: starEach [] X.env := by rfl) (hpl : (backTo pos (starEach [] X.env)).any (·.1) = false := by rfl) : PMk X (.Call (.Name x p) [e] [] pos) (tErr C f te) := by
  obtain ⟨fI, fd, iC, tI, F, hb⟩ := T.init
  intro pins s σ H Q I h
  refine pmk_oex (dvs := []) T.ox iC tI F hr hb .nil (fun _ _ _ _ _ _ _ z => z.elim) hg T.at_ (pa_cons (pe_weak he) pa_nil hs) hdb hs hpl pins s σ H Q I ⟨_, h, ?_⟩
  intro v H1 hP
  refine ⟨Nat.le_of_ble_eq_true rfl, fun a ha => ⟨a, v, rfl, upd_same, fun d hd hda => ?_⟩⟩
  rw [upd_ne hda] at hd
  refine ⟨rfl, d, [(f, v)], upd_same, (by rw [upd_ne hda, upd_same]), hd, ?_⟩
  rw [back_heap ha hda]
  exact hP d hd
/-- x(e) as a value: a new exception at a, its dict at d -/
def tErrV (C : Addr) (f : Str) (te : TE) : TE := fun σ H Q => te σ H fun v H1 => ∀ a d, H1 a = none → H1 d = none → d ≠ a → Q (.ref a) (upd (upd H1 d (exd d [(f, v)])) a (exo a C (some d)))
theorem up3 {H : Hp} {a d C : Addr} {fs : List (Str × V)} (hda : d ≠ a) : upd (upd (upd H a (exo a C none)) d (exd d fs)) a (exo a C (some d)) = upd (upd H d (exd d fs)) a (exo a C (some d)) := by
  funext b
  by_cases hba : b = a
  · rw [hba, upd_same, upd_same]
  · rw [upd_ne hba, upd_ne hba]
    by_cases hb : b = d
    · rw [hb, upd_same, upd_same]
    · rw [upd_ne hb, upd_ne hb, upd_ne hba]
theorem pe_errV (T : Err X.prog X.w X.K X.mg X.base x C f) (hr : Room 2 X.A) (hg : Gl X x) (he : PE X e te) (hdb : (x == ("__debug__" : Str)) = false := by decide)
    (hs : starEach [e] X.env = (false, eval e X.env) :: starEach [] X.env := by rfl) (hpl : (backTo pos (starEach [] X.env)).any (·.1) = false := by rfl) : PE X (.Call (.Name x p) [e] [] pos) (tErrV C f te) := by
  obtain ⟨fI, fd, iC, tI, F, hb⟩ := T.init
  obtain ⟨nm, q, N, bs, bm, sn, sub, ab, col, dd, k0, k1, k2, k3, k5, hC, hbm⟩ := T.ox.cls
  refine ⟨fun pins s σ H Q I h => ?_⟩
  apply wpAny_Call_Name_kw
  apply ld_glob I hg T.at_ _ hdb
  refine PySem.W.callWith_K (h₀ := X.base) I.ok.mod.kin T.ox.kC (wpAny_mono ((pa_cons (pe_weak he) pa_nil hs).run pos pins s σ H (fun vs H1 => ∃ v, vs = [v] ∧ ∀ a d, H1 a = none → H1 d = none → d ≠ a → Q (.ref a) (upd (upd H1 d (exd d [(f, v)])) a (exo a C (some d)))) I ?_) ?_ fun _ _ z => z) hs hpl
  · exact ⟨_, h, fun v H1 hP => ⟨v, rfl, hP⟩⟩
  · rintro us s1 ⟨vs, H1, I1, r1, v, rfl, q1⟩
    refine ⟨I1.kIn, ?_⟩
    obtain ⟨hp, g, dr, tk, os⟩ := s1
    have old : ∀ b o, hp.get? b = some o → ((hp.push (PySem.W.kdv_tup us)).push (PySem.HandSPX.excO C hp.objs.size)).get? b = some o := fun b o z => Heap.get?_push_of_some _ (Heap.get?_push_of_some _ z)
    have new : ((hp.push (PySem.W.kdv_tup us)).push (PySem.HandSPX.excO C hp.objs.size)).get? (hp.objs.size + 1) = some (PySem.HandSPX.excO C hp.objs.size) := by heap_get
    have fr : H1 (hp.objs.size + 1) = none := I1.hok.fresh (Nat.le_succ hp.objs.size)
    have I2 := I1.laid (t' := tk) (a := hp.objs.size + 1) (o := exo (hp.objs.size + 1) C none) old (Nat.le_succ hp.objs.size) (exo_ok new)
    have r2 : Vals [V.ref (hp.objs.size + 1), v] (Value.ref (hp.objs.size + 1) :: us) := .cons rfl r1
    have hus : us.length = 1 := (Paired.length r1).symm
    have bd := hb _ (Value.ref (hp.objs.size + 1) :: us) I2.kIn (by simp [hus])
    rw [List.append_nil] at bd
    have hus2 : us.length ≤ sizeLine := by rw [hus, sizeLine_eq]; decide
    have wish : spErr C f [V.ref (hp.objs.size + 1), v] (upd H1 (hp.objs.size + 1) (exo (hp.objs.size + 1) C none)) (fun v H2 => v = .non ∧ Q (.ref (hp.objs.size + 1)) H2) (fun _ _ _ => False) := by
      refine ⟨hp.objs.size + 1, v, rfl, upd_same, fun d hd hda => ⟨rfl, ?_⟩⟩
      rw [upd_ne hda] at hd
      rw [up3 hda]
      exact q1 _ d fr hd hda
    apply wpAny_call
    refine PySem.HandSPX.call_own PySem.F.excBase_ValueError (fun Y => PySem.HandSPX.refsVE_contains Y bm hbm) (I1.kIn _ _ hC) (PySem.W.looks_findIn I1.kIn iC) (fun self => PySem.W.bind_fn I1.kIn self tI) hus2 (codeAny_mono (F.run _ X.stack _ _ _ _ _ _ _ ((hr.mono (by decide : 2 ≤ 2)).make C us []) (I2.env0.make C us []) bd r2 wish) ?_)
    intro r s' hq
    match r, hq with
    | .ok (.ret u), hq =>
      obtain ⟨v', H2, J, rv, rfl, q2⟩ := I2.after hq
      exact ⟨rv, ⟨V.ref (hp.objs.size + 1), H2, J, rfl, q2⟩⟩
end
end IK
end
section
set_option Elab.async false
set_option linter.all false
set_option maxRecDepth 100000
set_option maxHeartbeats 4000000
namespace IK
open PySem PySem.Spec PyProof.Rows L2

/-! ### try with several clauses, each with a name or without one -/
abbrev Cl := Value × Option Nat × (Addr → Value → Option Addr → TS)
/-- behind a suite the name i is none again -/
def unname (i : Nat) (D : Ends) : Ends := { nx := fun σ H => D.nx (σ.set i none) H, rt := D.rt, bk := fun σ H => D.bk (σ.set i none) H, ct := fun σ H => D.ct (σ.set i none) H }
def wCl (ts : Addr → Value → Option Addr → TS) (oi : Option Nat) (a : Addr) (cls : Value) (d : Option Addr) (D : Ends) (σ : L2.St) (H : Hp) : Prop :=
  match oi with
  | none => ts a cls d D σ H
  | some i => ts a cls d (unname i D) (σ.set i (some (.ref a))) H
def wCls (K : PySem.W.Frag) (Wout : WX) (D : Ends) : List Cl → WX
  | [] => Wout
  | (c, oi, ts) :: r => fun cls d σ H => ∃ b, PySem.W.exmOne K cls c = some b ∧ (b = true → ∀ a, H a = none → wCl ts oi a cls d D σ H) ∧ (b = false → wCls K Wout D r cls d σ H)
inductive Clauses (X : Cx) : List ExceptHandler → List Cl → Prop
  | nil : Clauses X [] []
  | plain {x : Str} {c : Value} {ts : Addr → Value → Option Addr → TS} {st : Stmt} {sts : List Stmt} {np pos' : Pos} {hds : List ExceptHandler} {l : List Cl} (hc : Names X x c)
      (hsu : ∀ (a : Addr) (oe : Obj) (cls : Value) (d : Option Addr) (pn : List (Addr × Obj)), Zc cls d oe → (∃ vs, oe.data = .fields vs) → PSs (X.suite a ((a, oe) :: pn)) (st :: sts) (ts a cls d)) (r : Clauses X hds l) :
      Clauses X (.ExceptHandler (some (.Name x np)) none (st :: sts) pos' :: hds) ((c, none, ts) :: l)
  | named {x n : Str} {i : Nat} {c : Value} {ts : Addr → Value → Option Addr → TS} {st : Stmt} {sts : List Stmt} {np pos' : Pos} {hds : List ExceptHandler} {l : List Cl} (hc : Names X x c) (hi : X.N[i]? = some n) (hn : X.env.kindOf n = some .local)
      (hsu : ∀ (a : Addr) (oe : Obj) (cls : Value) (d : Option Addr) (pn : List (Addr × Obj)), Zc cls d oe → (∃ vs, oe.data = .fields vs) → PSs (X.suite a ((a, oe) :: pn)) (st :: sts) (ts a cls d)) (r : Clauses X hds l) :
      Clauses X (.ExceptHandler (some (.Name x np)) (some n) (st :: sts) pos' :: hds) ((c, some i, ts) :: l)

section
variable {X : Cx} {pins : List (Addr × Obj)} {D : Ends} {Wout : WX}
/-- the exception a lies landed in s'; J: what stood when it was raised -/
structure Landed (X : Cx) (pins : List (Addr × Obj)) (B : Heap) (sI s' : Shared) (a : Addr) (cls : Value) (d : Option Addr) (σ : L2.St) (H : Hp) : Prop where
  J : Inv X pins σ H sI
  nb : ∀ b o, sI.heap.get? b = some o → b ∉ frs X.stack → B.get? b = some o
  fl : HandSPX.FlyingZ B (X.env :: X.outer) a (Zc cls d) s'.heap
  up : sI.heap.UpToSlots s'.heap
  os : s'.os = sI.os
  ag : AllBare s'.gens
  na : H a = none
theorem Landed.inv {B : Heap} {sI s' : Shared} {a : Addr} {cls : Value} {d : Option Addr} {σ : L2.St} {H : Hp} (L : Landed X pins B sI s' a cls d σ H) : Inv X pins σ H s' := L.J.landed L.nb L.fl.1 L.up L.os L.ag
theorem Landed.suite {B : Heap} {sI s' : Shared} {a : Addr} {cls : Value} {d : Option Addr} {σ : L2.St} {H : Hp} (L : Landed X pins B sI s' a cls d σ H) (hf : X.env.frame = some X.env.locals) :
    ∃ oe vs, s'.heap.get? a = some oe ∧ Zc cls d oe ∧ oe.data = .fields vs ∧ Inv (X.suite a ((a, oe) :: (X.pn ++ pins))) [] σ H s' := by
  obtain ⟨oe, vs, he, hz, hd⟩ := L.fl.there
  have out : a ∉ frs (X.env :: X.outer) := fun hm => by
    obtain ⟨_, o', e', hnf⟩ := L.fl.2.2.1.mem hm
    rw [he] at e'
    cases e'
    exact hnf _ hd
  have nL : a ≠ X.env.locals := fun z => out (List.mem_filterMap.mpr ⟨X.env, List.mem_cons_self, by rw [hf, z]⟩)
  have nF : a ∉ X.fs := fun hm => by
    obtain ⟨e, h1, h2⟩ := List.mem_filterMap.mp hm
    exact out (List.mem_filterMap.mpr ⟨e, List.mem_cons_of_mem _ h1, h2⟩)
  exact ⟨oe, vs, he, hz, hd, L.inv.suite he hd L.na nL nF⟩
theorem clause_go (hs : X.stack = X.env :: X.outer) (hf : X.env.frame = some X.env.locals) (hN : X.N.Nodup) (tk : Takes X Wout) {hds : List ExceptHandler} {l : List Cl} (hk : Clauses X hds l) {B : Heap} {sI s' : Shared} {a : Addr} {cls : Value} {d : Option Addr} {σ : L2.St} {H : Hp}
    (L : Landed X pins B sI s' a cls d σ H) (w : wCls X.K Wout D l cls d σ H) : wpAny (model X.prog X.w) X.A (handleBy (.ref a) X.env hds) (SP X pins D) X.xe s' := by
  have ok := L.J.ok
  induction hk with
  | nil =>
    apply wpAny_handleBy_nil
    obtain ⟨k1, k2, k3, oe, vs, T, oT, ts', he, hz, hd, h1, hr⟩ := id L.fl
    unfold PySem.passOn
    apply wpAny_bind
    apply wpAny_field he hd h1
    rw [if_neg (by simp)]
    have fin : wpAny (model X.prog X.w) X.A (setFlight (.ref a) X.env.frame) (fun _ s4 => wpAny (model X.prog X.w) X.A (throw (.ref a) : Sem Flow) (SP X pins D) X.xe s4) X.xe s' := by
      rw [hf]
      apply HandSPX.setFlight_upZ L.fl
      intro h4 hh4 up4
      apply wpAny_throw
      exact tk _ _ ⟨a, B, sI, pins, σ, H, cls, d, rfl, L.J, L.nb, L.up.trans up4, .inr (.inr (by rw [hs]; exact hh4)), L.na, L.os, L.ag, w⟩
    first
      | exact wpAny_bind (wpAny_pure (wpAny_bind fin))
      | exact wpAny_bind fin
  | @plain x c ts st sts np pos' hds2 l2 hc hsu r ih =>
    obtain ⟨b, hb1, hyes, hno⟩ := w
    obtain ⟨oe3, vs3, he3, hz3, hd3, S3⟩ := L.suite hf
    refine wpAny_handleBy_cons (codeAny_handlers_test ?_) (by intro q; cases q)
    have LM := PySem.W.exm_one (M := model X.prog X.w) L.inv.kIn (fun A Q E s k q => wpAny_typeOf_ref (k _ _ he3) (by rw [hz3.1]; exact q) : PySem.W.Looks (model X.prog X.w) s'.heap (typeOf (.ref a)) cls) hb1
    have ld : ∀ {Q : Value → Shared → Prop} {E : Value → Shared → Prop}, Q c s' → wpAny (model X.prog X.w) (X.A.mark (some (.ref a))) (eval (.Name x np) X.env) Q E s' := by
      intro Q E q
      obtain ⟨hg, hdbg, hm | ⟨hm, hv, hnn⟩⟩ := hc
      · exact ld_glob (X := X.suite a ((a, oe3) :: (X.pn ++ pins))) S3 hg hm q hdbg
      · exact ld_blt (X := X.suite a ((a, oe3) :: (X.pn ++ pins))) S3 hg hm hv q hnn hdbg
    apply ld
    apply LM.here
    cases b with
    | false => exact ih (hno rfl)
    | true =>
      apply codeAny_handlers_suite
      apply HandSPX.lands_againZ L.fl
      intro h4 fl4 up4
      obtain ⟨oe4, vs4, he4, hz4, hd4, S4⟩ := Landed.suite (s' := { s' with heap := h4 }) ⟨L.J, L.nb, fl4, L.up.trans up4, L.os, L.ag, L.na⟩ hf
      apply wpAny_mono ((hsu a oe4 cls d (X.pn ++ pins) hz4 ⟨_, hd4⟩).run [] _ _ H _ S4 (hyes rfl a L.na)) _ fun _ _ z => False.elim z
      intro f s6 hsp
      match f, hsp with
      | .next, ⟨σ6, H6, S6, q6⟩ => exact ⟨_, _, S6.unsuite ok, q6⟩
      | .brk, ⟨σ6, H6, S6, q6⟩ => exact ⟨_, _, S6.unsuite ok, q6⟩
      | .cont, ⟨σ6, H6, S6, q6⟩ => exact ⟨_, _, S6.unsuite ok, q6⟩
      | .ret u, ⟨v6, σ6, H6, S6, r6, q6⟩ => exact ⟨_, _, _, S6.unsuite ok, r6, q6⟩
  | @named x n i c ts st sts np pos' hds2 l2 hc hi hn hsu r ih =>
    obtain ⟨b, hb1, hyes, hno⟩ := w
    obtain ⟨oe3, vs3, he3, hz3, hd3, S3⟩ := L.suite hf
    refine wpAny_handleBy_cons (codeAny_handlers_test ?_) (by intro q; cases q)
    have LM := PySem.W.exm_one (M := model X.prog X.w) L.inv.kIn (fun A Q E s k q => wpAny_typeOf_ref (k _ _ he3) (by rw [hz3.1]; exact q) : PySem.W.Looks (model X.prog X.w) s'.heap (typeOf (.ref a)) cls) hb1
    have ld : ∀ {Q : Value → Shared → Prop} {E : Value → Shared → Prop}, Q c s' → wpAny (model X.prog X.w) (X.A.mark (some (.ref a))) (eval (.Name x np) X.env) Q E s' := by
      intro Q E q
      obtain ⟨hg, hdbg, hm | ⟨hm, hv, hnn⟩⟩ := hc
      · exact ld_glob (X := X.suite a ((a, oe3) :: (X.pn ++ pins))) S3 hg hm q hdbg
      · exact ld_blt (X := X.suite a ((a, oe3) :: (X.pn ++ pins))) S3 hg hm hv q hnn hdbg
    apply ld
    apply LM.here
    cases b with
    | false => exact ih (hno rfl)
    | true =>
      apply codeAny_handlers_suite_as
      apply HandSPX.lands_againZ L.fl
      intro h4 fl4 up4
      obtain ⟨oe4, vs4, he4, hz4, hd4, S4⟩ := Landed.suite (s' := { s' with heap := h4 }) ⟨L.J, L.nb, fl4, L.up.trans up4, L.os, L.ag, L.na⟩ hf
      refine store_ok (X := X.suite a ((a, oe4) :: (X.pn ++ pins))) (v := .ref a) S4 hN hi (.inl hn) rfl (fun s5 S5 => ?_) (.inr hn)
      apply wpAny_mono ((hsu a oe4 cls d (X.pn ++ pins) hz4 ⟨_, hd4⟩).run [] s5 _ H _ S5 (hyes rfl a L.na)) _ fun _ _ z => False.elim z
      intro f s6 hsp
      have end_ : ∀ {σ6 : L2.St} {H6 : Hp} {Q : Shared → Prop}, Inv (X.suite a ((a, oe4) :: (X.pn ++ pins))) [] σ6 H6 s6 → (∀ s7, Inv X pins (σ6.set i none) H6 s7 → Q s7) →
          wpAny (model X.prog X.w) X.A (do bindName X.env n .none; unbindBehindTheSuite X.env n pos') (fun _ s7 => Q s7) X.xe s6 := fun S6 hq => gone_ok (S6.unsuite ok) hN hi hn hq
      match f, hsp with
      | .next, ⟨σ6, H6, S6, q6⟩ => exact end_ S6 fun s7 J7 => ⟨_, _, J7, q6⟩
      | .brk, ⟨σ6, H6, S6, q6⟩ => exact end_ S6 fun s7 J7 => ⟨_, _, J7, q6⟩
      | .cont, ⟨σ6, H6, S6, q6⟩ => exact end_ S6 fun s7 J7 => ⟨_, _, J7, q6⟩
      | .ret u, ⟨v6, σ6, H6, S6, r6, q6⟩ => exact end_ S6 fun s7 J7 => ⟨_, _, _, J7, r6, q6⟩
theorem ps_try_cls {body : List Stmt} {h₀ : ExceptHandler} {hds : List ExceptHandler} {l : List Cl} {pos : Pos} {tb : WX → TS} (hs : X.stack = X.env :: X.outer) (hf : X.env.frame = some X.env.locals) (hN : X.N.Nodup) (tk : Takes X Wout)
    (hb : ∀ (W : WX) (pn : List (Addr × Obj)) (xe : Value → Shared → Prop), Takes (X.tr pn xe) W → PassesOwn (model X.prog X.w) X.A X.env xe → PSs (X.tr pn xe) body (tb W))
    (hh : Clauses X (h₀ :: hds) l) : PS X (.Try body (h₀ :: hds) [] [] pos) (fun D σ H => tb (wCls X.K Wout D l) D σ H) := by
  refine ⟨fun pins s σ H D I h => ?_⟩
  have ok := I.ok
  apply wpAny_Try_except
  have run := (hb (wCls X.K Wout D l) (X.pn ++ pins) (fun e s₁ => wpAny (model X.prog X.w) X.A (noteFrame e X.env) (fun _ s₂ => wpAny (model X.prog X.w) X.A (setFlight e none) (fun _ s₃ =>
    wpAny (model X.prog X.w) X.A (handleBy e X.env (h₀ :: hds)) (SP X pins D) X.xe s₃) X.xe s₂) X.xe s₁) ?_ PassesOwn.looking).run [] s σ H D (I.toTry _) h
  · apply wpAny_mono run _ fun _ _ z => z
    intro f s1 hsp
    match f, hsp with
    | .next, ⟨σ', H', J', q⟩ => exact wpAny_execs_nil ⟨σ', H', J'.ofTry ok, q⟩
    | .brk, ⟨σ', H', J', q⟩ => exact ⟨σ', H', J'.ofTry ok, q⟩
    | .cont, ⟨σ', H', J', q⟩ => exact ⟨σ', H', J'.ofTry ok, q⟩
    | .ret u, ⟨v, σ', H', J', r, q⟩ => exact ⟨v, σ', H', J'.ofTry ok, r, q⟩
  · rintro u s' ⟨a, B, sI, pins', σ', H', cls, d, rfl, J', nb, up, sky, na, os, ag, w⟩
    have J : Inv X pins σ' H' sI := J'.ofTry ok
    show wpAny _ _ (noteFrame (.ref a) X.env) _ _ _
    have sky' : Sky B (X.env :: X.outer) a (Zc cls d) X.env.locals s'.heap := by rw [← hs]; exact sky
    apply Sky.land Zc.steady (by rw [ok.frames, hs]) hf sky'
    intro h3 fl3 up3
    exact clause_go hs hf hN tk hh (s' := { s' with heap := h3 }) ⟨J, nb, fl3, up.trans up3, os, ag, na⟩ w
end
end IK
end
section
set_option Elab.async false
set_option linter.all false
set_option maxRecDepth 100000
set_option maxHeartbeats 4000000
namespace IK
open PySem PySem.Spec PyProof.Rows L2

/-! ### for a, b in zip(a text, a list) -/
def ItzS (K : PySem.W.Frag) (z : Str) (b : Addr) : It where
  go := fun i H => ∃ (ys : List V) (y : V), SqL K H b ys ∧ i < z.cps.size ∧ ys[i]? = some y
  yld := fun i H v H' => ∃ T c y, v = .ref T ∧ H T = none ∧ H' = upd H T (.tup [.str ⟨#[c]⟩, y]) ∧ z.cps[i]? = some c ∧ ∀ ys, SqL K H b ys → ys[i]? = some y
  stop := fun i H => ∃ ys : List V, SqL K H b ys ∧ i ≤ z.cps.size ∧ i ≤ ys.length ∧ (z.cps.size = i ∨ ys.length = i)
def tnS (N b : Addr) (z : Str) (t : Tok) (i : Nat) (h : Heap) : Prop :=
  IsZip h (N + 4) (N + 2) (N + 3) .none ∧ IsTupOf2 h (N + 2) (.ref N) (.ref (N + 1)) ∧ (∃ x y, IsTupOf2 h (N + 3) x y) ∧ h.IsStrIter N (strIterType z) z t i ∧ h.IsListIter (N + 1) b i
abbrev cells (N : Addr) : List Addr := [N + 4, N + 2, N + 3, N, N + 1]
theorem cells_cases {N c : Addr} (h : c ∈ cells N) : c = N + 4 ∨ c = N + 2 ∨ c = N + 3 ∨ c = N ∨ c = N + 1 := by simpa using h
theorem cells_ge {N c : Nat} (h : c ∈ cells N) : N ≤ c ∧ c ≤ N + 4 := by
  rcases cells_cases h with e | e | e | e | e <;> rw [e] <;> exact ⟨by first | exact Nat.le_refl _ | exact Nat.le_add_right _ _, by first | exact Nat.le_refl _ | exact Nat.add_le_add_left (by decide) _ | exact Nat.le_add_right _ _⟩
theorem ne_off {N : Nat} {i j : Nat} (h : i ≠ j) : (N + i : Nat) ≠ N + j := by omega
theorem turn_zipS {P : Program} {w : World} {K : PySem.W.Frag} {elts : List Expr} {kk : Nat} {tpos : Pos} {N b : Addr} {z : Str} {t : Tok} (hb : b < N) : Turn P w K (.Tuple elts kk tpos) (ItzS K z b) (cells N) (N + 4) (tnS N b z t) where
  mem := by simp [cells]
  obj := fun i h st c hc => by
    obtain ⟨hz, hTI, ⟨x, y, hTO⟩, ⟨o1, e1, _, d1⟩, ⟨o2, e2, _, d2⟩⟩ := st
    rcases cells_cases hc with q | q | q | q | q <;> subst q
    · exact ⟨_, hz, fun v q => nomatch q⟩
    · exact ⟨_, hTI, fun v q => nomatch q⟩
    · exact ⟨_, hTO, fun v q => nomatch q⟩
    · exact ⟨o1, e1, fun v q => by rw [d1] at q; cases q⟩
    · exact ⟨o2, e2, fun v q => by rw [d2] at q; cases q⟩
  keep := fun i h h' st k => by
    obtain ⟨hz, hTI, ⟨x, y, hTO⟩, h1, h2⟩ := st
    exact ⟨k (N + 4) (by simp [cells]) _ hz, k (N + 2) (by simp [cells]) _ hTI, ⟨x, y, k (N + 3) (by simp [cells]) _ hTO⟩, (by obtain ⟨o1, e1, r1⟩ := h1; exact ⟨o1, k N (by simp [cells]) o1 e1, r1⟩), h2.at fun o q => k (N + 1) (by simp [cells]) o q⟩
  item := by
    intro X hP hw hK hc i pins s σ H E I hf st hg
    subst hP hw hK
    obtain ⟨hz, hTI, ⟨x0, y0, hTO⟩, h1, h2⟩ := st
    obtain ⟨ys, y, hq, hi, hy⟩ := hg
    obtain ⟨its, rv, p, _⟩ := I.list hq
    obtain ⟨u, hu, ru⟩ := rv.get hy
    have hil : i < its.toArray.size := by simpa using (List.getElem?_eq_some_iff.mp hu).1
    have S : ZipSep2 (N + 4) (N + 2) (N + 3) N (N + 1) [N] [N + 1, b] := zip_sep2 (fp1 := []) (fp2 := [b]) (fun _ z => by cases z) (fun c z => by rcases List.mem_singleton.mp z with rfl; exact hb)
    have D1 := Draws.text (prog := X.prog) (w := X.w) (A := X.A.in1) (I.ok.hd hc) N z t
    have D2 := Draws.list (prog := X.prog) (w := X.w) (A := X.A.in1) (I.ok.hd hc) (N + 1) b (Nat.ne_of_lt (Nat.lt_succ_of_lt hb)) its.toArray
    have hzl : N + 4 < s.heap.objs.size := Heap.lt_size hz
    refine wpAny_pyNext_zipD2_item S D1 D2 hz hTI hTO h1 ⟨h2, p.isList⟩ hi hil fun v1 v2 h' tk p1 p2 z' TO' h1' h2' hT hsz hk => ?_
    obtain ⟨c, uc, hcc, rfl⟩ := p1
    have e2 : v2 = u := by
      have e : its.toArray[i]? = some u := by simpa using hu
      rw [e] at p2
      exact (Option.some.inj p2).symm
    subst e2
    refine ⟨_, rfl, wpAny_letOwnedTupleGo_zip (s := { s with heap := h', toks := tk }) z' fun h'' z'' sb => ?_⟩
    have hT2 : h''.get? s.heap.objs.size = some { cls := .type "tuple", data := .seq #[.str ⟨#[c]⟩ uc, v2] } := (sb.2 _ (Nat.ne_of_gt hzl)).trans hT
    have new : ObjOk X.prog X.w (upd H s.heap.objs.size (.tup [.str ⟨#[c]⟩, y])) h'' s.heap.objs.size (.tup [.str ⟨#[c]⟩, y]) :=
      ⟨by show 2 ≤ sizeLine; decide, [.str ⟨#[c]⟩ uc, v2], .cons ⟨uc, rfl⟩ (.cons ru .nil), ⟨_, hT2, rfl, _, rfl⟩⟩
    have far : ∀ c' : Addr, c' ∉ cells N → c' ≠ N + 4 ∧ c' ≠ N + 3 ∧ c' ≠ N ∧ c' ≠ N + 1 := fun c' hn => ⟨fun q => hn (by simp [q, cells]), fun q => hn (by simp [q, cells]), fun q => hn (by simp [q, cells]), fun q => hn (by simp [q, cells])⟩
    have I1 := I.turnedNew (t' := tk) (ch := cells N) (fun c' o hn q => (sb.2 c' (far c' hn).1).trans (hk c' o (far c' hn).1 (far c' hn).2.1 (far c' hn).2.2.1 (far c' hn).2.2.2 q)) hf (Nat.le_refl _) new
    refine ⟨.ref s.heap.objs.size, _, I1, rfl, ⟨_, c, y, rfl, I.hok.fresh (Nat.le_refl _), rfl, hcc, fun l hl => by rw [I.list_inj hl hq]; exact hy⟩, ⟨z'', ?_, ⟨.str ⟨#[c]⟩ uc, v2, ?_⟩, ?_, ?_⟩, fun c' hm => ?_⟩
    · exact (sb.2 _ (ne_off (by decide))).trans (hk _ _ (ne_off (by decide)) (ne_off (by decide)) (ne_off (i := 2) (j := 0) (by decide)) (ne_off (by decide)) hTI)
    · exact (sb.2 _ (ne_off (by decide))).trans TO'
    · obtain ⟨o1, e1, r1⟩ := h1'
      exact ⟨o1, (sb.2 _ (ne_off (i := 0) (by decide))).trans e1, r1⟩
    · exact h2'.1.at fun o q => (sb.2 _ (ne_off (by decide))).trans q
    · have hlt : c' < s.heap.objs.size := Nat.lt_of_le_of_lt (cells_ge hm).2 hzl
      rw [upd_ne (Nat.ne_of_lt hlt)]
      exact (hf c' hm).1
  done := by
    intro X hP hw hK hc i pins s σ H E I hf st hg
    subst hP hw hK
    obtain ⟨hz, hTI, ⟨x0, y0, hTO⟩, h1, h2⟩ := st
    obtain ⟨ys, hq, hi1, hi2, hend⟩ := hg
    obtain ⟨its, rv, p, _⟩ := I.list hq
    have l2 : ys.length = its.toArray.size := by simpa using rv.length
    have S : ZipSep2 (N + 4) (N + 2) (N + 3) N (N + 1) [N] [N + 1, b] := zip_sep2 (fp1 := []) (fp2 := [b]) (fun _ z => by cases z) (fun c z => by rcases List.mem_singleton.mp z with rfl; exact hb)
    have D1 := Draws.text (prog := X.prog) (w := X.w) (A := X.A.in1) (I.ok.hd hc) N z t
    have D2 := Draws.list (prog := X.prog) (w := X.w) (A := X.A.in1) (I.ok.hd hc) (N + 1) b (Nat.ne_of_lt (Nat.lt_succ_of_lt hb)) its.toArray
    refine wpAny_pyNext_zipD2_end S D1 D2 hz hTI hTO h1 ⟨h2, p.isList⟩ hi1 (by omega) (by rcases hend with q | q; exact .inl q.symm; exact .inr (by omega)) fun h' tk hk => ⟨rfl, ?_⟩
    have far : ∀ c' : Addr, c' ∉ cells N → c' ≠ N + 4 ∧ c' ≠ N + 3 ∧ c' ≠ N ∧ c' ≠ N + 1 := fun c' hn => ⟨fun q => hn (by simp [q, cells]), fun q => hn (by simp [q, cells]), fun q => hn (by simp [q, cells]), fun q => hn (by simp [q, cells])⟩
    exact I.turnedL (t' := tk) (ch := cells N) (fun c' o hn q => hk c' o (far c' hn).1 (far c' hn).2.1 (far c' hn).2.2.1 (far c' hn).2.2.2 q) hf
  self := fun A i s Q E st h => wpAny_pyIter_zip st.1 h
def iZipS (K : PySem.W.Frag) (ta : TA) : TI := fun σ H R => ta σ H fun vs H1 => ∃ z b ys, vs = [.str z, .ref b] ∧ SqL K H1 b ys ∧ R (ItzS K z b) H1
theorem pi_zipS {X : Cx} {e e2 : Expr} {ta : TA} {p pos tpos : Pos} {elts : List Expr} {kk : Nat} (hg : Gl X "zip") (hm : X.mg "zip" = none) (ha : PA X [e, e2] ta)
    (hs : starEach [e, e2] X.env = (false, eval e X.env) :: starEach [e2] X.env := by rfl) (hpl : (backTo pos (starEach [e2] X.env)).any (·.1) = false := by rfl) :
    PI X (.Tuple elts kk tpos) (.Call (.Name "zip" p) [e, e2] [] pos) (iZipS X.K ta) where
  run := fun pins s σ H R I h => by
    refine Call_ (ld_blt I hg hm PyProof.Rows.boot_zip (PyProof.Rows.callWith_type1 (wpAny_mono (ha.run pos pins s σ H _ I h) ?_ fun _ _ z => z) hs hpl))
    rintro us s1 ⟨vs, H1, I1, r1, z, b, ys, rfl, hq, q⟩
    obtain ⟨u1, u2, rfl, r, r'⟩ := vals2 r1
    cases r'
    obtain ⟨t, rfl⟩ := r
    obtain ⟨its, rv, p1, _⟩ := I1.list hq
    have lb : b < s1.heap.objs.size := p1.lt
    refine zip_begins2 (begins_text z t) (begins_list b its.toArray) trivial p1.isList fun h' hz hTI hTO h1 h2 hsz hk => wpAny_pyIter_zip hz ?_
    have I2 : Inv X pins σ H1 { s1 with heap := h' } := I1.kept (t' := s1.toks) hk
    refine ⟨s1.heap.objs.size + 4, cells s1.heap.objs.size, _, _, H1, rfl, I2, turn_zipS (t := t) lb, ⟨hz, hTI, ⟨_, _, hTO⟩, ⟨_, h1, rfl, rfl⟩, ⟨_, h2, rfl, rfl⟩⟩, fun c hcm => ?_, q⟩
    have hle : s1.heap.objs.size ≤ c := (cells_ge hcm).1
    exact I1.fpOk hle (I1.hok.fresh hle)
/-- as many turns as the text has signs -/
theorem walk_zipS {K : PySem.W.Frag} {z : Str} {b : Addr} {ys : List V} (hl : ys.length = z.cps.size) : Walk (ItzS K z b) ys.length (fun H => SqL K H b ys)
    (fun i H v H' => ∃ T c y, v = .ref T ∧ H T = none ∧ H' = upd H T (.tup [.str ⟨#[c]⟩, y]) ∧ z.cps[i]? = some c ∧ ys[i]? = some y) where
  goes := fun i H hi q => ⟨ys, ys[i], q, by omega, by simp [hi]⟩
  stops := fun H q => ⟨ys, q, by omega, Nat.le_refl _, .inr rfl⟩
  yields := fun i H x H' hi q ⟨T, c, y, h1, h2, h3, h4, h5⟩ => ⟨T, c, y, h1, h2, h3, h4, h5 ys q⟩
end IK
end
section
set_option Elab.async false
set_option linter.all false
set_option maxRecDepth 100000
set_option maxHeartbeats 4000000
namespace IK
open PySem PySem.Spec PyProof.Rows L2

/-! ### a dict of the module, asked by get -/
/-- the written dict at a: f tells what is behind each text -/
def KDic (K : PySem.W.Frag) (w : World) (a : Addr) (f : Str → Option V) : Prop := ∃ es n, K.lookup a = some ⟨.type "dict", none, .dict es n, #[]⟩ ∧ PySem.W.KeysLit w.params es.toList ∧ (a == sysModules) = false ∧ ∀ x, RelO (f x) (findBy Value.isStrOf es x)
def tKGet (K : PySem.W.Frag) (w : World) (to te : TE) : TE := fun σ H Q => to σ H fun x H1 => ∃ a f, x = .ref a ∧ KDic K w a f ∧ te σ H1 fun y H2 => ∃ k, y = .str k ∧ Q ((f k).getD .non) H2
section
variable {X : Cx} {o e : Expr} {to te : TE} {apos cpos pos : Pos}
theorem pe_kget (ho : PE X o to) (he : PE X e te) (hs : starEach [e] X.env = [(false, eval e X.env)] := by rfl) (hbase : attributeBase o "get" X.env (eval o X.env) = eval o X.env := by rfl) (hline : (apos.endLine == cpos.line) = true := by rfl) :
    PE X (.Call (.Attribute o "get" apos) [e] [] cpos) (tKGet X.K X.w to te) where
  run := fun pins s σ H Q I h => by
    refine PySem.Call_method1 hbase hs hline (wpAny_mono (ho.run pins s σ H _ I h) ?_ fun _ _ z => z)
    rintro v s1 ⟨x, H1, I1, r1, a, f, rfl, ⟨es, n, hl, hk, low, hf⟩, q1⟩
    cases r1
    have hm := PySem.W.mapOf_K (prog := X.prog) (w := X.w) I1.kIn hl hk
    refine ⟨"dict", _, PySem.F.plainAttrs_dict, PySem.F.slot_dict_get, PySem.F.type_dict_get, hm.typeIs, fun b q => ?_, Calls.callWith_builtin rfl (Calls.evalArgs_plain (Calls.spliced_cons (wpAny_mono (he.run pins s1 σ H1 _ I1 q1) ?_ fun _ _ z => z)))⟩
    · cases q
      exact ⟨_, I1.kIn _ _ hl, rfl⟩
    · rintro u s2 ⟨y, H2, I2, r2, k, rfl, q2⟩
      obtain ⟨t, rfl⟩ := r2
      have hm2 := PySem.W.mapOf_K (prog := X.prog) (w := X.w) I2.kIn hl hk
      apply Calls.spliced_nil
      refine call_meetsIn PySem.F.slot_dict_get hm2.typeIs PySem.F.entry_dict_get (PySem.F.args_dict_get_2 _ _) (meets_dict_get (strKind X.prog X.w) a (strKind_is X.prog X.w k t) low) ⟨_, hm2, ?_⟩
      have rel := hf k
      refine ⟨(f k).getD .non, H2, I2.tok _, ?_, q2⟩
      cases e1 : f k with
      | none =>
        cases e2 : findBy Value.isStrOf es k with
        | none => exact rfl
        | some u => rw [e1, e2] at rel; exact rel.elim
      | some v =>
        cases e2 : findBy Value.isStrOf es k with
        | none => rw [e1, e2] at rel; exact rel.elim
        | some u => rw [e1, e2] at rel; exact rel

/-! ### x.partition(a written text): behind it a token is out -/
theorem pss_part {n : Nat} {g : TGs} {es : List Expr} {kk : Nat} {tpos p1 : Pos} {c : Str} {j : Nat} {rest : List Stmt} {u : TS} (hc : X.calm = true) (ho : PE X o to) (hg : PGs X es g) (h2 : PSsT X rest u)
    (hs : starEach [.Constant (.str c) j p1] X.env = [(false, eval (.Constant (.str c) j p1) X.env)] := by rfl) (hbase : attributeBase o "partition" X.env (eval o X.env) = eval o X.env := by rfl) (hline : (apos.endLine == cpos.line) = true := by rfl)
    (hw1 : swapsWithSole [.Tuple es kk tpos] (.Call (.Attribute o "partition" apos) [.Constant (.str c) j p1] [] cpos) pos.line X.env = pure false := by rfl)
    (hw2 : swappedStores [.Tuple es kk tpos] (.Call (.Attribute o "partition" apos) [.Constant (.str c) j p1] [] cpos) X.env = pure none := by rfl)
    (hx : (assignEach [.Tuple es kk tpos] X.env).map (·.2) = [assign (.Tuple es kk tpos) X.env] := by rfl)
    (hn : (assignEach es X.env).length = n := by rfl) (hst : (assignEach es X.env).findIdx? (·.1) = none := by rfl) :
    PSs X (.Assign [.Tuple es kk tpos] (.Call (.Attribute o "partition" apos) [.Constant (.str c) j p1] [] cpos) pos :: rest)
      (tSeq (fun D σ H => to σ H fun x H1 => ∃ a, x = .str a ∧ (c.length == 0) = false ∧ a.length ≤ sizeLine ∧ ∀ p, H1 p = none → gTup X.K n g (.ref p) σ (upd H1 p (.tup [.str (Txt.partition a c).1, .str (Txt.partition a c).2.1, .str (Txt.partition a c).2.2])) D.nx) u) where
  run := fun pins s σ H D I h => by
    have one : wpAny (model X.prog X.w) X.A (eval (.Call (.Attribute o "partition" apos) [.Constant (.str c) j p1] [] cpos) X.env) (fun v s1 => 1 ≤ s1.toks ∧ EP X pins σ (fun v H1 => gTup X.K n g v σ H1 (u D)) v s1) X.xe s := by
      refine PySem.Call_method1 hbase hs hline (wpAny_mono (ho.run pins s σ H _ I h) ?_ fun _ _ z => z)
      rintro v s1 ⟨x, H1, I1, r1, a, rfl, h1, h2, q⟩
      obtain ⟨t, rfl⟩ := r1
      refine ⟨"str", _, PySem.F.plainAttrs_str, PySem.F.slot_str_partition, PySem.F.type_str_partition, typeIs_str _ _ _, (fun _ e => nomatch e), Calls.callWith_builtin rfl (Calls.evalArgs_plain (Calls.spliced_cons (Calls.Constant_str (Calls.spliced_nil ?_))))⟩
      have m := mt_partition (X := X) pins { s1 with toks := s1.toks + 1 } σ H1 (.str a) [.str c] _ _ (fun v H1 => gTup X.K n g v σ H1 (u D)) (I1.tok _) ⟨t, rfl⟩ (.cons ⟨s1.toks, rfl⟩ .nil) ⟨a, c, rfl, rfl, h1, h2, q⟩
      apply wpAny_mono (PySem.wpAny_toks m) _ fun _ _ z => z.2
      rintro v' s2 ⟨k, q'⟩
      exact ⟨Nat.le_trans (Nat.succ_le_succ (Nat.zero_le _)) k, q'⟩
    apply wpAny_execs_cons
    refine wpAny_Assign_stores (wpAny_mono one ?_ fun _ _ z => z) hw1 hw2
    rintro v s1 ⟨k, x, H1, I1, r1, q1⟩
    rw [hx]
    apply wpAny_mono (PySem.wpAny_toks ((pg_tup (pos := tpos) (k := kk) hc hg hn hst).run pins s1 σ H1 x v _ I1 r1 q1)) _ fun _ _ z => z.2
    rintro _ s2 ⟨k2, σ2, H2, I2, q2⟩
    exact h2 pins s2 σ2 H2 D (Nat.le_trans k k2) I2 q2
end
end IK
end
section
set_option Elab.async false
set_option linter.all false
set_option maxRecDepth 100000
set_option maxHeartbeats 4000000
namespace IK
open PySem PySem.Spec PyProof.Rows L2

/-! ### defs of the module under their names -/
section
variable (P : Program) (w : World) (K : PySem.W.Frag) (mg : Str → Option Value) (base : Heap) (CX : CXT)
structure Dn (k : Nat) (x : Str) (ps : List Str) (sp : Sp) : Prop where
  ex : ∃ f fd, mg x = some (.ref f) ∧ PySem.W.keepIn K (.ref f) = true ∧ Binds K fd ps [] ∧ FnOk P w K mg base CX k f fd ps sp
structure DnG (k : Nat) (x : Str) (ps : List Str) (sp : Sp) : Prop where
  ex : ∃ f fd, mg x = some (.ref f) ∧ PySem.W.keepIn K (.ref f) = true ∧ Binds K fd ps [] ∧ FnG P w K mg base CX k f fd ps sp
end
section
variable {X : Cx} {CX : CXT} {k : Nat} {x : Str} {ps : List Str} {sp : Sp} {E : XK} {p pos : Pos} {e : Expr} {es : List Expr} {t : TA}
/-- f(e, ..) -/
def tD (sp : Sp) (E : XK) (t : TA) : TE := fun σ H Q => t σ H fun vs H1 => sp vs H1 Q E
theorem pe_d (D : Dn X.prog X.w X.K X.mg X.base CX k x ps sp) (hr : Room k X.A) (hg : Gl X x) (hx : Passes CX X E) (ha : PA X (e :: es) t) (hdb : (x == ("__debug__" : Str)) = false := by decide)
    (he : starEach (e :: es) X.env = (false, eval e X.env) :: starEach es X.env := by rfl) (hpl : (backTo pos (starEach es X.env)).any (·.1) = false := by rfl) : PE X (.Call (.Name x p) (e :: es) [] pos) (tD sp E t) where
  run := fun pins s σ H Q I h => by
    obtain ⟨f, fd, hm, hk, hb, F⟩ := D.ex
    refine (pe_call F hr hg hm hk hb .nil hx ha hdb he hpl).run pins s σ H Q I ?_
    refine (?_ : t σ H fun vs H1 => sp (vs ++ []) H1 Q E)
    have z : (fun (vs : List V) (H1 : Hp) => sp (vs ++ []) H1 Q E) = fun vs H1 => sp vs H1 Q E := by
      funext vs H1
      rw [List.append_nil]
    rw [z]
    exact h
theorem pe_dG (D : DnG X.prog X.w X.K X.mg X.base CX k x ps sp) (hr : Room k X.A) (gd : X.A.guards = some []) (hg : Gl X x) (hx : Passes CX X E) (ha : PA X (e :: es) t) (hdb : (x == ("__debug__" : Str)) = false := by decide)
    (he : starEach (e :: es) X.env = (false, eval e X.env) :: starEach es X.env := by rfl) (hpl : (backTo pos (starEach es X.env)).any (·.1) = false := by rfl) : PE X (.Call (.Name x p) (e :: es) [] pos) (tD sp E t) where
  run := fun pins s σ H Q I h => by
    obtain ⟨f, fd, hm, hk, hb, F⟩ := D.ex
    exact (pe_callG F hr gd hg hm hk hb hx ha hdb he hpl).run pins s σ H Q I h
end
/-- x in a text, x a text -/
theorem nil_ne : ([] : List V) = [] := rfl
end IK
end
section
set_option Elab.async false
set_option linter.all false
set_option maxRecDepth 100000
set_option maxHeartbeats 4000000
/-! The plain law: what a line is read as, two ways. -/
namespace M
open PySem PySem.Spec L2 SX
/-! ### numbers written by figures -/
def isNum (l : List Nat) : Bool := decide (1 ≤ l.length) && decide (l.length ≤ 12) && l.all (fun c => decide (48 ≤ c) && decide (c ≤ 57)) && !(decide (l.head? = some 48) && !decide (l = [48]))
def itemV (s : Nat) (w : List Nat) : V := if s = 110 then .int (NumText.digitsVal w : Nat) else .str (S w)
def items : List Nat → List (List Nat) → Option (List V)
  | [], _ => some []
  | _, [] => some []
  | s :: f, w :: ws => if s = 110 ∧ isNum w = false then none else (items f ws).map (itemV s w :: ·)
def things (f : List Nat) (ws : List (List Nat)) : Option (List V) := if ws.length = f.length then items f ws else none
/-! ### the forms of lines -/
def formTab : List (Str × Str) := [("open", "rows"), ("go", "wnw"), ("back", "w"), ("late", "wnn"), ("undo", ""), ("redo", ""), ("show", ""), ("table", ""), ("whole", ""), ("led", ""), ("price", ""), ("standing", ""), ("stuck", ""), ("ice", "wn"), ("where", "wn"), ("last", "wn"), ("way", "w"), ("free", "w"), ("out", "w"), ("best", "n"), ("barred", "w")]
def lawTab : List (Str × Str) := [("open", "R"), ("go", "wnw"), ("back", "w"), ("late", "wnn"), ("ice", "wn"), ("where", "wn"), ("last", "wn"), ("undo", ""), ("redo", ""), ("show", ""), ("table", ""), ("whole", ""), ("led", ""), ("price", ""), ("standing", ""), ("stuck", ""), ("way", "w"), ("free", "w"), ("out", "w"), ("barred", "w"), ("best", "n")]
def formOf (x : Str) : Option Str := formTab.lookup x
def lawForm (x : Str) : Option Str := lawTab.lookup x
theorem lookup_none {α β : Type} [BEq α] [LawfulBEq α] : ∀ {l : List (α × β)} {x : α}, x ∉ l.map (·.1) → l.lookup x = none
  | [], _, _ => rfl
  | (k, v) :: r, x, h => by
    have h1 : (x == k) = false := by
      cases e : x == k with
      | false => rfl
      | true => exact absurd (by rw [eq_of_beq e]; simp) h
    rw [List.lookup, h1]
    exact lookup_none fun m => h (List.mem_cons_of_mem _ m)
theorem lookup_mem {α β : Type} [BEq α] [LawfulBEq α] : ∀ {l : List (α × β)} {x : α} {v : β}, l.lookup x = some v → (x, v) ∈ l
  | [], _, _, h => by cases h
  | (k, w) :: r, x, v, h => by
    cases e : x == k with
    | true =>
      rw [List.lookup, e] at h
      rw [eq_of_beq e]
      cases h
      exact List.mem_cons_self
    | false =>
      rw [List.lookup, e] at h
      exact List.mem_cons_of_mem _ (lookup_mem h)
def rOf (f : Option Str) : Option Str := f.map fun x : Str => if x = "rows" then ("R" : Str) else x
theorem same_keys : ∀ k ∈ lawTab.map (·.1), lawForm k = rOf (formOf k) := by decide +kernel
theorem keys_sub : (formTab.map (·.1)).all (fun k => decide (k ∈ lawTab.map (·.1))) = true := by decide +kernel
theorem lawForm_eq (x : Str) : lawForm x = rOf (formOf x) := by
  by_cases h : x ∈ lawTab.map (·.1)
  · exact same_keys x h
  · have h2 : x ∉ formTab.map (·.1) := fun m => h (of_decide_eq_true (List.all_eq_true.mp keys_sub x m))
    rw [lawForm, formOf, lookup_none h, lookup_none h2]
    rfl
/-- the forms that there are -/
theorem forms_all : ∀ p ∈ formTab, p.2 = "rows" ∨ p.2 = "" ∨ (p.2 ≠ "" ∧ p.2 ≠ "rows" ∧ p.2 ≠ "R" ∧ p.2.length ≤ 3 ∧ p.2.cps.toList ≠ []) := by decide +kernel
theorem rows_open : ∀ p ∈ formTab, p.2 = "rows" → p.1 = "open" := by decide +kernel
/-! ### a line by its blanks -/
def blanks (l : List Nat) : List (List Nat) := TL.spl [32] 0 [] l
/-- the first word and what stands behind its blank -/
def cutAt (l : List Nat) : Option (List Nat × List Nat) := TL.par [32] [] l
theorem split_first : ∀ {l : List Nat}, 32 ∈ l → ∃ p q, l = p ++ 32 :: q ∧ 32 ∉ p
  | [], h => by cases h
  | c :: r, h => by
    by_cases e : c = 32
    · exact ⟨[], r, by rw [e]; rfl, fun z => by cases z⟩
    · obtain ⟨p, q, e1, e2⟩ := split_first (List.mem_of_ne_of_mem (fun z => e z.symm) h)
      refine ⟨c :: p, q, by rw [e1]; rfl, fun z => ?_⟩
      rcases List.mem_cons.mp z with z | z
      · exact e z.symm
      · exact e2 z
theorem blanks_some {p q : List Nat} (h : 32 ∉ p) : blanks (p ++ 32 :: q) = p :: blanks q := TL.spl_part1 (s := 32) (S := []) (acc := []) h
theorem blanks_none {l : List Nat} (h : 32 ∉ l) : blanks l = [l] := TL.spl_last1 (s := 32) (S := []) (acc := []) h
theorem blanks_ne (l : List Nat) : blanks l ≠ [] := by
  by_cases h : 32 ∈ l
  · obtain ⟨p, q, e, hp⟩ := split_first h
    rw [e, blanks_some hp]
    exact List.cons_ne_nil _ _
  · rw [blanks_none h]
    exact List.cons_ne_nil _ _
theorem cut_some {p q : List Nat} (h : 32 ∉ p) : cutAt (p ++ 32 :: q) = some (p, q) := TL.par_part1 (s := 32) (S := []) (acc := []) h
theorem cut_none {l : List Nat} (h : 32 ∉ l) : cutAt l = none := TL.par_none1 (s := 32) (S := []) h
/-! ### ROWS -/
abbrev strokes : List Nat := [32, 47, 32]
def rowsOf (l : List Nat) : List Nat := StrLaws.replL strokes [10] l
/-! ### what a line is read as -/
def rd (l : List Nat) : Option (List Nat × List V) :=
  if 10 ∈ l then none else
  match cutAt l with
  | none => match formOf (S l) with
    | none => none
    | some f => if f = "" then some (l, []) else none
  | some (p, q) => match formOf (S p) with
    | none => none
    | some f => if f = "rows" then some (p, [.str (S (rowsOf q))]) else if f = "" then none else (things f.cps.toList (blanks q)).map fun vs => (p, vs)
/-- the law's own reading -/
def lawRd (l : List Nat) : Option (List Nat × List V) :=
  if 10 ∈ l then none else
  match blanks l with
  | [] => none
  | w :: ws => match lawForm (S w) with
    | none => none
    | some f => if f = "R" then (if ws = [] then none else some (w, [.str (S (rowsOf (l.drop 5)))])) else
      if ws.length = f.cps.toList.length then (items f.cps.toList ws).map fun vs => (w, vs) else none
theorem empty_list : ("" : Str).cps.toList = [] := by decide +kernel
theorem open_list : (("open" : Str)).cps.toList = [111, 112, 101, 110] := by decide +kernel
theorem nR : ¬ ("" : Str) = "rows" := by decide +kernel
theorem nE : ¬ ("" : Str) = "R" := by decide +kernel
theorem lawRd_eq (l : List Nat) : lawRd l = rd l := by
  unfold lawRd rd
  by_cases h10 : 10 ∈ l
  · rw [if_pos h10, if_pos h10]
  rw [if_neg h10, if_neg h10]
  by_cases h : 32 ∈ l
  · obtain ⟨p, q, e, hp⟩ := split_first h
    subst e
    rw [blanks_some hp, cut_some hp]
    dsimp only
    rw [lawForm_eq]
    cases hf : formOf (S p) with
    | none => rfl
    | some f =>
      have hm := lookup_mem hf
      have hne := blanks_ne q
      rcases forms_all _ hm with e | e | ⟨e1, e2, e3, e4, e5⟩
      · dsimp only at e
        subst e
        have ep := rows_open _ hm rfl
        dsimp only at ep
        have ep2 : p = [111, 112, 101, 110] := by
          have z := congrArg (fun x : Str => x.cps.toList) ep
          rw [open_list] at z
          exact z
        subst ep2
        dsimp only [rOf, Option.map]
        rw [if_pos rfl, if_pos rfl, if_neg hne, if_pos rfl]
        rfl
      · dsimp only at e
        subst e
        dsimp only [rOf, Option.map]
        have hl : ¬ (blanks q).length = 0 := fun z => hne (List.length_eq_zero_iff.mp z)
        rw [if_neg nR, if_neg nE, if_neg nR, if_pos rfl, empty_list, List.length_nil, if_neg hl]
      · dsimp only [rOf, Option.map]
        dsimp only at e1 e2 e3
        rw [if_neg e2, if_neg e3, if_neg e2, if_neg e1, things]
        by_cases hl : (blanks q).length = f.cps.toList.length
        · rw [if_pos hl, if_pos hl]
        · rw [if_neg hl, if_neg hl]
  · rw [blanks_none h, cut_none h]
    dsimp only
    rw [lawForm_eq]
    cases hf : formOf (S l) with
    | none => rfl
    | some f =>
      have hm := lookup_mem hf
      rcases forms_all _ hm with e | e | ⟨e1, e2, e3, e4, e5⟩
      · dsimp only at e
        subst e
        dsimp only [rOf, Option.map]
        rw [if_pos rfl, if_pos rfl, if_pos rfl, if_neg (fun z => nR z.symm)]
      · dsimp only at e
        subst e
        dsimp only [rOf, Option.map]
        rw [if_neg nR, if_neg nE, if_pos rfl, empty_list]
        rfl
      · dsimp only [rOf, Option.map]
        dsimp only at e1 e2 e3 e5
        rw [if_neg e2, if_neg e3, if_neg e1, if_neg (fun z => e5 (List.length_eq_zero_iff.mp z.symm))]
/-! ### the data, and how long it is shown -/
def toD : V → PyData
  | .str x => .str x
  | .int i => .int i
  | _ => .none
def resD (r : List Nat × List V) : PyData := .tuple [.str (S r.1), .list (r.2.map toD)]
def Fine (l : List Nat) : Prop := l.length ≤ 2000 ∧ ∀ c ∈ l, c < 128
theorem items_app {f' : List Nat} {ws' : List (List Nat)} : ∀ {f : List Nat} {ws : List (List Nat)}, f.length = ws.length → items (f ++ f') (ws ++ ws') = (items f ws).bind fun a => (items f' ws').map (a ++ ·)
  | [], [], _ => by
    show items f' ws' = (items f' ws').map ([] ++ ·)
    cases items f' ws' <;> simp
  | s :: f, w :: ws, h => by
    have h' : f.length = ws.length := by simpa using h
    show (if s = 110 ∧ isNum w = false then none else (items (f ++ f') (ws ++ ws')).map (itemV s w :: ·)) = (if s = 110 ∧ isNum w = false then none else (items f ws).map (itemV s w :: ·)).bind fun a => (items f' ws').map (a ++ ·)
    rw [items_app h']
    by_cases c : s = 110 ∧ isNum w = false
    · rw [if_pos c, if_pos c]
      rfl
    · rw [if_neg c, if_neg c]
      cases items f ws with
      | none => rfl
      | some a =>
        show ((items f' ws').map (a ++ ·)).map (itemV s w :: ·) = (items f' ws').map ((itemV s w :: a) ++ ·)
        cases items f' ws' <;> simp
theorem items_bad {f : List Nat} {ws : List (List Nat)} {i c : Nat} {w : List Nat} (hl : ws.length = f.length) (hc : f[i]? = some c) (hw : ws[i]? = some w) (h1 : c = 110) (h2 : isNum w = false) : items f ws = none := by
  have hi : i < f.length := (List.getElem?_eq_some_iff.mp hc).1
  have hi2 : i < ws.length := by omega
  have e1 : f = f.take i ++ (c :: f.drop (i + 1)) := by
    have z : f[i] = c := (List.getElem?_eq_some_iff.mp hc).2
    rw [← z, List.getElem_cons_drop, List.take_append_drop]
  have e2 : ws = ws.take i ++ (w :: ws.drop (i + 1)) := by
    have z : ws[i] = w := (List.getElem?_eq_some_iff.mp hw).2
    rw [← z, List.getElem_cons_drop, List.take_append_drop]
  rw [e1, e2, items_app (by rw [List.length_take, List.length_take]; omega)]
  have : items (c :: f.drop (i + 1)) (w :: ws.drop (i + 1)) = none := if_pos ⟨h1, h2⟩
  rw [this]
  cases items (f.take i) (ws.take i) <;> rfl
theorem items_good {f : List Nat} {ws : List (List Nat)} {i c : Nat} {w : List Nat} {vs : List V} (hl : ws.length = f.length) (hc : f[i]? = some c) (hw : ws[i]? = some w) (h : ¬ (c = 110 ∧ isNum w = false)) (hv : items (f.take i) (ws.take i) = some vs) :
    items (f.take (i + 1)) (ws.take (i + 1)) = some (vs ++ [itemV c w]) := by
  have hi : i < f.length := (List.getElem?_eq_some_iff.mp hc).1
  rw [List.take_succ, List.take_succ, hc, hw]
  show items (f.take i ++ [c]) (ws.take i ++ [w]) = _
  rw [items_app (by rw [List.length_take, List.length_take]; omega), hv]
  show (if c = 110 ∧ isNum w = false then none else (items [] []).map (itemV c w :: ·)).map (vs ++ ·) = _
  rw [if_neg h]
  rfl
theorem items_len : ∀ {f : List Nat} {ws : List (List Nat)} {vs : List V}, items f ws = some vs → vs.length ≤ f.length
  | [], _, vs, h => by
    cases h
    exact Nat.zero_le _
  | s :: f, [], vs, h => by
    cases h
    exact Nat.zero_le _
  | s :: f, w :: ws, vs, h => by
    have h' : (if s = 110 ∧ isNum w = false then none else (items f ws).map (itemV s w :: ·)) = some vs := h
    by_cases c : s = 110 ∧ isNum w = false
    · rw [if_pos c] at h'
      cases h'
    · rw [if_neg c] at h'
      cases e : items f ws with
      | none => rw [e] at h'; cases h'
      | some a =>
        rw [e] at h'
        cases h'
        exact Nat.succ_le_succ (items_len e)
theorem blanks_le : ∀ (n : Nat) (l : List Nat), l.length ≤ n → (blanks l).length ≤ l.length + 1 ∧ ∀ w ∈ blanks l, w.length ≤ l.length ∧ ∀ c ∈ w, c ∈ l
  | n, l, hn => by
    by_cases h : 32 ∈ l
    · obtain ⟨p, q, e, hp⟩ := split_first h
      subst e
      rw [blanks_some hp]
      have hl : (p ++ 32 :: q).length = p.length + (q.length + 1) := by simp
      cases n with
      | zero => omega
      | succ n =>
        obtain ⟨h1, h2⟩ := blanks_le n q (by omega)
        refine ⟨by rw [List.length_cons]; omega, fun w hw => ?_⟩
        rcases List.mem_cons.mp hw with e | hw
        · subst e
          exact ⟨by omega, fun c hc => List.mem_append_left _ hc⟩
        · obtain ⟨h3, h4⟩ := h2 w hw
          exact ⟨by omega, fun c hc => List.mem_append_right _ (List.mem_cons_of_mem _ (h4 c hc))⟩
    · rw [blanks_none h]
      refine ⟨by simp, fun w hw => ?_⟩
      rcases List.mem_singleton.mp hw with rfl
      exact ⟨Nat.le_refl _, fun c hc => hc⟩
end M
end
section
set_option Elab.async false
set_option linter.all false
set_option maxRecDepth 100000
set_option maxHeartbeats 4000000
namespace Law
open PySem PySem.Spec PyProof.Rows L2 IK
/-! ### the text by places -/
def topS (i : Nat) : Stmt := PySem.Challenge.pw_iceopened_k83_lines_read.main.body.getD i (.Pass ⟨0, 0, 0, 0⟩)
abbrev s_NoLine___init__ : Stmt := inClass (topS 2) 0
theorem sc_NoLine___init__ : FnScope ["self", "found"] ["self", "found"] (defScope s_NoLine___init__) := ⟨rfl, rfl, rfl, by decide +kernel, rfl, by decide +kernel, by decide +kernel⟩
-- self:0 found:1
abbrev s_number_of : Stmt := topS 6
theorem sc_number_of : FnScope ["word", "sign"] ["word"] (defScope s_number_of) := ⟨rfl, rfl, rfl, by decide +kernel, rfl, by decide +kernel, by decide +kernel⟩
-- word:0 sign:1
abbrev s_things_of : Stmt := topS 10
theorem sc_things_of : FnScope ["form", "words", "found", "sign", "word"] ["form", "words"] (defScope s_things_of) := ⟨rfl, rfl, rfl, by decide +kernel, rfl, by decide +kernel, by decide +kernel⟩
-- form:0 words:1 found:2 sign:3 word:4
abbrev s_read_line : Stmt := topS 11
theorem sc_read_line : FnScope ["line", "word", "blank", "rest", "form", "found"] ["line"] (defScope s_read_line) := ⟨rfl, rfl, rfl, by decide +kernel, rfl, by decide +kernel, by decide +kernel⟩
-- line:0 word:1 blank:2 rest:3 form:4 found:5
abbrev s__law_cell : Stmt := topS 13
theorem sc__law_cell : FnScope ["_law_script", "_law_k"] ["_law_script", "_law_k"] (defScope s__law_cell) := ⟨rfl, rfl, rfl, by decide +kernel, rfl, by decide +kernel, by decide +kernel⟩
-- _law_script:0 _law_k:1
abbrev s__law_box : Stmt := topS 14
theorem sc__law_box : FnScope ["_law_cell_here"] ["_law_cell_here"] (defScope s__law_box) := ⟨rfl, rfl, rfl, by decide +kernel, rfl, by decide +kernel, by decide +kernel⟩
-- _law_cell_here:0
abbrev s__law_take : Stmt := topS 15
theorem sc__law_take : FnScope ["_law_box_here", "_law_many", "_law_digit", "_law_one", "_law_other"] ["_law_box_here", "_law_many"] (defScope s__law_take) := ⟨rfl, rfl, rfl, by decide +kernel, rfl, by decide +kernel, by decide +kernel⟩
-- _law_box_here:0 _law_many:1 _law_digit:2 _law_one:3 _law_other:4
abbrev s__law_form : Stmt := topS 16
theorem sc__law_form : FnScope ["_law_word", "_law_forms", "_law_one"] ["_law_word"] (defScope s__law_form) := ⟨rfl, rfl, rfl, by decide +kernel, rfl, by decide +kernel, by decide +kernel⟩
-- _law_word:0 _law_forms:1 _law_one:2
abbrev s__law_figures : Stmt := topS 17
theorem sc__law_figures : FnScope ["_law_word", "_law_sign"] ["_law_word"] (defScope s__law_figures) := ⟨rfl, rfl, rfl, by decide +kernel, rfl, by decide +kernel, by decide +kernel⟩
-- _law_word:0 _law_sign:1
abbrev s__law_rows_of : Stmt := topS 18
theorem sc__law_rows_of : FnScope ["_law_text", "_law_found_here", "_law_at"] ["_law_text"] (defScope s__law_rows_of) := ⟨rfl, rfl, rfl, by decide +kernel, rfl, by decide +kernel, by decide +kernel⟩
-- _law_text:0 _law_found_here:1 _law_at:2
abbrev s__law_read : Stmt := topS 19
theorem sc__law_read : FnScope ["_law_line_here", "_law_words", "_law_form_here", "_law_found_here", "_law_sign", "_law_word"] ["_law_line_here"] (defScope s__law_read) := ⟨rfl, rfl, rfl, by decide +kernel, rfl, by decide +kernel, by decide +kernel⟩
-- _law_line_here:0 _law_words:1 _law_form_here:2 _law_found_here:3 _law_sign:4 _law_word:5
abbrev s__law_line : Stmt := topS 20
theorem sc__law_line : FnScope ["_law_box_here", "_law_words", "_law_word", "_law_letters", "_law_found_here", "_law_sign", "_law_size", "_law_parts", "_law_some", "_law_k"] ["_law_box_here"] (defScope s__law_line) := ⟨rfl, rfl, rfl, by decide +kernel, rfl, by decide +kernel, by decide +kernel⟩
-- _law_box_here:0 _law_words:1 _law_word:2 _law_letters:3 _law_found_here:4 _law_sign:5 _law_size:6 _law_parts:7 _law_some:8 _law_k:9
abbrev s__law_spoilt : Stmt := topS 21
theorem sc__law_spoilt : FnScope ["_law_box_here", "_law_line_here", "_law_signs", "_law_way", "_law_at", "_law_sign", "_law_words", "_law_place"] ["_law_box_here", "_law_line_here"] (defScope s__law_spoilt) := ⟨rfl, rfl, rfl, by decide +kernel, rfl, by decide +kernel, by decide +kernel⟩
-- _law_box_here:0 _law_line_here:1 _law_signs:2 _law_way:3 _law_at:4 _law_sign:5 _law_words:6 _law_place:7
abbrev s__law_found : Stmt := topS 22
theorem sc__law_found : FnScope ["_law_line_here", "_law_found_here", "e", "_law_shown"] ["_law_line_here"] (defScope s__law_found) := ⟨rfl, rfl, rfl, by decide +kernel, rfl, by decide +kernel, by decide +kernel⟩
-- _law_line_here:0 _law_found_here:1 e:2 _law_shown:3
abbrev s__law_right : Stmt := topS 23
theorem sc__law_right : FnScope ["_law_line_here", "_law_told", "_law_due"] ["_law_line_here"] (defScope s__law_right) := ⟨rfl, rfl, rfl, by decide +kernel, rfl, by decide +kernel, by decide +kernel⟩
-- _law_line_here:0 _law_told:1 _law_due:2
abbrev s_law : Stmt := topS 24
theorem sc_law : FnScope ["_law_script", "_law_k", "_law_box_here", "_law_many", "_law_line_here", "_law_turn", "_law_thing"] ["_law_script"] (defScope s_law) := ⟨rfl, rfl, rfl, by decide +kernel, rfl, by decide +kernel, by decide +kernel⟩
-- _law_script:0 _law_k:1 _law_box_here:2 _law_many:3 _law_line_here:4 _law_turn:5 _law_thing:6
/-- the box at p: what is left of a cell's digits, its mixed number, how often it was asked (at most c) -/
def BoxAt (H : Hp) (p : Addr) (c : Nat) : Prop := ∃ a b d : Int, H p = some (.lst [.int a, .int b, .int d]) ∧ 0 ≤ b ∧ b < 2147483648 ∧ 0 ≤ d ∧ d ≤ c
/-- all but p is as it was -/
def But (p : Addr) (H H' : Hp) : Prop := ∀ b, b ≠ p → H' b = H b
def spCell (K : PySem.W.Frag) : Sp := fun vs H Q _ => ∃ (a : Addr) (ns : List Int) (k : Nat), vs = [.ref a, .int k] ∧ SqL K H a (ns.map V.int) ∧ ns.length ≤ 63 ∧ ∀ n : Int, Q (.int n) H
def spBox : Sp := fun vs H Q _ => ∃ n : Int, vs = [.int n] ∧ ∀ p H', H p = none → BoxAt H' p 0 → But p H H' → Q (.ref p) H'
def spTake : Sp := fun vs H Q _ => ∃ (p : Addr) (m : Int) (c : Nat), vs = [.ref p, .int m] ∧ BoxAt H p c ∧ c < 100000 ∧ 0 < m ∧ m < 1000000000 ∧ ∀ (r : Int) H', 0 ≤ r → r < m → BoxAt H' p (c + 1) → But p H H' → Q (.int r) H'
section
variable {P : Program} {w : World} {K : PySem.W.Frag} {mg : Str → Option Value} {base : Heap}
theorem ok_cell {f : Addr} {fd : FuncData} (F : Fun K "_law_cell" "_law_cell" s__law_cell f fd) (ml : mg "len" = none) : FnOk P w K mg base CX0 1 f fd ["_law_script", "_law_k"] (spCell K) := by
  refine F.ok sc__law_cell (fun vs H Q E h => ?_) (fun cdv A outer s H vs Q E hr h => ?_)
  · obtain ⟨a, ns, k, rfl, _⟩ := h
    rfl
  · obtain ⟨a, ns, k, rfl, hS, hl, q⟩ := h
    refine ⟨_, pss_cons (ps_if (pt_cmpR op_lt (pv 1) (pe_callB call_len_seq (by rfl) ml PySem.boot_len (pa_cons (pv 0) pa_nil)) (nomark _)) (pss_one (ps_ret (pe_ix ix_list (pv 0) (pv 1) (fun _ _ => rfl)))) pss_nil)
      (pss_one (ps_ret (pe_op op_add (pe_op op_mul pe_int (pv 1)) pe_int))), ?_⟩
    refine ⟨_, rfl, _, rfl, a, _, rfl, .inl hS, _, _, rfl, rfl, _, rfl, ?_⟩
    rw [List.length_map]
    refine ite2 (fun hk => ?_) (fun _ => ?_)
    · have hk' : k < ns.length := by simpa using hk
      exact ⟨_, rfl, _, rfl, a, _, _, .int ns[k], rfl, rfl, hS, (by rw [atI_nat] <;> simp [hk']), q _⟩
    · exact ⟨_, rfl, _, _, rfl, rfl, .inl (by decide), _, _, rfl, rfl, q _⟩
theorem ok_box {f : Addr} {fd : FuncData} (F : Fun K "_law_box" "_law_box" s__law_box f fd) (mm : mg "max" = none) : FnOk P w K mg base CX0 1 f fd ["_law_cell_here"] spBox := by
  refine F.ok sc__law_box (fun vs H Q E h => ?_) (fun cdv A outer s H vs Q E hr h => ?_)
  · obtain ⟨n, rfl, _⟩ := h
    rfl
  · obtain ⟨n, rfl, q⟩ := h
    refine ⟨_, pss_one (ps_ret (pe_lst (pa_cons (pe_callB (call_max2 rfl) (by rfl) mm (by decide +kernel) (pa_cons pe_int (pa_cons (pe_op op_sub (pv 0) (pe_op op_pow pe_int pe_int)) pa_nil))) (pa_cons (pe_op op_mod (pv 0) pe_int) (pa_cons pe_int pa_nil))))), ?_⟩
    refine ⟨_, rfl, _, _, rfl, rfl, ⟨by decide, by decide, by decide⟩, _, _, rfl, rfl, _, _, rfl, _, rfl, _, _, rfl, rfl, (by show (0 : Int) < 2147483629; decide), Nat.le_of_ble_eq_true rfl, fun p hp => ?_⟩
    refine q p _ hp ⟨_, _, _, upd_same, ?_, ?_, by decide, by decide⟩ fun b hb => upd_ne hb
    · show 0 ≤ n % 2147483629
      omega
    · show n % 2147483629 < 2147483648
      omega
theorem at0 (a b c : V) : atI [a, b, c] 0 = some a := rfl
theorem at1 (a b c : V) : atI [a, b, c] 1 = some b := rfl
theorem at2 (a b c : V) : atI [a, b, c] 2 = some c := rfl
theorem ok_take {f : Addr} {fd : FuncData} (F : Fun K "_law_take" "_law_take" s__law_take f fd) : FnOk P w K mg base CX0 1 f fd ["_law_box_here", "_law_many"] spTake := by
  refine F.ok sc__law_take (fun vs H Q E h => ?_) (fun cdv A outer s H vs Q E hr h => ?_)
  · obtain ⟨p, m, c, rfl, _⟩ := h
    rfl
  · obtain ⟨p, m, c, rfl, ⟨a, b, d, hp, b0, b1, d0, d1⟩, hc, m0, m1, q⟩ := h
    refine ⟨_, pss_cons (ps_if (pt_cmpR op_gt (pe_ix ix_list (pv 0) pe_int (fun _ _ => rfl)) pe_int (nomark _))
        (pss_cons (ps_set (i := 2) sc__law_take.nd rfl (.inl rfl) (pe_op op_mod (pe_ix ix_list (pv 0) pe_int (fun _ _ => rfl)) (pv 1)))
        (pss_cons (ps_asg (pe_op op_fdivW (pe_ix ix_list (pv 0) pe_int (fun _ _ => rfl)) (pv 1)) (pg_sub (pv 0) pe_int set_list))
        (pss_one (ps_ret (pv 2))))) pss_nil)
      (pss_cons (ps_asg (pe_op op_add (pe_ix ix_list (pv 0) pe_int (fun _ _ => rfl)) pe_int) (pg_sub (pv 0) pe_int set_list))
      (pss_cons (ps_set (i := 3) sc__law_take.nd rfl (.inl rfl) (pe_op op_mod (pe_op op_pow (pe_op op_add (pe_op op_add (pe_ix ix_list (pv 0) pe_int (fun _ _ => rfl)) (pe_op op_mul pe_int (pe_ix ix_list (pv 0) pe_int (fun _ _ => rfl)))) pe_int) pe_int) pe_int))
      (pss_cons (ps_set (i := 4) sc__law_take.nd rfl (.inl rfl) (pe_op op_mod (pe_op op_pow (pe_op op_add (pe_op op_add (pe_op op_fdiv (pv 3) pe_int) (pe_op op_mul (pe_op op_mul pe_int (pe_ix ix_list (pv 0) pe_int (fun _ _ => rfl))) (pe_ix ix_list (pv 0) pe_int (fun _ _ => rfl)))) pe_int) pe_int) pe_int))
      (pss_one (ps_ret (pe_op op_mod (pe_op op_add (pe_op op_fdiv (pv 3) pe_int) (pe_op op_mul pe_int (pe_op op_fdiv (pv 4) pe_int))) (pv 1))))))), ?_⟩
    refine ⟨_, rfl, p, _, _, _, rfl, rfl, SqL.of hp, at0 _ _ _, _, _, rfl, rfl, _, rfl, ?_⟩
    refine ite2 (fun ha => ?_) (fun ha => ?_)
    · have ha' : 0 < a := by simpa using ha
      refine ⟨_, rfl, p, _, _, _, rfl, rfl, SqL.of hp, at0 _ _ _, _, rfl, _, _, rfl, rfl, m0, ?_⟩
      refine ⟨_, rfl, p, _, _, _, rfl, rfl, SqL.of hp, at0 _ _ _, _, rfl, _, _, rfl, rfl, wide_div m0 (b := 30) (by omega) (by decide) (by decide), _, rfl, p, _, _, 0, rfl, rfl, hp, rfl, _, rfl, ?_⟩
      refine q _ _ ?_ ?_ ⟨_, b, d, upd_same, b0, b1, d0, by omega⟩ fun x hx => upd_ne hx
      · exact Int.emod_nonneg _ (by omega)
      · exact Int.emod_lt_of_pos _ m0
    · refine ⟨_, rfl, p, _, _, _, rfl, rfl, SqL.of hp, at2 _ _ _, _, _, rfl, rfl, _, rfl, p, _, _, 2, rfl, rfl, hp, rfl, ?_⟩
      have hp2 : upd H p (.lst [.int a, .int b, .int (d + 1)]) p = some (.lst [.int a, .int b, .int (d + 1)]) := upd_same
      show tSeq _ _ _ _ (upd H p (.lst [.int a, .int b, .int (d + 1)]))
      generalize hH2 : upd H p (.lst [.int a, .int b, .int (d + 1)]) = H2 at hp2 ⊢
      have small1 : (b + 7919 * (d + 1) + 101).natAbs < 2 ^ 64 := by omega
      refine ⟨_, rfl, p, _, _, _, rfl, rfl, SqL.of hp2, at1 _ _ _, _, rfl, p, _, _, _, rfl, rfl, SqL.of hp2, at2 _ _ _, _, _, rfl, rfl, .inl (by decide), _, _, rfl, rfl, _, _, rfl, rfl, _, _, rfl, rfl, ⟨by decide, by decide, small1⟩, _, _, rfl, rfl, (by show (0 : Int) < 2147483647; decide), ?_⟩
      have n1 : 0 ≤ (b + 7919 * (d + 1) + 101) ^ (5 : Int).toNat % 2147483647 := Int.emod_nonneg _ (by decide)
      have n2 : (b + 7919 * (d + 1) + 101) ^ (5 : Int).toNat % 2147483647 < 2147483647 := Int.emod_lt_of_pos _ (by decide)
      dsimp only
      generalize (b + 7919 * (d + 1) + 101) ^ (5 : Int).toNat % 2147483647 = one at n1 n2 ⊢
      have q1 : 0 ≤ one / 8 ∧ one / 8 < 2147483647 := by omega
      have q2 : 0 ≤ 104729 * (d + 1) ∧ 104729 * (d + 1) ≤ 104729 * 100000 := by omega
      have q3 : 0 ≤ 104729 * (d + 1) * (d + 1) ∧ 104729 * (d + 1) * (d + 1) ≤ 104729 * 100000 * 100000 := by
        have z0 : 0 ≤ d + 1 := by omega
        have z1 : d + 1 ≤ 100000 := by omega
        exact ⟨Int.mul_nonneg q2.1 z0, Int.le_trans (Int.mul_le_mul_of_nonneg_right q2.2 z0) (Int.mul_le_mul_of_nonneg_left z1 (by decide))⟩
      have small2 : (one / 8 + 104729 * (d + 1) * (d + 1) + 3).natAbs < 2 ^ 64 := by omega
      refine ⟨_, rfl, _, _, rfl, rfl, ⟨by decide, by decide⟩, _, rfl, p, _, _, _, rfl, rfl, SqL.of hp2, at2 _ _ _, _, _, rfl, rfl, .inl (by decide), _, rfl, p, _, _, _, rfl, rfl, SqL.of hp2, at2 _ _ _, _, _, rfl, rfl, .inl (by omega), _, _, rfl, rfl, _, _, rfl, rfl, _, _, rfl, rfl, ⟨by decide, by decide, small2⟩, _, _, rfl, rfl, (by show (0 : Int) < 2147483629; decide), ?_⟩
      dsimp only
      generalize (one / 8 + 104729 * (d + 1) * (d + 1) + 3) ^ (3 : Int).toNat % 2147483629 = other
      refine ⟨_, rfl, _, _, rfl, rfl, ⟨by decide, by decide⟩, _, rfl, _, _, rfl, rfl, ⟨by decide, by decide⟩, _, _, rfl, rfl, .inl (by decide), _, _, rfl, rfl, _, rfl, _, _, rfl, rfl, m0, ?_⟩
      refine q _ _ ?_ ?_ ⟨a, b, d + 1, hp2, b0, b1, by omega, by omega⟩ fun x hx => by rw [← hH2, upd_ne hx]
      · exact Int.emod_nonneg _ (by omega)
      · exact Int.emod_lt_of_pos _ m0
end
end Law
end
section
set_option Elab.async false
set_option linter.all false
set_option maxRecDepth 100000
set_option maxHeartbeats 4000000
namespace Law
open PySem PySem.Spec PyProof.Rows L2 IK M SX
/-- what the built-in names are -/
structure Blt (mg : Str → Option Value) : Prop where
  isi : mg "isinstance" = none
  str : mg "str" = none
  len : mg "len" = none
  all : mg "all" = none
  int : mg "int" = none
  zip : mg "zip" = none
  bool : mg "bool" = none
  tuple : mg "tuple" = none
  list : mg "list" = none
  repr : mg "repr" = none
  range : mg "range" = none
  max : mg "max" = none
  min : mg "min" = none
def numV (l : List Nat) : V := if isNum l = true then .int (NumText.digitsVal l : Nat) else .non
theorem isNum_len {l : List Nat} (h : ¬ (1 ≤ l.length ∧ l.length ≤ 12)) : isNum l = false := by
  unfold isNum
  by_cases h1 : 1 ≤ l.length
  · have h2 : ¬ l.length ≤ 12 := fun z => h ⟨h1, z⟩
    simp [h2]
  · simp [h1]
theorem fig_list : (("0123456789" : Str)).cps.toList = [48, 49, 50, 51, 52, 53, 54, 55, 56, 57] := by decide +kernel
theorem in_fig (c : Nat) : decide (c ∈ (("0123456789" : Str)).cps.toList) = (decide (48 ≤ c) && decide (c ≤ 57)) := by
  rw [fig_list]
  by_cases h : 48 ≤ c ∧ c ≤ 57
  · have : c = 48 ∨ c = 49 ∨ c = 50 ∨ c = 51 ∨ c = 52 ∨ c = 53 ∨ c = 54 ∨ c = 55 ∨ c = 56 ∨ c = 57 := by omega
    rcases this with h | h | h | h | h | h | h | h | h | h <;> subst h <;> decide
  · have h2 : ¬ c ∈ [48, 49, 50, 51, 52, 53, 54, 55, 56, 57] := fun m => h (by simp at m; omega)
    rw [decide_eq_false h2]
    by_cases h3 : 48 ≤ c
    · have h4 : ¬ c ≤ 57 := fun z => h ⟨h3, z⟩
      simp [h4]
    · simp [h3]
theorem yesT {Q : Bool → Hp → Prop} {σ : L2.St} {H : Hp} (h : Q true H) : tYes σ H Q := h
def dg (c : Nat) : V := .bl (decide (48 ≤ c) && decide (c ≤ 57))
def spNum : Sp := fun vs H Q _ => ∃ l : List Nat, vs = [.str (S l)] ∧ l.length ≤ 10000 ∧ ∀ H', Same H H' → Q (numV l) H'
section
variable {P : Program} {w : World} {K : PySem.W.Frag} {mg : Str → Option Value} {base : Heap}
theorem ok_num {f : Addr} {fd : FuncData} (F : Fun K "number_of" "number_of" s_number_of f fd) (B : Blt mg) (gF : ∃ u, mg "FIGURES" = some u ∧ RelV (.str "0123456789") u) (gM : ∃ u, mg "MOST_FIGURES" = some u ∧ RelV (.int 12) u) :
    FnOk P w K mg base CX0 1 f fd ["word"] spNum := by
  refine F.ok sc_number_of (fun vs H Q E h => ?_) (fun cdv A outer s H vs Q E hr h => ?_)
  · obtain ⟨l, rfl, _⟩ := h
    rfl
  · obtain ⟨l, rfl, hl, q⟩ := h
    refine ⟨_, pss_cons (ps_if (PW.pt (pw_or (pt_not (pt_val (pe_callB call_isi (by rfl) B.isi (by decide +kernel) (pa_cons (pv 0) (pa_cons (pe_bltn (v := .ty "str") (by rfl) B.str (by decide +kernel) rfl) pa_nil)))))
        (pw_or1 (pt_not (pt_chain op_le op_le pe_int (pe_callB call_len_str (by rfl) B.len PySem.boot_len (pa_cons (pv 0) pa_nil)) (C8.pe_gc (by rfl) gM)))))) (pss_one (ps_ret pe_non)) pss_nil)
      (pss_cons (ps_if (PW.pt (pw_or (pt_not (pt_val (pe_callB (cr_all rfl) (by rfl) B.all (by decide +kernel) (pa_cons (pe_lc (own := [("sign", 1)]) (g := gName 1) (tt := tYes) rfl sc_number_of.nd (pi_str (pv 0))
          (blkOk_by (N := ["word", "sign"]) (sc := defScope s_number_of) (by decide +kernel)) (fun _ _ _ _ _ => pg_name (i := 1) sc_number_of.nd rfl (Or.inl rfl)) (fun _ _ _ _ _ => pts_nil)
          (fun _ _ _ _ _ => pe_cmpR op_in_sign (pv 1) (C8.pe_gc (by rfl) gF) (by rfl))) pa_nil))))
        (pw_or1 (PW.pt (pw_and (pt_cmpR op_eq (pe_ix ix_str (pv 0) pe_int (fun _ _ => rfl)) pe_str (nomark _)) (pw_and1 (pt_cmpR op_ne (pv 0) pe_str (nomark _)))))))) (pss_one (ps_ret pe_non)) pss_nil)
      (pss_one (ps_ret (pe_callTy call_int_str (by rfl) B.int (by decide +kernel) (pa_cons (pv 0) pa_nil))))), ?_⟩
    refine ⟨_, rfl, _, _, _, _, true, rfl, .ty "str", .base (.str _), kit_ty (by decide +kernel), true, rfl, ?_⟩
    have hz : (S l).length ≤ sizeLine := by rw [S_len]; exact Nat.le_trans hl (by decide)
    refine iteF ?_
    refine ⟨_, rfl, _, rfl, hz, _, _, rfl, rfl, _, rfl, ?_⟩
    rw [S_len]
    by_cases h1 : 1 ≤ l.length
    · rw [decide_eq_true (show (1 : Int) ≤ (l.length : Int) by omega)]
      refine iteT ⟨_, _, rfl, rfl, _, rfl, ?_⟩
      by_cases h2 : l.length ≤ 12
      · rw [decide_eq_true (show (l.length : Int) ≤ 12 by omega)]
        refine iteF ?_
        refine ⟨_, rfl, S l, rfl, fun D hD => ?_⟩
        refine lc_it (walk_str (z := S l)) (fun i H' => H' = upd H D (.lst ((l.take i).map dg))) rfl (fun _ _ _ _ => trivial) ?_ ?_
        · rintro i x H1 H' hi hP ⟨rfl, c, hc, rfl⟩
          subst hP
          have hc' : l[i]? = some c := by simpa using hc
          have hil : i < l.length := (List.getElem?_eq_some_iff.mp hc').1
          refine ⟨rfl, ?_⟩
          refine yesT (iteT ?_)
          refine ⟨_, rfl, c, _, rfl, rfl, _, upd_same, ?_, ?_⟩
          · rw [List.length_map, List.length_take]
            exact Nat.lt_of_le_of_lt (Nat.le_trans (Nat.min_le_right _ _) hl) (by decide)
          · rw [upd_upd, in_fig, List.take_succ, hc']
            simp [dg]
        · rintro H' rfl
          have hall : (S l).cps.size = l.length := by simp
          rw [hall, List.take_length]
          refine ⟨D, l.map (fun c => decide (48 ≤ c) && decide (c ≤ 57)), rfl, .inl (.inl ?_), _, rfl, ?_⟩
          · rw [upd_same, List.map_map]
            rfl
          have s1 : Same H (upd H D (.lst (l.map dg))) := fun b o e => by rw [upd_ne (ne_of_none e hD)]; exact e
          generalize upd H D (.lst (l.map dg)) = H1 at s1 ⊢
          have hq := q H1 s1
          have hA : (l.map (fun c => decide (48 ≤ c) && decide (c ≤ 57))).all id = l.all (fun c => decide (48 ≤ c) && decide (c ≤ 57)) := by
            rw [List.all_map]
            rfl
          rw [hA]
          obtain ⟨c, r, rfl⟩ : ∃ c r, l = c :: r := by
            cases l with
            | nil => simp at h1
            | cons c r => exact ⟨c, r, rfl⟩
          cases e : (c :: r).all (fun c => decide (48 ≤ c) && decide (c ≤ 57)) with
          | false =>
            refine iteT ?_
            rw [numV, show isNum (c :: r) = false by unfold isNum; rw [e]; simp, if_neg Bool.false_ne_true] at hq
            exact hq
          | true =>
            refine iteF ?_
            refine ⟨_, rfl, _, _, c, rfl, rfl, hz, atI_nat (j := 0) rfl, rfl, _, rfl, ?_⟩
            by_cases hc : c = 48
            · subst hc
              refine iteT ?_
              refine ⟨_, rfl, rfl, _, rfl, ?_⟩
              by_cases hr' : r = []
              · subst hr'
                refine iteF ?_
                refine ⟨_, rfl, _, _, rfl, int_S e (by simp) (by simp), by rw [S_len]; omega, ?_⟩
                exact hq
              · have ne : ¬ V.str (S (48 :: r)) = V.str "0" := fun z => by
                  have z2 := congrArg (fun x : Str => x.cps.toList) (V.str.inj z)
                  have z3 : (48 :: r : List Nat) = [48] := z2
                  exact hr' (List.cons.inj z3).2
                rw [decide_eq_false ne]
                refine iteT ?_
                rw [numV, show isNum (48 :: r) = false by unfold isNum; simp [hr'], if_neg Bool.false_ne_true] at hq
                exact hq
            · have ne : ¬ V.str (⟨#[c]⟩ : Str) = V.str "0" := fun z => by
                have z2 := congrArg (fun x : Str => x.cps.toList) (V.str.inj z)
                have z3 : ([c] : List Nat) = [48] := z2
                exact hc (List.cons.inj z3).1
              rw [decide_eq_false ne]
              refine iteF ?_
              refine iteF ?_
              refine ⟨_, rfl, _, _, rfl, int_S e (by simp) (by omega), by rw [S_len]; omega, ?_⟩
              rw [numV, show isNum (c :: r) = true by unfold isNum; rw [e, decide_eq_true h1, decide_eq_true h2]; simp [hc], if_pos rfl] at hq
              exact hq
      · rw [decide_eq_false (show ¬ (l.length : Int) ≤ 12 by omega)]
        refine iteT ?_
        have e := q H (Same.refl H)
        rw [numV, isNum_len (fun z => h2 z.2), if_neg Bool.false_ne_true] at e
        exact e
    · rw [decide_eq_false (show ¬ (1 : Int) ≤ (l.length : Int) by omega)]
      refine iteF ⟨_, rfl, iteT ?_⟩
      have e := q H (Same.refl H)
      rw [numV, isNum_len (fun z => h1 z.1), if_neg Bool.false_ne_true] at e
      exact e
end
end Law
end
section
set_option Elab.async false
set_option linter.all false
set_option maxRecDepth 100000
set_option maxHeartbeats 4000000
namespace Law
open PySem PySem.Spec PyProof.Rows L2 IK M SX
theorem same_new {H : Hp} {p : Addr} {o : HO} (h : H p = none) : Same H (upd H p o) := fun b x e => by
  rw [upd_ne (ne_of_none e h)]
  exact e
/-- a list of texts -/
abbrev txts (ws : List (List Nat)) : List V := ws.map fun w => V.str (S w)
def spThings (K : PySem.W.Frag) : Sp := fun vs H Q _ => ∃ (f : List Nat) (a : Addr) (ws : List (List Nat)), vs = [.str (S f), .ref a] ∧ SqL K H a (txts ws) ∧ f.length ≤ 10 ∧ ws.length ≤ 10000 ∧ (∀ w ∈ ws, w.length ≤ 10000) ∧
  (things f ws = none → ∀ H', Same H H' → Q .non H') ∧ ∀ vs, things f ws = some vs → ∀ p H', Same H H' → H p = none → H' p = some (.lst vs) → Q (.ref p) H'
section
variable {P : Program} {w : World} {K : PySem.W.Frag} {mg : Str → Option Value} {base : Heap}
theorem ok_things {f : Addr} {fd : FuncData} (F : Fun K "things_of" "things_of" s_things_of f fd) (B : Blt mg) (Dnum : Dn P w K mg base CX0 1 "number_of" ["word"] spNum) : FnOk P w K mg base CX0 2 f fd ["form", "words"] (spThings K) := by
  refine F.ok sc_things_of (fun vs H Q E h => ?_) (fun cdv A outer s H vs Q E hr h => ?_)
  · obtain ⟨f, a, ws, rfl, _⟩ := h
    rfl
  · obtain ⟨f, a, ws, rfl, hS, hf, hws, hwl, qn, qs⟩ := h
    refine ⟨_, pss_cons (ps_if (pt_cmpR op_ne (pe_callB call_len_seq (by rfl) B.len PySem.boot_len (pa_cons (pv 1) pa_nil)) (pe_callB call_len_str (by rfl) B.len PySem.boot_len (pa_cons (pv 0) pa_nil)) (nomark _)) (pss_one (ps_ret pe_non)) pss_nil)
      (pss_cons (ps_set (i := 2) sc_things_of.nd rfl (.inl rfl) (pe_lst pa_nil))
      (pss_cons (ps_for PassesOwn.never rfl (pi_zipS (by rfl) B.zip (pa_cons (pv 0) (pa_cons (pv 1) pa_nil))) (pg_tup rfl (pgs_cons (pg_name (i := 3) sc_things_of.nd rfl (.inl rfl)) (pgs_cons (pg_name (i := 4) sc_things_of.nd rfl (.inl rfl)) pgs_nil)))
        (pss_cons (ps_if (PW.pt (pw_and (pt_cmpR op_eq (pv 3) pe_str (nomark _)) (pw_and1 (pt_cmpR op_isN (pe_d Dnum (hr.mono (by decide)) (by rfl) pass0 (pa_cons (pv 4) pa_nil)) pe_non (nomark _))))) (pss_one (ps_ret pe_non)) pss_nil)
        (pss_one (ps_expr (pe_bm PySem.F.plainAttrs_list PySem.F.slot_list_append PySem.F.type_list_append mt_append (pv 2) (pa_cons (pe_ifExp (pt_cmpR op_eq (pv 3) pe_str (nomark _)) (pe_d Dnum (hr.mono (by decide)) (by rfl) pass0 (pa_cons (pv 4) pa_nil)) (pv 4)) pa_nil))))))
      (pss_one (ps_ret (pv 2))))), ?_⟩
    refine ⟨_, rfl, a, _, rfl, .inl hS, _, rfl, _, rfl, (by rw [S_len]; exact Nat.le_trans hf (by decide)), rfl, _, rfl, ?_⟩
    rw [List.length_map, S_len]
    by_cases hl : ws.length = f.length
    · rw [hl, decide_eq_true rfl]
      refine iteF ?_
      refine ⟨Nat.le_of_ble_eq_true rfl, fun o ho => ?_⟩
      have s1 : Same H (upd H o (.lst [])) := same_new ho
      refine ⟨_, rfl, _, rfl, _, a, _, rfl, s1.seq hS, ?_⟩
      refine for_it (walk_zipS (z := S f) (ys := txts ws) (by rw [List.length_map, hl]; simp)) (fun i σ H' => ∃ y3 y4 vs, σ = [some (.str (S f)), some (.ref a), some (.ref o), y3, y4] ∧ items (f.take i) (ws.take i) = some vs ∧ Same H H' ∧ H' o = some (.lst vs)) ?_ ?_ ?_ ?_
      · exact ⟨none, none, [], rfl, rfl, s1, upd_same⟩
      · rintro i σ H' _ ⟨y3, y4, vs, _, _, sm, _⟩
        exact sm.seq hS
      · rintro i x σ H1 H2 hi ⟨y3, y4, vs, rfl, hv, sm, ho1⟩ ⟨T, c, y, rfl, hT, rfl, hc, hy⟩
        have hc' : f[i]? = some c := by simpa using hc
        have hil : i < ws.length := by simpa using hi
        have hy' : y = .str (S ws[i]) := by
          rw [List.getElem?_map, List.getElem?_eq_getElem hil] at hy
          exact (Option.some.inj hy).symm
        subst hy'
        have sT : Same H1 (upd H1 T (.tup [.str ⟨#[c]⟩, .str (S ws[i])])) := same_new hT
        have hw : ws[i]? = some ws[i] := List.getElem?_eq_getElem hil
        have hwi : ws[i].length ≤ 10000 := hwl _ (List.getElem_mem _)
        have ho2 : upd H1 T (.tup [.str ⟨#[c]⟩, .str (S ws[i])]) o = some (.lst vs) := sT _ _ ho1
        have sm2 := sm.trans sT
        have hvl : vs.length < sizeLine := Nat.lt_of_le_of_lt (items_len hv) (Nat.lt_of_le_of_lt (by rw [List.length_take]; exact Nat.le_trans (Nat.min_le_right _ _) hf) (by decide))
        refine ⟨T, _, rfl, .inl (.inl upd_same), rfl, _, _, rfl, _, _, rfl, rfl, ?_⟩
        generalize upd H1 T (.tup [.str ⟨#[c]⟩, .str (S ws[i])]) = H3 at ho2 sm2 ⊢
        refine ⟨_, rfl, rfl, _, rfl, ?_⟩
        by_cases hn : c = 110
        · subst hn
          refine iteT ?_
          refine ⟨_, rfl, _, rfl, hwi, fun H4 s4 => ⟨rfl, _, rfl, ?_⟩⟩
          have ho4 := s4 _ _ ho2
          have sm4 := sm2.trans s4
          by_cases hnum : isNum ws[i] = true
          · rw [numV, if_pos hnum]
            refine iteF ?_
            refine ⟨_, rfl, .inl ⟨rfl, vs, .inl (.inl ho4)⟩, _, rfl, rfl, _, rfl, ?_⟩
            refine iteT ?_
            refine ⟨_, rfl, _, rfl, hwi, fun H5 s5 => ?_⟩
            have ho5 := s5 _ _ ho4
            refine ⟨o, vs, _, rfl, rfl, ho5, hvl, _, _, _, rfl, items_good hl hc' hw (fun z => by rw [hnum] at z; cases z.2) hv, ?_, ?_⟩
            · intro b x e
              have hb : b ≠ o := ne_of_none e ho
              rw [upd_ne hb]
              exact (sm4.trans s5) b x e
            · rw [upd_same, numV, if_pos hnum]
              rfl
          · have hnum' : isNum ws[i] = false := by simpa using hnum
            rw [numV, if_neg hnum]
            refine iteT ?_
            exact qn (by rw [things, if_pos hl]; exact items_bad hl hc' hw rfl hnum') H4 sm4
        · have ne : ¬ V.str (⟨#[c]⟩ : Str) = V.str "n" := fun z => by
            have z2 := congrArg (fun x : Str => x.cps.toList) (V.str.inj z)
            have z3 : ([c] : List Nat) = [110] := z2
            exact hn (List.cons.inj z3).1
          rw [decide_eq_false ne]
          refine iteF ?_
          refine iteF ?_
          refine ⟨_, rfl, .inl ⟨rfl, vs, .inl (.inl ho2)⟩, _, rfl, rfl, _, rfl, ?_⟩
          rw [decide_eq_false ne]
          refine iteF ?_
          refine ⟨_, rfl, o, vs, _, rfl, rfl, ho2, hvl, _, _, _, rfl, items_good hl hc' hw (fun z => hn z.1) hv, ?_, ?_⟩
          · intro b x e
            have hb : b ≠ o := ne_of_none e ho
            rw [upd_ne hb]
            exact sm2 b x e
          · rw [upd_same, itemV, if_neg hn]
      · rintro σ H' ⟨y3, y4, vs, rfl, hv, sm, ho1⟩
        have e : things f ws = some vs := by
          rw [things, if_pos hl]
          rw [List.length_map] at hv
          rw [List.take_of_length_le (by omega), List.take_of_length_le (Nat.le_refl _)] at hv
          exact hv
        exact ⟨_, rfl, qs vs e o H' sm ho ho1⟩
    · have ne : ¬ V.int (ws.length : Int) = V.int (f.length : Int) := fun z => hl (by have := V.int.inj z; omega)
      rw [decide_eq_false ne]
      refine iteT ?_
      exact qn (by rw [things, if_neg hl]) H (Same.refl H)
end
end Law
end
section
set_option Elab.async false
set_option linter.all false
set_option maxRecDepth 100000
set_option maxHeartbeats 4000000
namespace IK
open PySem PySem.Spec PyProof.Rows L2
/-- x = e where e wants a token -/
theorem pst_set {X : Cx} {i : Nat} {x : Str} {e : Expr} {te : TE} {pos pos' : Pos} (hN : X.N.Nodup) (hi : X.N[i]? = some x) (hx : Loc X.env.scope x) (he : PET X e te) (hs : swapsWith e (some (.Name x pos')) pos.line X.env = pure false := by rfl)
    (hf : X.fn x = true ∨ X.env.scope.names.lookup x = some .local := by first | exact .inl rfl | exact .inr rfl) : PST X (.Assign [.Name x pos'] e pos) (tAsg te (gName i)) := by
  intro pins s σ H D h0 I h
  refine wpAny_Assign_Name (wpAny_mono (he pins s σ H _ h0 I h) ?_ fun _ _ z => z) hs
  rintro v s1 ⟨y, H1, I1, r1, q1⟩
  exact store_ok I1 hN hi hx r1 (fun s2 I2 => ⟨_, H1, I2, q1⟩) hf
end IK
namespace Law
open PySem PySem.Spec PyProof.Rows L2 IK M SX
theorem blank_S : (" " : Str) = S [32] := by decide +kernel
theorem empty_S : ("" : Str) = S [] := by decide +kernel
theorem part_at (l : List Nat) : ∃ w b r, Txt.partition (S l) " " = (S w, S b, S r) ∧ ((32 ∉ l ∧ cutAt l = none ∧ w = l ∧ b = [] ∧ r = []) ∨ (cutAt l = some (w, r) ∧ l = w ++ 32 :: r ∧ 32 ∉ w ∧ b = [32])) := by
  rw [blank_S]
  by_cases h : 32 ∈ l
  · obtain ⟨p, q, e, hp⟩ := split_first h
    subst e
    exact ⟨p, [32], q, partition_some (by simp) (cut_some hp), .inr ⟨cut_some hp, rfl, hp, rfl⟩⟩
  · exact ⟨l, [], [], partition_none (by simp) (cut_none h), .inl ⟨h, cut_none h, rfl, rfl, rfl⟩⟩
section
variable {P : Program} {w : World} {K : PySem.W.Frag} {mg : Str → Option Value} {base : Heap}
theorem ok_noLine {f CI CN : Addr} {fd : FuncData} (F : Fun K "__init__" "NoLine.__init__" s_NoLine___init__ f fd) (TI : BInit K mg "IceError" CI) (ox : OexC K CN) (nf : PySem.W.findIn K (.ref CN) "found" = some none) :
    FnOk P w K mg base CX0 1 f fd ["self", "found"] (spErr CN "found") := by
  refine F.ok sc_NoLine___init__ (fun vs H Q E h => ?_) (fun cdv A outer s H vs Q E hr h => ?_)
  · obtain ⟨a, v, rfl, _⟩ := h
    rfl
  · obtain ⟨a, v, rfl, ha, k⟩ := h
    refine ⟨_, pss_cons (ps_expr (pe_binit (pl := _) TI (by rfl) (pa_cons (pv 0) (pa_cons pe_str pa_nil)))) (pss_one (ps_ost (pv 0) (pv 1))), ?_⟩
    refine ⟨_, rfl, a, CN, _, rfl, Nat.le_of_ble_eq_true rfl, ox, ha, ?_⟩
    exact ⟨_, rfl, _, rfl, a, CN, rfl, ox, nf, .inl ⟨ha, k⟩⟩
/-- isinstance(x, str) is False -/
def OddStr (K : PySem.W.Frag) (H : Hp) (x : V) : Prop := ∀ Q : VK, Q (.bl false) H → rIsi K [x, .ty "str"] H Q ∨ rIsX K [x, .ty "str"] H Q
def raised (CN : Addr) (x : V) (H : Hp) (E : XK) : Prop := ∀ d H', Same H H' → H d = none → H' d = some (.xd [("found", x)]) → E (.ref CN) (some d) H'
def spRead (K : PySem.W.Frag) (CN : Addr) : Sp := fun vs H Q E => ∃ x, vs = [x] ∧ ((OddStr K H x ∧ raised CN x H E) ∨ ∃ l, x = .str (S l) ∧ l.length ≤ 9000 ∧ (rd l = none → raised CN x H E) ∧
  ∀ r, rd l = some r → ∀ p q H', Same H H' → H p = none → H q = none → p ≠ q → H' p = some (.tup [.str (S r.1), .ref q]) → H' q = some (.lst r.2) → Q (.ref p) H')
theorem ok_read {f CN D : Addr} {fd : FuncData} (F : Fun K "read_line" "read_line" s_read_line f fd) (B : Blt mg) (TN : Err P w K mg base "NoLine" CN "found") (Dth : Dn P w K mg base CX0 2 "things_of" ["form", "words"] (spThings K))
    (gR : ∃ u, mg "ROWS" = some u ∧ RelV (.str "rows") u) (gF : ∃ u, mg "FORMS" = some u ∧ RelV (.ref D) u) (kF : KDic K w D (fun x => (formOf x).map V.str)) :
    FnOk P w K mg base (L2.CX P w) 3 f fd ["line"] (spRead K CN) := by
  refine F.okX sc_read_line (fun vs H Q E h => ?_) (fun cdv A outer s H vs Q E hr h => ?_)
  · obtain ⟨x, rfl, _⟩ := h
    rfl
  · obtain ⟨x, rfl, hx⟩ := h
    have hr2 : Room 2 _ := hr
    refine ⟨_, pss_cons (ps_if (PW.pt (pw_or (pt_not (pt_val (pe_callB (call_alt call_isi call_isX) (by rfl) B.isi (by decide +kernel) (pa_cons (pv 0) (pa_cons (pe_bltn (v := .ty "str") (by rfl) B.str (by decide +kernel) rfl) pa_nil)))))
        (pw_or1 (pt_cmpR op_in_sign pe_str (pv 0) (by rfl))))) (pss_one (ps_raise rfl (takes_of rfl rfl rfl rfl) (pmk_err TN hr2 (by rfl) (pv 0)))) pss_nil)
      (pss_part rfl (pv 0) (pgs_cons (pg_name (i := 1) sc_read_line.nd rfl (.inl rfl)) (pgs_cons (pg_name (i := 2) sc_read_line.nd rfl (.inl rfl)) (pgs_cons (pg_name (i := 3) sc_read_line.nd rfl (.inl rfl)) pgs_nil)))
      (psst_cons (PST.of (ps_set (i := 4) sc_read_line.nd rfl (.inl rfl) (pe_kget (C8.pe_gc (by rfl) gF) (pv 1))))
      (psst_cons (PST.of (ps_set (i := 5) sc_read_line.nd rfl (.inl rfl) pe_non))
      (psst_cons (CwR.pst_if (PW.pt (pw_and (pt_cmpR op_eq (pv 4) (C8.pe_gc (by rfl) gR) (nomark _)) (pw_and1 (pt_cmpR op_ne (pv 2) pe_str (nomark _)))))
          (CwR.psst_one (pst_set (i := 5) sc_read_line.nd rfl (.inl rfl) (pet_lst (pat_cons (CwR.pet_replC (pv 3)) pat_nil))))
          (PSsT.of (pss_one (ps_if (PW.pt (pw_and (pt_cmpR op_eq (pv 4) pe_str (nomark _)) (pw_and1 (pt_cmpR op_eq (pv 2) pe_str (nomark _)))))
            (pss_one (ps_set (i := 5) sc_read_line.nd rfl (.inl rfl) (pe_lst pa_nil)))
            (pss_one (ps_if (PW.pt (pw_and (pt_cmpR op_notN (pv 4) pe_non (nomark _)) (pw_and (pt_cmpR op_ne (pv 4) pe_str (nomark _)) (pw_and1 (pt_cmpR op_ne (pv 4) (C8.pe_gc (by rfl) gR) (nomark _))))))
              (pss_one (ps_set (i := 5) sc_read_line.nd rfl (.inl rfl) (pe_d Dth (hr.mono (by decide)) (by rfl) pass0 (pa_cons (pv 4) (pa_cons (pe_ifExp (pt_cmpR op_ne (pv 2) pe_str (nomark _)) (pe_split (pv 3) pe_str) (pe_lst pa_nil)) pa_nil)))))
              pss_nil))))))
      (PSsT.of (pss_cons (ps_if (pt_cmpR op_isN (pv 5) pe_non (nomark _)) (pss_one (ps_raise rfl (takes_of rfl rfl rfl rfl) (pmk_err TN hr2 (by rfl) (pv 0)))) pss_nil)
      (pss_one (ps_ret (pe_tup (pa_cons (pv 1) (pa_cons (pv 5) pa_nil)))))))))))
      , ?_⟩
    rcases hx with ⟨odd, hraise⟩ | ⟨l, rfl, hl, hnone, hsome⟩
    · refine ⟨_, rfl, odd _ ?_⟩
      refine ⟨false, rfl, ?_⟩
      refine iteT ?_
      exact ⟨_, rfl, fun d hd => hraise d _ (same_new hd) hd upd_same⟩
    refine ⟨_, rfl, .inl ⟨_, _, _, _, true, rfl, .ty "str", .base (.str _), kit_ty (by decide +kernel), ?_⟩⟩
    refine ⟨true, rfl, ?_⟩
    refine iteF ?_
    refine ⟨_, rfl, 10, _, rfl, rfl, _, rfl, ?_⟩
    have rz : ∀ {H' : Hp}, Same H H' → rd l = none → raised CN (.str (S l)) H' E := fun sm hn d H2 s2 hd hh => hnone hn d H2 (sm.trans s2) (sm.free hd) hh
    by_cases h10 : 10 ∈ l
    · rw [decide_eq_true (show 10 ∈ (S l).cps.toList from h10)]
      refine iteT ?_
      have hn : rd l = none := by unfold rd; rw [if_pos h10]
      exact ⟨_, rfl, fun d hd => hnone hn d _ (same_new hd) hd upd_same⟩
    rw [decide_eq_false (show ¬ 10 ∈ (S l).cps.toList from h10)]
    refine iteF ?_
    obtain ⟨wd, b, r, hpart, hcut⟩ := part_at l
    refine ⟨_, rfl, S l, rfl, by decide +kernel, (by rw [S_len]; exact Nat.le_trans hl (by decide)), fun p hp => ?_⟩
    rw [hpart]
    have s1 : Same H (upd H p (.tup [.str (S wd), .str (S b), .str (S r)])) := same_new hp
    refine ⟨p, _, rfl, .inl (.inl upd_same), rfl, _, _, rfl, _, _, rfl, _, _, rfl, rfl, ?_⟩
    generalize upd H p (.tup [.str (S wd), .str (S b), .str (S r)]) = H1 at s1 ⊢
    refine ⟨D, _, rfl, kF, _, rfl, _, rfl, ?_⟩
    have hwl : wd.length ≤ 9000 ∧ r.length ≤ 9000 := by
      rcases hcut with ⟨_, _, e1, _, e2⟩ | ⟨_, e, _, _⟩
      · rw [e1, e2]
        exact ⟨hl, Nat.zero_le _⟩
      · have z := congrArg List.length e
        rw [List.length_append, List.length_cons] at z
        omega
    cases hf : formOf (S wd) with
    | none =>
      have hn : rd l = none := by
        unfold rd
        rw [if_neg h10]
        rcases hcut with ⟨_, e0, e1, _, _⟩ | ⟨e0, _, _, _⟩
        · rw [e0]
          subst e1
          dsimp only
          rw [hf]
        · rw [e0]
          dsimp only
          rw [hf]
      refine ⟨_, rfl, rfl, _, rfl, ?_⟩
      refine iteF ?_
      refine iteF ?_
      refine ⟨_, rfl, rfl, _, rfl, ?_⟩
      refine iteF ?_
      refine iteF ?_
      refine ⟨_, rfl, rfl, _, rfl, ?_⟩
      refine iteF ?_
      refine iteF ?_
      refine ⟨_, rfl, rfl, _, rfl, ?_⟩
      refine iteT ?_
      exact ⟨_, rfl, fun d hd => rz s1 hn d _ (same_new hd) hd upd_same⟩
    | some fm =>
      have hm := lookup_mem hf
      have repl_len : ∀ {n : Nat}, n ≤ 9000 → n + (n + 1) * (("\n" : Str)).length ≤ 16777216 := fun {n} h => by
        rw [show (("\n" : Str)).length = 1 by decide +kernel]
        omega
      rcases forms_all _ hm with e | e | ⟨f1, f2, f3, f4, f5⟩
      · dsimp only at e
        subst e
        refine ⟨_, rfl, rfl, _, rfl, ?_⟩
        refine iteT ?_
        refine ⟨_, rfl, rfl, _, rfl, ?_⟩
        rcases hcut with ⟨h32, ec, e1, e2, e3⟩ | ⟨ec, el, h32, e2⟩
        · subst e1 e2 e3
          have hn : rd wd = none := by
            unfold rd
            rw [if_neg h10, ec]
            dsimp only
            rw [hf]
            dsimp only
            rw [if_neg (by decide +kernel)]
          refine iteF ?_
          refine ⟨_, rfl, rfl, _, rfl, ?_⟩
          refine iteF ?_
          refine iteF ?_
          refine ⟨_, rfl, rfl, _, rfl, ?_⟩
          refine iteT ?_
          refine ⟨_, rfl, rfl, _, rfl, ?_⟩
          refine iteT ?_
          refine ⟨_, rfl, rfl, _, rfl, ?_⟩
          refine iteF ?_
          refine ⟨_, rfl, rfl, _, rfl, ?_⟩
          refine iteT ?_
          exact ⟨_, rfl, fun d hd => rz s1 hn d _ (same_new hd) hd upd_same⟩
        · subst e2
          have hs : rd l = some (wd, [.str (S (rowsOf r))]) := by
            unfold rd
            rw [if_neg h10, ec]
            dsimp only
            rw [hf]
            dsimp only
            rw [if_pos rfl]
          refine iteT ?_
          refine ⟨_, rfl, S r, rfl, (by rw [S_len]; exact repl_len hwl.2), Nat.le_of_ble_eq_true rfl, fun q hq => ?_⟩
          have erow : Txt.replace (S r) " / " "\n" = S (rowsOf r) := by
            refine TL.ext_tl ?_
            exact StrLaws.replace_list (x := S r) (y := " / ") (z := "\n") (by decide +kernel)
          rw [erow]
          have s2 := s1.trans (same_new (o := .lst [.str (S (rowsOf r))]) hq)
          have hq2 : upd H1 q (.lst [.str (S (rowsOf r))]) q = some (.lst [.str (S (rowsOf r))]) := upd_same
          have hq0 := s1.free hq
          generalize upd H1 q (.lst [.str (S (rowsOf r))]) = H2 at s2 hq2 ⊢
          refine ⟨_, rfl, rfl, _, rfl, ?_⟩
          refine iteF ?_
          refine ⟨_, rfl, _, rfl, Nat.le_of_ble_eq_true rfl, fun p hp => ?_⟩
          exact hsome _ hs p q _ (s2.trans (same_new hp)) (s2.free hp) hq0 (fun z => by rw [z, hq2] at hp; cases hp) upd_same (by rw [upd_ne (fun z => by rw [← z, hq2] at hp; cases hp)]; exact hq2)
      · dsimp only at e
        subst e
        refine ⟨_, rfl, rfl, _, rfl, ?_⟩
        refine iteF ?_
        refine iteF ?_
        refine ⟨_, rfl, rfl, _, rfl, ?_⟩
        refine iteT ?_
        refine ⟨_, rfl, rfl, _, rfl, ?_⟩
        rcases hcut with ⟨h32, ec, e1, e2, e3⟩ | ⟨ec, el, h32, e2⟩
        · subst e1 e2 e3
          have hs : rd wd = some (wd, []) := by
            unfold rd
            rw [if_neg h10, ec]
            dsimp only
            rw [hf]
            dsimp only
            rw [if_pos rfl]
          refine iteT ?_
          refine ⟨Nat.le_of_ble_eq_true rfl, fun q hq => ?_⟩
          have s2 := s1.trans (same_new (o := .lst []) hq)
          have hq2 : upd H1 q (.lst []) q = some (.lst []) := upd_same
          have hq0 := s1.free hq
          generalize upd H1 q (.lst []) = H2 at s2 hq2 ⊢
          refine ⟨_, rfl, rfl, _, rfl, ?_⟩
          refine iteF ?_
          refine ⟨_, rfl, _, rfl, Nat.le_of_ble_eq_true rfl, fun p hp => ?_⟩
          exact hsome _ hs p q _ (s2.trans (same_new hp)) (s2.free hp) hq0 (fun z => by rw [z, hq2] at hp; cases hp) upd_same (by rw [upd_ne (fun z => by rw [← z, hq2] at hp; cases hp)]; exact hq2)
        · subst e2
          have hn : rd l = none := by
            unfold rd
            rw [if_neg h10, ec]
            dsimp only
            rw [hf]
            dsimp only
            rw [if_neg nR, if_pos rfl]
          refine iteF ?_
          refine ⟨_, rfl, rfl, _, rfl, ?_⟩
          refine iteT ?_
          refine ⟨_, rfl, rfl, _, rfl, ?_⟩
          refine iteF ?_
          refine iteF ?_
          refine ⟨_, rfl, rfl, _, rfl, ?_⟩
          refine iteT ?_
          exact ⟨_, rfl, fun d hd => rz s1 hn d _ (same_new hd) hd upd_same⟩
      · dsimp only at f1 f2 f3 f4 f5
        have n1 : ¬ (Option.map V.str (some fm)).getD V.non = V.str "" := fun z => f1 (V.str.inj z)
        have n2 : ¬ (Option.map V.str (some fm)).getD V.non = V.str "rows" := fun z => f2 (V.str.inj z)
        have hfl : fm.cps.toList.length ≤ 10 := Nat.le_trans f4 (by decide)
        have efm : V.str fm = V.str (S fm.cps.toList) := by rw [S_tl]
        refine ⟨_, rfl, rfl, _, rfl, ?_⟩
        rw [decide_eq_false n2]
        refine iteF ?_
        refine iteF ?_
        refine ⟨_, rfl, rfl, _, rfl, ?_⟩
        rw [decide_eq_false n1]
        refine iteF ?_
        refine iteF ?_
        refine ⟨_, rfl, rfl, _, rfl, ?_⟩
        refine iteT ?_
        refine ⟨_, rfl, rfl, _, rfl, ?_⟩
        rw [decide_eq_false n1]
        refine iteT ?_
        refine ⟨_, rfl, rfl, _, rfl, ?_⟩
        rw [decide_eq_false n2]
        refine iteT ?_
        refine ⟨_, rfl, _, rfl, rfl, _, rfl, ?_⟩
        rcases hcut with ⟨h32, ec, e1, e2, e3⟩ | ⟨ec, el, h32, e2⟩
        · subst e1 e2 e3
          have hn : rd wd = none := by
            unfold rd
            rw [if_neg h10, ec]
            dsimp only
            rw [hf]
            dsimp only
            rw [if_neg f1]
          refine iteF ?_
          refine ⟨Nat.le_of_ble_eq_true rfl, fun a ha => ?_⟩
          have s2 := s1.trans (same_new (o := .lst []) ha)
          have ht : things fm.cps.toList [] = none := by
            rw [things, if_neg]
            exact fun z => f5 (List.length_eq_zero_iff.mp z.symm)
          refine ⟨fm.cps.toList, a, [], (show [V.str fm, V.ref a] = _ by rw [S_tl]), .inl (.inl upd_same), hfl, Nat.zero_le _, (fun w hw => nomatch hw), fun _ H2 s3 => ?_, fun vs hv => by rw [ht] at hv; cases hv⟩
          refine ⟨_, rfl, rfl, _, rfl, ?_⟩
          refine iteT ?_
          exact ⟨_, rfl, fun d hd => rz (s2.trans s3) hn d _ (same_new hd) hd upd_same⟩
        · subst e2
          have hrd : rd l = (things fm.cps.toList (blanks r)).map fun vs => (wd, vs) := by
            unfold rd
            rw [if_neg h10, ec]
            dsimp only
            rw [hf]
            dsimp only
            rw [if_neg f2, if_neg f1]
          obtain ⟨hb1, hb2⟩ := blanks_le _ r (Nat.le_refl _)
          have esp : (Txt.split (S r) " ").map V.str = txts (blanks r) := by
            rw [blank_S, split_S (by simp) (by decide), List.map_map]
            rfl
          refine iteT ?_
          refine ⟨_, rfl, ⟨_, rfl⟩, S r, " ", rfl, rfl, by decide +kernel, (by rw [S_len]; exact Nat.le_trans (Nat.add_le_add_right hwl.2 2) (by decide)), fun a ha => ?_⟩
          rw [esp]
          have s2 := s1.trans (same_new (o := .lst (txts (blanks r))) ha)
          refine ⟨fm.cps.toList, a, blanks r, (show [V.str fm, V.ref a] = _ by rw [S_tl]), .inl (.inl upd_same), hfl, by omega, (fun w hw => by have := (hb2 w hw).1; omega), fun ht H2 s3 => ?_, fun vs hv q H2 s3 hq0 hq2 => ?_⟩
          · have hn : rd l = none := by rw [hrd, ht]; rfl
            refine ⟨_, rfl, rfl, _, rfl, ?_⟩
            refine iteT ?_
            exact ⟨_, rfl, fun d hd => rz (s2.trans s3) hn d _ (same_new hd) hd upd_same⟩
          · have hs : rd l = some (wd, vs) := by rw [hrd, hv]; rfl
            have s4 := s2.trans s3
            refine ⟨_, rfl, rfl, _, rfl, ?_⟩
            refine iteF ?_
            refine ⟨_, rfl, _, rfl, Nat.le_of_ble_eq_true rfl, fun p hp => ?_⟩
            exact hsome _ hs p q _ (s4.trans (same_new hp)) (s4.free hp) (s2.free hq0) (fun z => by rw [z, hq2] at hp; cases hp) upd_same (by rw [upd_ne (fun z => by rw [← z, hq2] at hp; cases hp)]; exact hq2)
end
end Law
end
section
set_option Elab.async false
set_option linter.all false
set_option maxRecDepth 100000
set_option maxHeartbeats 4000000
namespace Law
open PySem PySem.Spec PyProof.Rows L2 IK M SX
theorem valV_tab (x : Str) : ∀ l : List (Str × Str), valV (l.map fun p => ((Sum.inr p.1 : Key), V.str p.2)) (Sum.inr x) = (l.lookup x).map V.str
  | [] => rfl
  | (k, v) :: r => by
    by_cases e : x = k
    · subst e
      simp [valV, List.lookup]
    · have h1 : (x == k) = false := by simpa using e
      have h2 : ¬ (Sum.inr k : Key) = Sum.inr x := fun z => e (Sum.inr.inj z).symm
      have ih := valV_tab x r
      rw [List.lookup, h1]
      unfold valV at ih ⊢
      rw [List.map_cons, List.find?_cons_of_neg (by simpa using h2)]
      exact ih
def t0 : List (Str × Str) := [("open", "R"), ("go", "wnw"), ("back", "w"), ("late", "wnn"), ("ice", "wn"), ("where", "wn"), ("last", "wn")]
def kv0 : List (Key × V) := mergeK [] (t0.map fun p : Str × Str => ((Sum.inr p.1 : Key), V.str p.2))
def n1 : List Str := ["undo", "redo", "show", "table", "whole", "led", "price", "standing", "stuck"]
def n2 : List Str := ["way", "free", "out", "barred"]
def put (kvs : List (Key × V)) (ns : List Str) (v : Str) : List (Key × V) := mergeK kvs (ns.map fun n => ((Sum.inr n : Key), V.str v))
theorem put_succ {kvs : List (Key × V)} {ns : List Str} {v n : Str} {i : Nat} (h : ns[i]? = some n) : putK (put kvs (ns.take i) v) (Sum.inr n) (.str v) = put kvs (ns.take (i + 1)) v := by
  unfold put mergeK
  rw [List.take_succ, h, List.map_append, List.foldl_append]
  rfl
theorem put_all : putK (put (put kv0 n1 "") n2 "w") (Sum.inr "best") (.str "n") = lawTab.map fun p => ((Sum.inr p.1 : Key), V.str p.2) := by decide +kernel
theorem lens1 : ∀ i ∈ List.range 10, (put kv0 (n1.take i) "").length ≤ 100 := by decide +kernel
theorem lens2 : ∀ i ∈ List.range 5, (put (put kv0 n1 "") (n2.take i) "w").length ≤ 100 := by decide +kernel
def spForm : Sp := fun vs H Q _ => ∃ x, vs = [.str x] ∧ ∀ H', Same H H' → Q (((lawForm x).map V.str).getD .non) H'
section
variable {P : Program} {w : World} {K : PySem.W.Frag} {mg : Str → Option Value} {base : Heap}
theorem ok_form {f : Addr} {fd : FuncData} (F : Fun K "_law_form" "_law_form" s__law_form f fd) : FnOk P w K mg base CX0 1 f fd ["_law_word"] spForm := by
  refine F.ok sc__law_form (fun vs H Q E h => ?_) (fun cdv A outer s H vs Q E hr h => ?_)
  · obtain ⟨x, rfl, _⟩ := h
    rfl
  · obtain ⟨x, rfl, q⟩ := h
    have hu := hu_of hr
    refine ⟨_, pss_cons (ps_set (i := 1) sc__law_form.nd rfl (.inl rfl) (pe_disp (pps_cons pe_str pe_str (pps_cons pe_str pe_str (pps_cons pe_str pe_str (pps_cons pe_str pe_str (pps_cons pe_str pe_str (pps_cons pe_str pe_str (pps_cons pe_str pe_str pps_nil))))))) (by rfl) (by rfl) (fun z => by cases z) (by decide)))
      (pss_cons (ps_for PassesOwn.never rfl (pi_list (pe_lst (pa_cons pe_str (pa_cons pe_str (pa_cons pe_str (pa_cons pe_str (pa_cons pe_str (pa_cons pe_str (pa_cons pe_str (pa_cons pe_str (pa_cons pe_str pa_nil))))))))))) (pg_name (i := 2) sc__law_form.nd rfl (.inl rfl)) (pss_one (ps_dput hu (pv 1) (pv 2) pe_str rfl)))
      (pss_cons (ps_for PassesOwn.never rfl (pi_list (pe_lst (pa_cons pe_str (pa_cons pe_str (pa_cons pe_str (pa_cons pe_str pa_nil)))))) (pg_name (i := 2) sc__law_form.nd rfl (.inl rfl)) (pss_one (ps_dput hu (pv 1) (pv 2) pe_str rfl)))
      (pss_cons (ps_dput hu (pv 1) pe_str pe_str rfl)
      (pss_one (ps_ret (pe_dget1 hu (pv 1) (pv 0) ⟨rfl, rfl, rfl, rfl⟩)))))), ?_⟩
    refine fun d hd => ⟨upd_same, t0.map (fun p : Str × Str => ((Sum.inr p.1 : Key), V.str p.2)), rfl, by decide, ?_⟩
    rw [upd_upd]
    have st0 : ∀ o, Same H (upd H d o) := fun o => same_new hd
    refine ⟨Nat.le_of_ble_eq_true rfl, fun a ha => ⟨a, rfl, ⟨_, .inl (.inl upd_same)⟩, ?_⟩⟩
    have ad : a ≠ d := fun z => by rw [z, upd_same] at ha; cases ha
    refine for_list (K := K) (a := a) (xs := n1.map V.str) (fun i σ H' => ∃ y, σ = [some (.str x), some (.ref d), y] ∧ Same H H' ∧ H' a = some (.lst (n1.map V.str)) ∧ H' d = some (.dK (put kv0 (n1.take i) ""))) ?_ ?_ ?_ ?_
    · exact ⟨none, rfl, (st0 _).trans (same_new ha), upd_same, by rw [upd_ne ad.symm, upd_same]; rfl⟩
    · rintro i σ H' _ ⟨y, _, _, h, _⟩
      exact .inl (.inl h)
    · rintro i y σ H1 hi ⟨y2, rfl, sm, h1, h2⟩
      have hil : i < n1.length := by simpa using (List.getElem?_eq_some_iff.mp hi).1
      have hn : n1[i]? = some n1[i] := List.getElem?_eq_getElem hil
      have ey : y = .str n1[i] := by
        rw [List.getElem?_map, hn] at hi
        exact (Option.some.inj hi).symm
      subst ey
      refine ⟨_, rfl, _, rfl, d, _, rfl, DPut.k (k := Sum.inr n1[i]) h2 (small1000 (Nat.le_trans (lens1 i (List.mem_range.mpr (Nat.lt_of_lt_of_le hil (by decide)))) (by decide))), ?_⟩
      refine ⟨_, rfl, fun b o e => ?_, by rw [upd_ne ad]; exact h1, by rw [upd_same, put_succ hn]⟩
      rw [upd_ne (ne_of_none e hd)]
      exact sm b o e
    rintro σ H1 ⟨y2, rfl, sm1, h1, h2⟩
    rw [List.length_map, List.take_length] at h2
    refine ⟨Nat.le_of_ble_eq_true rfl, fun b hb => ⟨b, rfl, ⟨_, .inl (.inl upd_same)⟩, ?_⟩⟩
    have bd : b ≠ d := fun z => by rw [z, h2] at hb; cases hb
    refine for_list (K := K) (a := b) (xs := n2.map V.str) (fun i σ H' => ∃ y, σ = [some (.str x), some (.ref d), y] ∧ Same H H' ∧ H' b = some (.lst (n2.map V.str)) ∧ H' d = some (.dK (put (put kv0 n1 "") (n2.take i) "w"))) ?_ ?_ ?_ ?_
    · exact ⟨_, rfl, sm1.trans (same_new hb), upd_same, by rw [upd_ne bd.symm, h2]; rfl⟩
    · rintro i σ H' _ ⟨y, _, _, h, _⟩
      exact .inl (.inl h)
    · rintro i y σ H1 hi ⟨y2, rfl, sm, h1, h2⟩
      have hil : i < n2.length := by simpa using (List.getElem?_eq_some_iff.mp hi).1
      have hn : n2[i]? = some n2[i] := List.getElem?_eq_getElem hil
      have ey : y = .str n2[i] := by
        rw [List.getElem?_map, hn] at hi
        exact (Option.some.inj hi).symm
      subst ey
      refine ⟨_, rfl, _, rfl, d, _, rfl, DPut.k (k := Sum.inr n2[i]) h2 (small1000 (Nat.le_trans (lens2 i (List.mem_range.mpr (Nat.lt_of_lt_of_le hil (by decide)))) (by decide))), ?_⟩
      refine ⟨_, rfl, fun c o e => ?_, by rw [upd_ne bd]; exact h1, by rw [upd_same, put_succ hn]⟩
      rw [upd_ne (ne_of_none e hd)]
      exact sm c o e
    rintro σ H2 ⟨y3, rfl, sm2, h3, h4⟩
    rw [List.length_map, List.take_length] at h4
    refine ⟨_, rfl, d, _, rfl, DPut.k (k := Sum.inr "best") h4 (small1000 (Nat.le_trans (lens2 4 (by decide)) (by decide))), ?_⟩
    rw [put_all]
    refine ⟨_, rfl, d, rfl, .inl ⟨_, .inl upd_same⟩, _, rfl, _, DGet.k (k := Sum.inr x) upd_same, ?_⟩
    rw [valV_tab]
    refine q _ fun b o e => ?_
    rw [upd_ne (ne_of_none e hd)]
    exact sm2 b o e
end
end Law
end
section
set_option Elab.async false
set_option linter.all false
set_option maxRecDepth 100000
set_option maxHeartbeats 4000000
namespace Law
open PySem PySem.Spec PyProof.Rows L2 IK M SX
theorem strOk_S {l : List Nat} (h : ∀ c ∈ l, c < 128) : PyData.strOk (S l) = true := by
  unfold PyData.strOk
  rw [← Array.all_toList, List.all_eq_true]
  intro c hc
  have := h c hc
  simp
  omega
theorem shaped_texts : ∀ {ws : List (List Nat)}, (∀ w ∈ ws, ∀ c ∈ w, c < 128) → PyData.canLayAll0 (ws.map fun w => PyData.str (S w)) = true ∧ PyData.depthAll (ws.map fun w => PyData.str (S w)) = 0
  | [], _ => ⟨rfl, rfl⟩
  | w :: ws, h => by
    obtain ⟨h1, h2⟩ := shaped_texts (ws := ws) fun x hx => h x (List.mem_cons_of_mem _ hx)
    refine ⟨?_, ?_⟩
    · show (PyData.canLay0 (PyData.str (S w)) && PyData.canLayAll0 (ws.map fun w => PyData.str (S w))) = true
      rw [h1, Bool.and_true]
      exact strOk_S (h w List.mem_cons_self)
    · show max 0 (PyData.depthAll (ws.map fun w => PyData.str (S w))) = 0
      rw [h2]
      rfl
theorem shaped_list {ws : List (List Nat)} (h : ∀ w ∈ ws, ∀ c ∈ w, c < 128) : SeqAt.shaped (PyData.list (ws.map fun w => PyData.str (S w))) = true := by
  obtain ⟨h1, h2⟩ := shaped_texts h
  show (PyData.canLayAll0 (ws.map fun w => PyData.str (S w)) && decide (PyData.depthAll (ws.map fun w => PyData.str (S w)) + 1 ≤ 64)) = true
  rw [h1, h2]
  rfl
theorem dp_texts {K : PySem.W.Frag} {H : Hp} : ∀ ws : List (List Nat), DpAll K H (txts ws) (ws.map fun w => PyData.str (S w))
  | [] => .nil
  | w :: ws => .cons (.str _) (dp_texts ws)
theorem eqv_nil {ds : List PyData} : PyData.eqv (.list ds) (.list []) = ds.isEmpty := by
  cases ds <;> rfl
def spFig : Sp := fun vs H Q _ => ∃ l : List Nat, vs = [.str (S l)] ∧ l.length ≤ 10000 ∧ (∀ c ∈ l, c < 128) ∧ ∀ H', Same H H' → Q (.bl (isNum l)) H'
def fig (c : Nat) : Bool := decide (48 ≤ c) && decide (c ≤ 57)
/-- the signs that are none, each alone -/
def odds (l : List Nat) : List (List Nat) := (l.filter fun c => !fig c).map fun c => [c]
theorem odds_nil {l : List Nat} : (odds l).isEmpty = l.all fig := by
  unfold odds
  rw [Bool.eq_iff_iff, List.isEmpty_iff, List.map_eq_nil_iff, List.filter_eq_nil_iff, List.all_eq_true]
  simp
section
variable {P : Program} {w : World} {K : PySem.W.Frag} {mg : Str → Option Value} {base : Heap}
theorem ok_fig {f : Addr} {fd : FuncData} (F : Fun K "_law_figures" "_law_figures" s__law_figures f fd) (B : Blt mg) : FnOk P w K mg base CX0 1 f fd ["_law_word"] spFig := by
  refine F.ok sc__law_figures (fun vs H Q E h => ?_) (fun cdv A outer s H vs Q E hr h => ?_)
  · obtain ⟨x, rfl, _⟩ := h
    rfl
  · obtain ⟨l, rfl, hl, hc, q⟩ := h
    refine ⟨_, pss_cons (ps_if (PW.pt (pw_or (pt_cmpR op_eq (pv 0) pe_str (nomark _)) (pw_or (pt_cmpR op_gt (pe_callB call_len_str (by rfl) B.len PySem.boot_len (pa_cons (pv 0) pa_nil)) pe_int (nomark _))
        (pw_or1 (pt_cmpR (op_neD hr.units) (pe_lc (own := [("_law_sign", 1)]) (g := gName 1) rfl sc__law_figures.nd (pi_str (pv 0)) (blkOk_by (N := ["_law_word", "_law_sign"]) (sc := defScope s__law_figures) (by decide +kernel))
          (fun _ _ _ _ _ => pg_name (i := 1) sc__law_figures.nd rfl (Or.inl rfl)) (fun _ _ _ _ _ => pts_one (pt_cmpR op_notIn_sign (pv 1) pe_str (by rfl))) (fun _ _ _ _ _ => pv 1)) (pe_lst pa_nil) (nomark _)))))) (pss_one (ps_ret pe_bl)) pss_nil)
      (pss_one (ps_ret (pe_or (pe_cmpR op_eq (pv 0) pe_str (nomark _)) (pe_one (pe_cmpR op_ne (pe_ix ix_str (pv 0) pe_int (fun _ _ => rfl)) pe_str (nomark _)))))), ?_⟩
    refine ⟨_, rfl, rfl, _, rfl, ?_⟩
    have hz : (S l).length ≤ sizeLine := by rw [S_len]; exact Nat.le_trans hl (by decide)
    have q0 := q H (Same.refl H)
    cases l with
    | nil => exact iteT q0
    | cons c r =>
      have ne : ¬ V.str (S (c :: r)) = V.str "" := fun z => by
        have z2 := congrArg (fun x : Str => x.cps.toList) (V.str.inj z)
        have z3 : (c :: r : List Nat) = [] := z2
        cases z3
      rw [decide_eq_false ne]
      refine iteF ?_
      refine ⟨_, rfl, _, rfl, hz, _, _, rfl, rfl, _, rfl, ?_⟩
      rw [S_len]
      by_cases h12 : (c :: r).length ≤ 12
      · rw [decide_eq_false (show ¬ (12 : Int) < ((c :: r).length : Int) by omega)]
        refine iteF ?_
        refine ⟨_, rfl, S (c :: r), rfl, fun D hD => ?_⟩
        refine lc_it (walk_str (z := S (c :: r))) (fun i H' => H' = upd H D (.lst (txts (odds ((c :: r).take i))))) rfl (fun _ _ _ _ => trivial) ?_ ?_
        · rintro i x H1 H' hi hP ⟨rfl, e, he, rfl⟩
          subst hP
          have he' : (c :: r)[i]? = some e := by simpa using he
          refine ⟨rfl, ?_⟩
          refine ⟨_, rfl, e, _, rfl, rfl, _, rfl, ?_⟩
          rw [in_fig, List.take_succ, he']
          by_cases hf : fig e = true
          · have hf' : (decide (48 ≤ e) && decide (e ≤ 57)) = true := hf
            rw [hf']
            refine iteF ?_
            simp [odds, hf]
          · have hf2 : fig e = false := by simpa using hf
            have hf' : (decide (48 ≤ e) && decide (e ≤ 57)) = false := hf2
            rw [hf']
            refine iteT ?_
            refine ⟨_, rfl, _, upd_same, ?_, ?_⟩
            · rw [List.length_map]
              refine Nat.lt_of_le_of_lt (?_ : _ ≤ 12) (by decide)
              unfold odds
              rw [List.length_map]
              exact Nat.le_trans (List.length_filter_le _ _) (Nat.le_trans (by rw [List.length_take]; exact Nat.min_le_right _ _) h12)
            · rw [upd_upd]
              simp [odds, hf2]
        · rintro H' rfl
          have hall : (S (c :: r)).cps.size = (c :: r).length := by simp
          rw [hall, List.take_length]
          refine ⟨Nat.le_of_ble_eq_true rfl, fun Z hZ => ?_⟩
          have s1 : Same H (upd (upd H D (.lst (txts (odds (c :: r))))) Z (.lst [])) := (same_new hD).trans (same_new hZ)
          have zd : D ≠ Z := fun z => by rw [← z, upd_same] at hZ; cases hZ
          have hD2 : upd (upd H D (.lst (txts (odds (c :: r))))) Z (.lst []) D = some (.lst (txts (odds (c :: r)))) := by rw [upd_ne zd, upd_same]
          have hZ2 : upd (upd H D (.lst (txts (odds (c :: r))))) Z (.lst []) Z = some (.lst []) := upd_same
          generalize upd (upd H D (.lst (txts (odds (c :: r))))) Z (.lst []) = H2 at s1 hD2 hZ2 ⊢
          refine ⟨_, .list [], .lst (.inl (.inl hD2)) (dp_texts _), .lst (.inl (.inl hZ2)) .nil, shaped_list ?_, by decide, _, rfl, ?_⟩
          · intro w hw e he
            unfold odds at hw
            obtain ⟨e', h1, rfl⟩ := List.mem_map.mp hw
            rcases List.mem_singleton.mp he with rfl
            exact hc _ (List.mem_filter.mp h1).1
          have hq := q H2 s1
          rw [eqv_nil, List.isEmpty_map, odds_nil]
          cases ha : (c :: r).all fig with
          | false =>
            refine iteT ?_
            have hn : isNum (c :: r) = false := by
              unfold isNum
              rw [show ((c :: r).all fun c => decide (48 ≤ c) && decide (c ≤ 57)) = false from ha]
              simp
            rw [hn] at hq
            exact hq
          | true =>
            refine iteF ?_
            refine ⟨_, rfl, rfl, _, rfl, ?_⟩
            have hv : isNum (c :: r) = !(decide (c = 48) && !decide (r = [])) := by
              unfold isNum
              rw [show ((c :: r).all fun c => decide (48 ≤ c) && decide (c ≤ 57)) = true from ha, decide_eq_true h12]
              by_cases h48 : c = 48
              · subst h48
                simp
              · simp [h48]
            rw [hv] at hq
            by_cases h0 : (c :: r) = [48]
            · obtain ⟨rfl, rfl⟩ := List.cons.inj h0
              refine iteT ?_
              exact hq
            · have ne0 : ¬ V.str (S (c :: r)) = V.str "0" := fun z => by
                have z2 := congrArg (fun x : Str => x.cps.toList) (V.str.inj z)
                exact h0 z2
              rw [decide_eq_false ne0]
              refine iteF ?_
              refine ⟨_, rfl, _, _, c, rfl, rfl, hz, atI_nat (j := 0) rfl, rfl, ?_⟩
              by_cases h48 : c = 48
              · subst h48
                have hr0 : ¬ r = [] := fun z => h0 (by rw [z])
                rw [decide_eq_true rfl, decide_eq_false hr0] at hq
                exact hq
              · have ne1 : ¬ V.str (⟨#[c]⟩ : Str) = V.str "0" := fun z => by
                  have z2 := congrArg (fun x : Str => x.cps.toList) (V.str.inj z)
                  have z3 : ([c] : List Nat) = [48] := z2
                  exact h48 (List.cons.inj z3).1
                rw [decide_eq_false ne1]
                rw [decide_eq_false h48] at hq
                exact hq
      · rw [decide_eq_true (show (12 : Int) < ((c :: r).length : Int) by omega)]
        refine iteT ?_
        have hn : isNum (c :: r) = false := isNum_len fun z => h12 z.2
        rw [hn] at q0
        exact q0
end
end Law
end
section
set_option Elab.async false
set_option linter.all false
set_option maxRecDepth 100000
set_option maxHeartbeats 4000000
namespace Law
open PySem PySem.Spec PyProof.Rows L2 IK M SX
theorem cut_S {l : List Nat} {i j : Nat} (h : i ≤ j) : cutS (S l) (some (i : Int)) (some (j : Int)) = S ((l.drop i).take (j - i)) := by
  unfold cutS
  rw [HT.sIx_nat, HT.sIx_nat, S_len]
  have e : (S l).cps.toList = l := rfl
  rw [e]
  congr 1
  have e2 : (l.drop (min i l.length)).take (min j l.length - min i l.length) = (l.drop i).take (j - i) := by
    by_cases hi : i ≤ l.length
    · rw [Nat.min_eq_left hi]
      by_cases hj : j ≤ l.length
      · rw [Nat.min_eq_left hj]
      · rw [Nat.min_eq_right (show l.length ≤ j by omega), List.take_of_length_le (by rw [List.length_drop]; exact Nat.le_refl _), List.take_of_length_le (by rw [List.length_drop]; omega)]
    · rw [Nat.min_eq_right (show l.length ≤ i by omega), List.drop_length, List.drop_eq_nil_of_le (show l.length ≤ i by omega)]
      simp
  rw [e2]
theorem cut_S_from {l : List Nat} {i : Nat} : cutS (S l) (some (i : Int)) none = S (l.drop i) := by
  unfold cutS
  rw [HT.sIx_nat, HT.sIx_none, S_len]
  have e : (S l).cps.toList = l := rfl
  rw [e]
  congr 1
  by_cases hi : i ≤ l.length
  · rw [Nat.min_eq_left hi, List.take_of_length_le (by rw [List.length_drop]; exact Nat.le_refl _)]
  · rw [Nat.min_eq_right (show l.length ≤ i by omega), List.drop_length, List.drop_eq_nil_of_le (show l.length ≤ i by omega)]
    simp
theorem cut_S_to {l : List Nat} {j : Nat} : cutS (S l) none (some (j : Int)) = S (l.take j) := by
  unfold cutS
  rw [HT.sIx_nat, HT.sIx_none, S_len]
  have e : (S l).cps.toList = l := rfl
  rw [e]
  congr 1
  rw [List.drop_zero, Nat.sub_zero]
  by_cases hj : j ≤ l.length
  · rw [Nat.min_eq_left hj]
  · rw [Nat.min_eq_right (show l.length ≤ j by omega), List.take_of_length_le (Nat.le_refl _), List.take_of_length_le (show l.length ≤ j by omega)]
theorem nl_S : ("\n" : Str) = S [10] := by decide +kernel
theorem strokes_S : (" / " : Str) = S strokes := by decide +kernel
def spRows : Sp := fun vs H Q _ => ∃ l : List Nat, vs = [.str (S l)] ∧ l.length ≤ 9000 ∧ Q (.str (S (rowsOf l))) H
section
variable {P : Program} {w : World} {K : PySem.W.Frag} {mg : Str → Option Value} {base : Heap}
theorem ok_rows {f : Addr} {fd : FuncData} (F : Fun K "_law_rows_of" "_law_rows_of" s__law_rows_of f fd) (B : Blt mg) : FnOk P w K mg base CX0 1 f fd ["_law_text"] spRows := by
  refine F.ok sc__law_rows_of (fun vs H Q E h => ?_) (fun cdv A outer s H vs Q E hr h => ?_)
  · obtain ⟨x, rfl, _⟩ := h
    rfl
  · obtain ⟨l, rfl, hl, q⟩ := h
    refine ⟨_, pss_cons (ps_set (i := 1) sc__law_rows_of.nd rfl (.inl rfl) pe_str)
      (pss_cons (ps_set (i := 2) sc__law_rows_of.nd rfl (.inl rfl) pe_int)
      (pss_cons (ps_while PassesOwn.never (pt_cmpR op_lt (pv 2) (pe_callB call_len_str (by rfl) B.len PySem.boot_len (pa_cons (pv 0) pa_nil)) (nomark _))
        (pss_one (ps_if (pt_cmpR op_eq (pe_slice sl_str (pv 0) (po_some (pv 2)) (po_some (pe_op op_add (pv 2) pe_int))) pe_str (nomark _))
          (pss_cons (ps_set (i := 1) sc__law_rows_of.nd rfl (.inl rfl) (pe_op op_add_str (pv 1) pe_str)) (pss_one (ps_set (i := 2) sc__law_rows_of.nd rfl (.inl rfl) (pe_op op_add (pv 2) pe_int))))
          (pss_cons (ps_set (i := 1) sc__law_rows_of.nd rfl (.inl rfl) (pe_op op_add_str (pv 1) (pe_ix ix_str (pv 0) (pv 2) (fun _ _ => rfl)))) (pss_one (ps_set (i := 2) sc__law_rows_of.nd rfl (.inl rfl) (pe_op op_add (pv 2) pe_int)))))))
      (pss_one (ps_ret (pv 1))))), ?_⟩
    have hz : (S l).length ≤ sizeLine := by rw [S_len]; exact Nat.le_trans hl (by decide)
    refine ⟨fun m σ H' => ∃ (i : Nat) (acc : List Nat), σ = [some (.str (S l)), some (.str (S acc)), some (.int i)] ∧ i ≤ l.length ∧ m = l.length - i ∧ acc ++ rowsOf (l.drop i) = rowsOf l ∧ acc.length ≤ i ∧ H' = H, ⟨l.length, 0, [], ?_, Nat.zero_le _, rfl, rfl, Nat.le_refl _, rfl⟩, ?_⟩
    · rw [← empty_S]
      rfl
    · rintro m σ H' ⟨i, acc, rfl, hi, rfl, hacc, hal, rfl⟩
      refine ⟨_, rfl, _, rfl, _, rfl, hz, _, _, rfl, rfl, _, rfl, ?_⟩
      rw [S_len]
      by_cases hil : i < l.length
      · rw [decide_eq_true (show (i : Int) < (l.length : Int) by omega)]
        refine iteT ?_
        refine ⟨fun σ' H'' => ∃ (i' : Nat) (acc' : List Nat), σ' = [some (.str (S l)), some (.str (S acc')), some (.int i')] ∧ i < i' ∧ i' ≤ l.length ∧ acc' ++ rowsOf (l.drop i') = rowsOf l ∧ acc'.length ≤ i' ∧ H'' = H', ?_, ?_⟩
        · rintro σ' H'' ⟨i', acc', e1, e2, e3, e4, e5, e6⟩
          exact ⟨l.length - i', by omega, i', acc', e1, e3, rfl, e4, e5, e6⟩
        obtain ⟨c, r, hd⟩ : ∃ c r, l.drop i = c :: r := ⟨l[i], l.drop (i + 1), (List.getElem_cons_drop hil).symm⟩
        have hsl : cutS (S l) (some (i : Int)) (some ((i : Int) + 3)) = S ((l.drop i).take 3) := by
          have z := cut_S (l := l) (i := i) (j := i + 3) (by omega)
          rw [show ((i + 3 : Nat) : Int) = (i : Int) + 3 by omega, show i + 3 - i = 3 by omega] at z
          exact z
        refine ⟨_, rfl, _, rfl, _, rfl, _, rfl, _, _, rfl, rfl, _, rfl, S l, rfl, hz, ?_⟩
        refine ⟨rfl, _, rfl, ?_⟩
        rw [hsl, strokes_S]
        have hdl : (l.drop i).length = l.length - i := List.length_drop
        by_cases hm : (l.drop i).take 3 = strokes
        · rw [hm]
          rw [decide_eq_true rfl]
          refine iteT ?_
          have hlen : 3 ≤ (l.drop i).length := by
            have := congrArg List.length hm
            rw [List.length_take] at this
            have e3 : strokes.length = 3 := rfl
            omega
          have hrow : rowsOf (l.drop i) = [10] ++ rowsOf (l.drop (i + 3)) := by
            have z := StrLaws.replL_hit (y := strokes) (z := [10]) (c := c) (r := r) (by decide) (by rw [← hd]; exact hm)
            rw [← hd, List.drop_drop] at z
            exact z
          refine ⟨_, rfl, _, _, rfl, rfl, ?_, ?_⟩
          · rw [S_len]
            exact Nat.le_trans (Nat.add_le_add_right (Nat.le_trans hal (Nat.le_trans hi hl)) _) (by decide +kernel)
          refine ⟨_, rfl, _, _, rfl, rfl, ?_⟩
          refine ⟨i + 3, acc ++ [10], ?_, by omega, by omega, ?_, ?_, rfl⟩
          · rw [nl_S, SX.S_cat]
            rfl
          · rw [List.append_assoc, ← hrow]
            exact hacc
          · rw [List.length_append]
            show acc.length + 1 ≤ i + 3
            omega
        · rw [decide_eq_false (show ¬ V.str (S ((l.drop i).take 3)) = V.str (S strokes) from fun h => hm (congrArg (fun v : V => match v with | .str x => x.cps.toList | _ => []) h))]
          refine iteF ?_
          have hrow : rowsOf (l.drop i) = [c] ++ rowsOf (l.drop (i + 1)) := by
            have z := StrLaws.replL_miss (y := strokes) (z := [10]) (c := c) (r := r) (by rw [← hd]; exact hm)
            have e1 : r = l.drop (i + 1) := by
              have := congrArg (List.drop 1) hd
              rw [List.drop_drop] at this
              exact this.symm
            rw [← hd, e1] at z
            exact z
          have hc : l[i]? = some c := by
            have := congrArg (fun l => l[0]?) hd
            rw [List.getElem?_drop] at this
            exact this
          refine ⟨_, rfl, _, rfl, _, rfl, _, _, c, rfl, rfl, hz, atI_nat hc, ?_⟩
          refine ⟨_, _, rfl, rfl, ?_, ?_⟩
          · rw [S_len]
            exact Nat.le_trans (Nat.add_le_add_right (Nat.le_trans hal (Nat.le_trans hi hl)) _) (show 9000 + 1 ≤ sizeLine by decide)
          refine ⟨_, rfl, _, _, rfl, rfl, ?_⟩
          refine ⟨i + 1, acc ++ [c], ?_, by omega, by omega, ?_, ?_, rfl⟩
          · rw [show ({ cps := #[c] } : Str) = S [c] from rfl, SX.S_cat]
            rfl
          · rw [List.append_assoc, ← hrow]
            exact hacc
          · rw [List.length_append]
            show acc.length + 1 ≤ i + 1
            omega
      · rw [decide_eq_false (show ¬ (i : Int) < (l.length : Int) by omega)]
        refine iteF ?_
        have : i = l.length := by omega
        subst this
        rw [List.drop_length] at hacc
        have e : acc = rowsOf l := by rw [← hacc]; simp [rowsOf, StrLaws.replL_nil]
        rw [e]
        exact ⟨_, rfl, q⟩
end
end Law
end
section
set_option Elab.async false
set_option linter.all false
set_option maxRecDepth 100000
set_option maxHeartbeats 4000000
namespace Law
open PySem PySem.Spec PyProof.Rows L2 IK M SX
theorem cutV_from {l : List V} {i : Nat} (h : i ≤ l.length) : cutV l (some (i : Int)) none = l.drop i := by
  unfold cutV
  rw [HT.sIx_nat, HT.sIx_none, Nat.min_eq_left h, List.take_of_length_le (by rw [List.length_drop]; exact Nat.le_refl _)]
theorem law_all : ∀ p ∈ lawTab, p.2.length ≤ 3 := by decide +kernel
theorem isNum_yes {l : List Nat} (h : isNum l = true) : l.all (fun c => decide (48 ≤ c) && decide (c ≤ 57)) = true ∧ l ≠ [] ∧ l.length ≤ 12 := by
  unfold isNum at h
  simp only [Bool.and_eq_true, decide_eq_true_eq] at h
  exact ⟨h.1.2, fun z => by rw [z] at h; simp at h, h.1.1.2⟩
def spLRead (K : PySem.W.Frag) : Sp := fun vs H Q _ => ∃ x, vs = [x] ∧ ((OddStr K H x ∧ ∀ H', Same H H' → Q .non H') ∨ ∃ l, x = .str (S l) ∧ l.length ≤ 9000 ∧ (∀ c ∈ l, c < 128) ∧ (lawRd l = none → ∀ H', Same H H' → Q .non H') ∧
  ∀ r, lawRd l = some r → ∀ p q H', Same H H' → H p = none → H q = none → p ≠ q → H' p = some (.tup [.str (S r.1), .ref q]) → H' q = some (.lst r.2) → Q (.ref p) H')
section
variable {P : Program} {w : World} {K : PySem.W.Frag} {mg : Str → Option Value} {base : Heap}
theorem ok_lread {f : Addr} {fd : FuncData} (F : Fun K "_law_read" "_law_read" s__law_read f fd) (B : Blt mg) (DF : Dn P w K mg base CX0 1 "_law_form" ["_law_word"] spForm) (DG : Dn P w K mg base CX0 1 "_law_figures" ["_law_word"] spFig) (DR : Dn P w K mg base CX0 1 "_law_rows_of" ["_law_text"] spRows) :
    FnOk P w K mg base CX0 2 f fd ["_law_line_here"] (spLRead K) := by
  refine F.ok sc__law_read (fun vs H Q E h => ?_) (fun cdv A outer s H vs Q E hr h => ?_)
  · obtain ⟨x, rfl, _⟩ := h
    rfl
  · obtain ⟨x, rfl, hx⟩ := h
    refine ⟨_, pss_cons (ps_if (PW.pt (pw_or (pt_not (pt_val (pe_callB (call_alt call_isi call_isX) (by rfl) B.isi (by decide +kernel) (pa_cons (pv 0) (pa_cons (pe_bltn (v := .ty "str") (by rfl) B.str (by decide +kernel) rfl) pa_nil)))))
        (pw_or1 (pt_cmpR op_in_sign pe_str (pv 0) (by rfl))))) (pss_one (ps_ret pe_non)) pss_nil)
      (pss_cons (ps_set (i := 1) sc__law_read.nd rfl (.inl rfl) (pe_split (pv 0) pe_str))
      (pss_cons (ps_set (i := 2) sc__law_read.nd rfl (.inl rfl) (pe_d DF (hr.mono (by decide)) (by rfl) pass0 (pa_cons (pe_ix ix_list (pv 1) pe_int (fun _ _ => rfl)) pa_nil)))
      (pss_cons (ps_if (pt_cmpR op_isN (pv 2) pe_non (nomark _)) (pss_one (ps_ret pe_non)) pss_nil)
      (pss_cons (ps_if (pt_cmpR op_eq (pv 2) pe_str (nomark _)) (pss_one (ps_ret (pe_ifExp (pt_cmpR op_gt (pe_callB call_len_seq (by rfl) B.len PySem.boot_len (pa_cons (pv 1) pa_nil)) pe_int (nomark _))
          (pe_tup (pa_cons (pe_ix ix_list (pv 1) pe_int (fun _ _ => rfl)) (pa_cons (pe_lst (pa_cons (pe_d DR (hr.mono (by decide)) (by rfl) pass0 (pa_cons (pe_slice sl_str (pv 0) (po_some pe_int) po_none) pa_nil)) pa_nil)) pa_nil))) pe_non))) pss_nil)
      (pss_cons (ps_if (pt_cmpR op_ne (pe_callB call_len_seq (by rfl) B.len PySem.boot_len (pa_cons (pv 1) pa_nil)) (pe_op op_add pe_int (pe_callB call_len_str (by rfl) B.len PySem.boot_len (pa_cons (pv 2) pa_nil))) (nomark _)) (pss_one (ps_ret pe_non)) pss_nil)
      (pss_cons (ps_set (i := 3) sc__law_read.nd rfl (.inl rfl) (pe_lst pa_nil))
      (pss_cons (ps_for PassesOwn.never rfl (pi_zipS (by rfl) B.zip (pa_cons (pv 2) (pa_cons (pe_slice sl_list (pv 1) (po_some pe_int) po_none) pa_nil))) (pg_tup rfl (pgs_cons (pg_name (i := 4) sc__law_read.nd rfl (.inl rfl)) (pgs_cons (pg_name (i := 5) sc__law_read.nd rfl (.inl rfl)) pgs_nil)))
        (pss_cons (ps_if (PW.pt (pw_and (pt_cmpR op_eq (pv 4) pe_str (nomark _)) (pw_and1 (pt_not (pt_val (pe_d DG (hr.mono (by decide)) (by rfl) pass0 (pa_cons (pv 5) pa_nil))))))) (pss_one (ps_ret pe_non)) pss_nil)
        (pss_one (ps_expr (pe_bm PySem.F.plainAttrs_list PySem.F.slot_list_append PySem.F.type_list_append mt_append (pv 3) (pa_cons (pe_ifExp (pt_cmpR op_eq (pv 4) pe_str (nomark _)) (pe_callTy call_int_str (by rfl) B.int (by decide +kernel) (pa_cons (pv 5) pa_nil)) (pv 5)) pa_nil))))))
      (pss_one (ps_ret (pe_tup (pa_cons (pe_ix ix_list (pv 1) pe_int (fun _ _ => rfl)) (pa_cons (pv 3) pa_nil)))))))))))), ?_⟩
    rcases hx with ⟨odd, hn⟩ | ⟨l, rfl, hl, hc, hnone, hsome⟩
    · refine ⟨_, rfl, odd _ ?_⟩
      refine ⟨false, rfl, ?_⟩
      refine iteT ?_
      exact hn H (Same.refl H)
    refine ⟨_, rfl, .inl ⟨_, _, _, _, true, rfl, .ty "str", .base (.str _), kit_ty (by decide +kernel), ?_⟩⟩
    refine ⟨true, rfl, ?_⟩
    refine iteF ?_
    refine ⟨_, rfl, 10, _, rfl, rfl, _, rfl, ?_⟩
    by_cases h10 : 10 ∈ l
    · rw [decide_eq_true (show 10 ∈ (S l).cps.toList from h10)]
      refine iteT ?_
      exact hnone (by unfold lawRd; rw [if_pos h10]) H (Same.refl H)
    rw [decide_eq_false (show ¬ 10 ∈ (S l).cps.toList from h10)]
    refine iteF ?_
    have esp : (Txt.split (S l) " ").map V.str = txts (blanks l) := by
      rw [blank_S, split_S (by simp) (by decide), List.map_map]
      rfl
    refine ⟨_, rfl, ⟨_, rfl⟩, S l, " ", rfl, rfl, by decide +kernel, (by rw [S_len]; exact Nat.le_trans (Nat.add_le_add_right hl 2) (by decide)), fun a ha => ?_⟩
    rw [esp]
    obtain ⟨hb1, hb2⟩ := blanks_le _ l (Nat.le_refl _)
    have hlr : lawRd l = match blanks l with
      | [] => none
      | w :: ws => match lawForm (S w) with
        | none => none
        | some f => if f = "R" then (if ws = [] then none else some (w, [.str (S (rowsOf (l.drop 5)))])) else
          if ws.length = f.cps.toList.length then (items f.cps.toList ws).map fun vs => (w, vs) else none := by
      unfold lawRd
      exact if_neg h10
    cases hbl : blanks l with
    | nil => exact absurd hbl (blanks_ne l)
    | cons wd ws =>
    rw [hbl] at hlr hb1 hb2
    dsimp only at hlr
    have sA : Same H (upd H a (.lst (txts (wd :: ws)))) := same_new ha
    have hA : upd H a (.lst (txts (wd :: ws))) a = some (.lst (txts (wd :: ws))) := upd_same
    generalize upd H a (.lst (txts (wd :: ws))) = H1 at sA hA ⊢
    have hS : ∀ {H'}, Same H1 H' → SqL K H' a (txts (wd :: ws)) := fun s => .inl (.inl (s _ _ hA))
    refine ⟨_, rfl, a, _, _, .str (S wd), rfl, rfl, SqL.of hA, atI_nat (j := 0) rfl, S wd, rfl, fun H2 s2 => ?_⟩
    have s02 := sA.trans s2
    cases hf : lawForm (S wd) with
    | none =>
      rw [hf] at hlr
      refine ⟨_, rfl, rfl, _, rfl, ?_⟩
      refine iteT ?_
      exact hnone hlr H2 s02
    | some fm =>
      rw [hf] at hlr
      dsimp only at hlr
      refine ⟨_, rfl, rfl, _, rfl, ?_⟩
      refine iteF ?_
      refine ⟨_, rfl, rfl, _, rfl, ?_⟩
      by_cases hR : fm = "R"
      · subst hR
        rw [if_pos rfl] at hlr
        refine iteT ?_
        refine ⟨_, rfl, a, _, rfl, .inl (hS s2), _, _, rfl, rfl, _, rfl, ?_⟩
        rw [List.length_map]
        by_cases hw : ws = []
        · subst hw
          rw [if_pos rfl] at hlr
          refine iteF ?_
          exact hnone hlr H2 s02
        · rw [if_neg hw] at hlr
          have hwl : 0 < ws.length := List.length_pos_iff.mpr hw
          rw [decide_eq_true (show (1 : Int) < ((wd :: ws).length : Int) by rw [List.length_cons]; omega)]
          refine iteT ?_
          refine ⟨_, rfl, a, _, _, .str (S wd), rfl, rfl, hS s2, atI_nat (j := 0) rfl, ?_⟩
          refine ⟨_, rfl, _, rfl, S l, rfl, (by rw [S_len]; exact Nat.le_trans hl (by decide)), ?_⟩
          have e5 : cutS (S l) (some 5) none = S (l.drop 5) := cut_S_from (i := 5)
          rw [e5]
          refine ⟨l.drop 5, rfl, (by rw [List.length_drop]; omega), ?_⟩
          refine ⟨Nat.le_of_ble_eq_true rfl, fun q hq => ⟨Nat.le_of_ble_eq_true rfl, fun p hp => ?_⟩⟩
          have s3 := s02.trans (same_new (o := .lst [.str (S (rowsOf (l.drop 5)))]) hq)
          have hq2 : upd H2 q (.lst [.str (S (rowsOf (l.drop 5)))]) q = some (.lst [.str (S (rowsOf (l.drop 5)))]) := upd_same
          have hq0 := s02.free hq
          generalize upd H2 q (.lst [.str (S (rowsOf (l.drop 5)))]) = H3 at s3 hq2 hp ⊢
          exact hsome _ hlr p q _ (s3.trans (same_new hp)) (s3.free hp) hq0 (fun z => by rw [z, hq2] at hp; cases hp) upd_same (by rw [upd_ne (fun z => by rw [← z, hq2] at hp; cases hp)]; exact hq2)
      · rw [if_neg hR] at hlr
        have nR2 : ¬ (Option.map V.str (some fm)).getD V.non = V.str "R" := fun z => hR (V.str.inj z)
        rw [decide_eq_false nR2]
        refine iteF ?_
        have f3 : fm.length ≤ 3 := law_all _ (lookup_mem hf)
        have f3' : fm.cps.toList.length ≤ 3 := f3
        refine ⟨_, rfl, a, _, rfl, .inl (hS s2), _, rfl, fm, rfl, Nat.le_trans f3 (by decide), _, _, rfl, rfl, rfl, _, rfl, ?_⟩
        rw [List.length_map]
        by_cases hwl : ws.length = fm.cps.toList.length
        · rw [if_pos hwl] at hlr
          have e1 : (((wd :: ws).length : Nat) : Int) = 1 + (fm.length : Int) := by
            rw [List.length_cons, hwl]
            show (((fm.cps.toList.length + 1 : Nat)) : Int) = 1 + (fm.cps.toList.length : Int)
            omega
          rw [e1, decide_eq_true rfl]
          refine iteF ?_
          refine ⟨Nat.le_of_ble_eq_true rfl, fun o ho => ?_⟩
          have s3 : Same H2 (upd H2 o (.lst [])) := same_new ho
          have hS3 := hS (s2.trans s3)
          have no_a : a ≠ o := fun z => by rw [← z, s2 _ _ hA] at ho; cases ho
          have no_bo : ∀ b, upd H2 o (.lst []) b = none → b ≠ o := fun b hb z => by rw [z, upd_same] at hb; cases hb
          refine ⟨_, rfl, _, rfl, _, rfl, a, _, rfl, hS3, fun b hb => ?_⟩
          have ecut : cutV (txts (wd :: ws)) (some ((1 : Nat) : Int)) none = txts ws := cutV_from (i := 1) (by rw [List.length_map, List.length_cons]; omega)
          have ecut2 : cutV (txts (wd :: ws)) (some 1) none = txts ws := ecut
          rw [ecut2]
          have no_b := no_bo b hb
          have ho1 : upd H2 o (.lst []) o = some (.lst []) := upd_same
          have s13 := s02.trans s3
          have hfree := s02.free ho
          generalize upd H2 o (.lst []) = H3 at s3 hS3 hb ho1 s13 ⊢
          have s4 : Same H3 (upd H3 b (.lst (txts ws))) := same_new hb
          have hb4 : upd H3 b (.lst (txts ws)) b = some (.lst (txts ws)) := upd_same
          refine ⟨fm, b, txts ws, rfl, .inl (.inl hb4), ?_⟩
          have s14 := s13.trans s4
          have ho4 := s4 _ _ ho1
          have hA4 := (s2.trans (s3.trans s4)) _ _ hA
          generalize upd H3 b (.lst (txts ws)) = H4 at s14 hb4 ho4 hA4 ⊢
          refine for_it (walk_zipS (z := fm) (ys := txts ws) (by rw [List.length_map, hwl]; simp)) (fun i σ H' => ∃ y4 y5 vs, σ = [some (.str (S l)), some (.ref a), some (.str fm), some (.ref o), y4, y5] ∧ items (fm.cps.toList.take i) (ws.take i) = some vs ∧ Same H H' ∧ H' b = some (.lst (txts ws)) ∧ H' a = some (.lst (txts (wd :: ws))) ∧ H' o = some (.lst vs)) ?_ ?_ ?_ ?_
          · exact ⟨none, none, [], rfl, rfl, s14, hb4, hA4, ho4⟩
          · rintro i σ H' _ ⟨y3, y4, vs, _, _, sm, h1, _⟩
            exact .inl (.inl h1)
          · rintro i x σ H1' H2' hi ⟨y3, y4, vs, rfl, hv, sm, hb1', ha1, ho1'⟩ ⟨T, c, y, rfl, hT, rfl, hcc, hy⟩
            have hc' : fm.cps.toList[i]? = some c := by simpa using hcc
            have hil : i < ws.length := by simpa using hi
            have hy' : y = .str (S ws[i]) := by
              rw [List.getElem?_map, List.getElem?_eq_getElem hil] at hy
              exact (Option.some.inj hy).symm
            subst hy'
            have hwi : ws[i]? = some ws[i] := List.getElem?_eq_getElem hil
            have hmem := hb2 _ (List.mem_cons_of_mem _ (List.getElem_mem hil))
            have hlen : ws[i].length ≤ 10000 := by omega
            have hchr : ∀ c ∈ ws[i], c < 128 := fun c h => hc c (hmem.2 c h)
            have sT : Same H1' (upd H1' T (.tup [.str ⟨#[c]⟩, .str (S ws[i])])) := same_new hT
            have hb5 := sT _ _ hb1'
            have ha5 := sT _ _ ha1
            have ho5 := sT _ _ ho1'
            have s5 := sm.trans sT
            have hvl : vs.length < sizeLine := Nat.lt_of_le_of_lt (items_len hv) (Nat.lt_of_le_of_lt (by rw [List.length_take]; exact Nat.le_trans (Nat.min_le_right _ _) f3') (by decide))
            refine ⟨T, _, rfl, .inl (.inl upd_same), rfl, _, _, rfl, _, _, rfl, rfl, ?_⟩
            generalize upd H1' T (.tup [.str ⟨#[c]⟩, .str (S ws[i])]) = H5 at hb5 ha5 ho5 s5 ⊢
            have fin : ∀ {H6 : Hp} {v : V}, Same H5 H6 → v = itemV c ws[i] → ¬ (c = 110 ∧ isNum ws[i] = false) → ∃ p vs1 v1, V.ref o = .ref p ∧ [v] = [v1] ∧ H6 p = some (.lst vs1) ∧ vs1.length < sizeLine ∧ ∃ y4 y5 vs', [some (V.str (S l)), some (V.ref a), some (V.str fm), some (V.ref o), some (V.str ⟨#[c]⟩), some (V.str (S ws[i]))] = [some (V.str (S l)), some (.ref a), some (.str fm), some (.ref o), y4, y5] ∧ items (fm.cps.toList.take (i + 1)) (ws.take (i + 1)) = some vs' ∧ Same H (upd H6 p (.lst (vs1 ++ [v1]))) ∧ upd H6 p (.lst (vs1 ++ [v1])) b = some (.lst (txts ws)) ∧ upd H6 p (.lst (vs1 ++ [v1])) a = some (.lst (txts (wd :: ws))) ∧ upd H6 p (.lst (vs1 ++ [v1])) o = some (.lst vs') := by
              intro H6 v s6 hv6 hgood
              refine ⟨o, vs, _, rfl, rfl, s6 _ _ ho5, hvl, _, _, _, rfl, items_good hwl hc' hwi hgood hv, ?_, ?_, ?_, ?_⟩
              · intro x e h
                have hx : x ≠ o := ne_of_none h hfree
                rw [upd_ne hx]
                exact (s5.trans s6) x e h
              · rw [upd_ne no_b]
                exact s6 _ _ hb5
              · rw [upd_ne no_a]
                exact s6 _ _ ha5
              · rw [upd_same, hv6]
            refine ⟨_, rfl, rfl, _, rfl, ?_⟩
            by_cases hn : c = 110
            · subst hn
              refine iteT ?_
              refine ⟨_, rfl, _, rfl, hlen, hchr, fun H6 s6 => ⟨_, rfl, ?_⟩⟩
              by_cases hnum : isNum ws[i] = true
              · rw [hnum]
                refine iteF ?_
                refine ⟨_, rfl, .inl ⟨rfl, vs, .inl (.inl (s6 _ _ ho5))⟩, _, rfl, rfl, _, rfl, ?_⟩
                refine iteT ?_
                obtain ⟨d1, d2, d3⟩ := isNum_yes hnum
                refine ⟨_, rfl, _, _, rfl, int_S d1 d2 (by omega), (by rw [S_len]; omega), ?_⟩
                exact fin s6 (by rw [itemV, if_pos rfl]) (fun z => by rw [hnum] at z; cases z.2)
              · have hnum' : isNum ws[i] = false := by simpa using hnum
                rw [hnum']
                refine iteT ?_
                rw [items_bad hwl hc' hwi rfl hnum'] at hlr
                exact hnone hlr H6 (s5.trans s6)
            · have ne : ¬ V.str (⟨#[c]⟩ : Str) = V.str "n" := fun z => by
                have z2 := congrArg (fun x : Str => x.cps.toList) (V.str.inj z)
                have z3 : ([c] : List Nat) = [110] := z2
                exact hn (List.cons.inj z3).1
              rw [decide_eq_false ne]
              refine iteF ?_
              refine iteF ?_
              refine ⟨_, rfl, .inl ⟨rfl, vs, .inl (.inl ho5)⟩, _, rfl, rfl, _, rfl, ?_⟩
              rw [decide_eq_false ne]
              refine iteF ?_
              refine ⟨_, rfl, ?_⟩
              exact fin (Same.refl _) (by rw [itemV, if_neg hn]) (fun z => hn z.1)
          · rintro σ H' ⟨y3, y4, vs, rfl, hv, sm, h1, h2, h3⟩
            rw [List.length_map, List.take_length, hwl, List.take_length] at hv
            rw [hv] at hlr
            refine ⟨_, rfl, a, _, _, .str (S wd), rfl, rfl, .inl (.inl h2), atI_nat (j := 0) rfl, _, rfl, Nat.le_of_ble_eq_true rfl, fun p hp => ?_⟩
            exact hsome _ hlr p o _ (sm.trans (same_new hp)) (sm.free hp) hfree (fun z => by rw [z, h3] at hp; cases hp) upd_same (by rw [upd_ne (fun z => by rw [← z, h3] at hp; cases hp)]; exact h3)
        · rw [if_neg hwl] at hlr
          have ne : ¬ V.int (((wd :: ws).length : Nat) : Int) = V.int (1 + (fm.length : Int)) := fun z => hwl (by
            have z2 := V.int.inj z
            rw [List.length_cons] at z2
            have z3 : (((ws.length + 1 : Nat)) : Int) = 1 + (fm.cps.toList.length : Int) := z2
            omega)
          rw [decide_eq_false ne]
          refine iteT ?_
          exact hnone hlr H2 s02
end
end Law
end
section
set_option Elab.async false
set_option linter.all false
set_option maxRecDepth 100000
set_option maxHeartbeats 4000000
namespace Law
open PySem PySem.Spec PyProof.Rows L2 IK M SX
/-! ### texts joined -/
theorem joinL_le {sep : List Nat} {n : Nat} : ∀ {ws : List (List Nat)}, (∀ w ∈ ws, w.length ≤ n) → (TL.joinL sep ws).length ≤ ws.length * (n + sep.length)
  | [], _ => by simp [TL.joinL]
  | [p], h => by
    have := h p List.mem_cons_self
    simp [TL.joinL]
    omega
  | p :: q :: r, h => by
    have h1 := h p List.mem_cons_self
    have ih := joinL_le (sep := sep) (ws := q :: r) fun w hw => h w (List.mem_cons_of_mem _ hw)
    rw [TL.joinL, List.length_append, List.length_append]
    have e : (p :: q :: r).length * (n + sep.length) = (q :: r).length * (n + sep.length) + (n + sep.length) := by
      rw [List.length_cons, Nat.add_mul, Nat.one_mul]
    omega
theorem joinL_all {sep : List Nat} {C : Nat → Prop} (hs : ∀ c ∈ sep, C c) : ∀ {ws : List (List Nat)}, (∀ w ∈ ws, ∀ c ∈ w, C c) → ∀ c ∈ TL.joinL sep ws, C c
  | [], _, c, hc => by simp [TL.joinL] at hc
  | [p], h, c, hc => h p List.mem_cons_self c (by simpa [TL.joinL] using hc)
  | p :: q :: r, h, c, hc => by
    rw [TL.joinL, List.mem_append, List.mem_append] at hc
    rcases hc with hc | hc | hc
    · exact h p List.mem_cons_self c hc
    · exact hs c hc
    · exact joinL_all hs (fun w hw => h w (List.mem_cons_of_mem _ hw)) c hc
/-- texts of at most n signs, all ascii -/
def Txs (n : Nat) (ws : List (List Nat)) : Prop := ∀ w ∈ ws, w.length ≤ n ∧ ∀ c ∈ w, c < 128
theorem Txs.nil {n : Nat} : Txs n [] := fun _ h => nomatch h
theorem Txs.snoc {n : Nat} {ws : List (List Nat)} {w : List Nat} (h : Txs n ws) (h1 : w.length ≤ n) (h2 : ∀ c ∈ w, c < 128) : Txs n (ws ++ [w]) := by
  intro x hx
  rcases List.mem_append.mp hx with hx | hx
  · exact h x hx
  · rcases List.mem_singleton.mp hx with rfl
    exact ⟨h1, h2⟩
theorem Txs.join {n : Nat} {sep : List Nat} {ws : List (List Nat)} (h : Txs n ws) (hs : ∀ c ∈ sep, c < 128) : (TL.joinL sep ws).length ≤ ws.length * (n + sep.length) ∧ ∀ c ∈ TL.joinL sep ws, c < 128 :=
  ⟨joinL_le fun w hw => (h w hw).1, joinL_all hs fun w hw => (h w hw).2⟩
theorem Txs.sum {n : Nat} : ∀ {ws : List (List Nat)}, Txs n ws → ((ws.map S).map (·.length)).sum ≤ ws.length * n
  | [], _ => by simp
  | w :: ws, h => by
    have h1 := (h w List.mem_cons_self).1
    have ih := Txs.sum (ws := ws) fun x hx => h x (List.mem_cons_of_mem _ hx)
    rw [List.map_cons, List.map_cons, List.sum_cons, S_len, List.length_cons, Nat.add_mul, Nat.one_mul]
    omega
/-- all but p is as it was, as far as it was -/
def Bar (p : Addr) (H H' : Hp) : Prop := ∀ b o, b ≠ p → H b = some o → H' b = some o
theorem Bar.refl {p : Addr} {H : Hp} : Bar p H H := fun _ _ _ h => h
theorem Bar.trans {p : Addr} {H H1 H2 : Hp} (h : Bar p H H1) (k : Bar p H1 H2) : Bar p H H2 := fun b o hb e => k b o hb (h b o hb e)
theorem Bar.but {p : Addr} {H H' : Hp} (h : But p H H') : Bar p H H' := fun b o hb e => (h b hb).trans e
theorem Bar.same {p : Addr} {H H' : Hp} (h : Same H H') : Bar p H H' := fun b o _ e => h b o e
theorem Bar.new {p q : Addr} {o : HO} {H : Hp} (h : H q = none) : Bar p H (upd H q o) := Bar.same (same_new h)
theorem Bar.new_none {p q : Addr} {H H' : Hp} (h : Bar p H H') (hp : p ≠ q) (hq : H' q = none) : H q = none := by
  cases e : H q with
  | none => rfl
  | some y => rw [h q y hp.symm e] at hq; cases hq
theorem BoxAt.mono {H : Hp} {p : Addr} {c c' : Nat} (h : BoxAt H p c) (hc : c ≤ c') : BoxAt H p c' := by
  obtain ⟨a, b, d, h1, h2, h3, h4, h5⟩ := h
  exact ⟨a, b, d, h1, h2, h3, h4, by omega⟩
theorem BoxAt.some {H : Hp} {p : Addr} {c : Nat} (h : BoxAt H p c) : H p ≠ none := by
  obtain ⟨a, b, d, h1, _⟩ := h
  rw [h1]
  exact fun z => nomatch z
theorem BoxAt.upd {H : Hp} {p q : Addr} {o : HO} {c : Nat} (h : BoxAt H p c) (hq : p ≠ q) : BoxAt (upd H q o) p c := by
  obtain ⟨a, b, d, h1, h2⟩ := h
  exact ⟨a, b, d, by rw [upd_ne hq]; exact h1, h2⟩
theorem BoxAt.same {H H' : Hp} {p : Addr} {c : Nat} (h : BoxAt H p c) (s : Same H H') : BoxAt H' p c := by
  obtain ⟨a, b, d, h1, h2⟩ := h
  exact ⟨a, b, d, s _ _ h1, h2⟩
/-! ### the words -/
def wl1 : List Str := ["open", "go", "back", "late", "undo", "redo", "show", "table", "whole", "led", "price", "standing"]
def wl2 : List Str := ["stuck", "ice", "where", "last", "way", "free", "out", "best", "barred"]
theorem wl1_eq : Txt.split "open go back late undo redo show table whole led price standing" " " = wl1 := by decide +kernel
theorem wl2_eq : Txt.split "stuck ice where last way free out best barred" " " = wl2 := by decide +kernel
theorem wl_len : (wl1 ++ wl2).length = 21 := by decide
theorem wl_all : ∀ x ∈ wl1 ++ wl2, x.cps.toList.length ≤ 8 ∧ (∀ c ∈ x.cps.toList, c < 128) ∧ ∃ f, lawForm x = some f ∧ f.cps.toList.length ≤ 3 := by
  have h : (wl1 ++ wl2).all (fun x => decide (x.cps.toList.length ≤ 8) && x.cps.toList.all (fun c => decide (c < 128)) && (match lawForm x with | some f => decide (f.cps.toList.length ≤ 3) | none => false)) = true := by decide +kernel
  intro x hx
  have z := List.all_eq_true.mp h x hx
  simp only [Bool.and_eq_true, decide_eq_true_eq, List.all_eq_true] at z
  refine ⟨z.1.1, z.1.2, ?_⟩
  cases e : lawForm x with
  | none => rw [e] at z; cases z.2
  | some f => rw [e] at z; exact ⟨f, rfl, of_decide_eq_true z.2⟩
theorem letters_all : ∀ c ∈ (("abcdefghijklmnopqrstuvwxyz" : Str)).cps.toList, c < 128 := by decide +kernel
theorem letters_len : (("abcdefghijklmnopqrstuvwxyz" : Str)).cps.toList.length = 26 := by decide +kernel
def partsL : List Str := ["/", "a", "", " ", "begin 0", "//", "/ /", "ports aa b", " / "]
theorem parts_all : ∀ x ∈ partsL ++ ([" ", " / "] : List Str), x.cps.toList.length ≤ 10 ∧ ∀ c ∈ x.cps.toList, c < 128 := by decide +kernel
/-- number r of a list, r drawn below its length -/
theorem at_drawn {α : Type} {xs : List α} {r : Int} (h0 : 0 ≤ r) (h1 : r < (xs.length : Int)) : ∃ x, atI xs r = some x ∧ x ∈ xs := by
  obtain ⟨n, rfl⟩ := Int.eq_ofNat_of_zero_le h0
  have hn : n < xs.length := by omega
  exact ⟨xs[n], atI_nat (List.getElem?_eq_getElem hn), List.getElem_mem hn⟩
def spLine : Sp := fun vs H Q _ => ∃ (p : Addr) (c : Nat), vs = [.ref p] ∧ BoxAt H p c ∧ c < 50000 ∧ ∀ (l : List Nat) H', l.length ≤ 400 → (∀ c ∈ l, c < 128) → BoxAt H' p (c + 100) → Bar p H H' → Q (.str (S l)) H'
section
variable {P : Program} {w : World} {K : PySem.W.Frag} {mg : Str → Option Value} {base : Heap}
theorem ok_line {f : Addr} {fd : FuncData} (F : Fun K "_law_line" "_law_line" s__law_line f fd) (B : Blt mg) (DF : Dn P w K mg base CX0 1 "_law_form" ["_law_word"] spForm) (DT : Dn P w K mg base CX0 1 "_law_take" ["_law_box_here", "_law_many"] spTake) :
    FnOk P w K mg base CX0 2 f fd ["_law_box_here"] spLine := by
  refine F.ok sc__law_line (fun vs H Q E h => ?_) (fun cdv A outer s H vs Q E hr h => ?_)
  · obtain ⟨x, c, rfl, _⟩ := h
    rfl
  · obtain ⟨p, c, rfl, hp, hc, q⟩ := h
    refine ⟨_, (pss_cons (ps_set (i := 1) sc__law_line.nd rfl (.inl rfl) (pe_split pe_str pe_str))
      (pss_cons (ps_set (i := 2) sc__law_line.nd rfl (.inl rfl) (pe_ix ix_list (pe_op op_cat (pv 1) (pe_split pe_str pe_str)) (pe_d DT (hr.mono (by decide)) (by rfl) pass0 (pa_cons (pv 0) (pa_cons pe_int pa_nil))) (fun _ _ => rfl)))
      (pss_cons (ps_set (i := 3) sc__law_line.nd rfl (.inr rfl) pe_str)
      (pss_cons (ps_set (i := 4) sc__law_line.nd rfl (.inl rfl) (pe_lst (pa_cons (pv 2) pa_nil)))
      (pss_cons (ps_for PassesOwn.never rfl (pi_str (pe_d DF (hr.mono (by decide)) (by rfl) pass0 (pa_cons (pv 2) pa_nil))) (pg_name (i := 5) sc__law_line.nd rfl (.inl rfl))
 (pss_one (ps_if (pt_cmpR op_eq (pv 5) pe_str (nomark _))
 (pss_cons (ps_set (i := 6) sc__law_line.nd rfl (.inl rfl) (pe_ix ix_list (pe_lst (pa_cons pe_int (pa_cons pe_int (pa_cons pe_int (pa_cons pe_int (pa_cons pe_int pa_nil)))))) (pe_d DT (hr.mono (by decide)) (by rfl) pass0 (pa_cons (pv 0) (pa_cons pe_int pa_nil))) (fun _ _ => rfl)))
      (pss_one (ps_expr (pe_bm PySem.F.plainAttrs_list PySem.F.slot_list_append PySem.F.type_list_append mt_append (pv 4) (pa_cons (pe_join pe_str (pe_lc (own := [("_law_k", 9)]) (g := gName 9) (tt := tYes) rfl sc__law_line.nd (pi_range1 (by rfl) B.range (pa_cons (pv 6) pa_nil)) (blkOk_by (N := ["_law_box_here", "_law_words", "_law_word", "_law_letters", "_law_found_here", "_law_sign", "_law_size", "_law_parts", "_law_some", "_law_k"]) (sc := defScope s__law_line) (by decide +kernel)) (fun _ _ _ _ _ => pg_name (i := 9) sc__law_line.nd rfl (Or.inl rfl)) (fun _ _ _ _ _ => pts_nil) (fun _ _ _ _ _ => (pe_ix ix_str pe_str (pe_d DT (hr.mono (by decide)) (by rfl) pass0 (pa_cons (pv 0) (pa_cons pe_int pa_nil))) (fun _ _ => rfl))))) pa_nil)))))
 (pss_one (ps_if (pt_cmpR op_eq (pv 5) pe_str (nomark _))
 (pss_one (ps_expr (pe_bm PySem.F.plainAttrs_list PySem.F.slot_list_append PySem.F.type_list_append mt_append (pv 4) (pa_cons (pe_join pe_str (pe_lc (own := [("_law_k", 9)]) (g := gName 9) (tt := tYes) rfl sc__law_line.nd (pi_range1 (by rfl) B.range (pa_cons (pe_d DT (hr.mono (by decide)) (by rfl) pass0 (pa_cons (pv 0) (pa_cons pe_int pa_nil))) pa_nil)) (blkOk_by (N := ["_law_box_here", "_law_words", "_law_word", "_law_letters", "_law_found_here", "_law_sign", "_law_size", "_law_parts", "_law_some", "_law_k"]) (sc := defScope s__law_line) (by decide +kernel)) (fun _ _ _ _ _ => pg_name (i := 9) sc__law_line.nd rfl (Or.inl rfl)) (fun _ _ _ _ _ => pts_nil) (fun _ _ _ _ _ => (pe_ix ix_str (pv 3) (pe_d DT (hr.mono (by decide)) (by rfl) pass0 (pa_cons (pv 0) (pa_cons pe_int pa_nil))) (fun _ _ => rfl))))) pa_nil))))
 (pss_cons (ps_set (i := 7) sc__law_line.nd rfl (.inr rfl) (pe_lst (pa_cons pe_str (pa_cons pe_str (pa_cons pe_str (pa_cons pe_str (pa_cons pe_str (pa_cons pe_str (pa_cons pe_str (pa_cons pe_str (pa_cons pe_str pa_nil)))))))))))
      (pss_cons (ps_setLc (i := 8) (own := [("_law_k", 9)]) (g := gName 9) (tt := tYes) rfl sc__law_line.nd rfl rfl (by rfl) (pi_range1 (by rfl) B.range (pa_cons (pe_d DT (hr.mono (by decide)) (by rfl) pass0 (pa_cons (pv 0) (pa_cons pe_int pa_nil))) pa_nil)) (blkOk_by (N := ["_law_box_here", "_law_words", "_law_word", "_law_letters", "_law_found_here", "_law_sign", "_law_size", "_law_parts", "_law_some", "_law_k"]) (sc := defScope s__law_line) (by decide +kernel)) (fun _ _ _ _ _ => pg_name (i := 9) sc__law_line.nd rfl (Or.inl rfl)) (fun _ _ _ _ _ => pts_nil) (fun _ _ _ _ _ => (pe_ix (show IxR _ (rIxL K) from ix_list) (pe_lst (pa_cons pe_str (pa_cons pe_str (pa_cons (pe_ix (show IxR _ (rIxL K) from ix_list) (pv 7) (pe_d DT (hr.mono (by decide)) (by rfl) pass0 (pa_cons (pv 0) (pa_cons pe_int pa_nil))) (fun _ _ => rfl)) pa_nil)))) (pe_d DT (hr.mono (by decide)) (by rfl) pass0 (pa_cons (pv 0) (pa_cons pe_int pa_nil))) (fun _ _ => rfl))))
      (pss_one (ps_expr (pe_bm PySem.F.plainAttrs_list PySem.F.slot_list_append PySem.F.type_list_append mt_append (pv 4) (pa_cons (pe_join pe_str (pv 8)) pa_nil)))))))))))
      (pss_one (ps_ret (pe_join pe_str (pv 4))))))))), ?_⟩
    refine ⟨⟨_, rfl⟩, _, _, rfl, rfl, by decide +kernel, by decide +kernel, fun a ha => ?_⟩
    rw [wl1_eq]
    have bA : Bar p H (upd H a (.lst (wl1.map V.str))) := Bar.new ha
    have hpa : p ≠ a := fun z => hp.some (by rw [z]; exact ha)
    have hA : upd H a (.lst (wl1.map V.str)) a = some (.lst (wl1.map V.str)) := upd_same
    have hp1 := hp.upd (o := .lst (wl1.map V.str)) hpa
    generalize upd H a (.lst (wl1.map V.str)) = H1 at bA hA hp1 ⊢
    refine ⟨_, rfl, ⟨_, rfl⟩, _, _, rfl, rfl, by decide +kernel, by decide +kernel, fun b hb => ?_⟩
    rw [wl2_eq]
    have hpb : p ≠ b := fun z => hp1.some (by rw [z]; exact hb)
    have hab : a ≠ b := fun z => by rw [← z, hA] at hb; cases hb
    have bB := bA.trans (Bar.new (o := .lst (wl2.map V.str)) hb)
    have hA2 : upd H1 b (.lst (wl2.map V.str)) a = some (.lst (wl1.map V.str)) := by rw [upd_ne hab]; exact hA
    have hB2 : upd H1 b (.lst (wl2.map V.str)) b = some (.lst (wl2.map V.str)) := upd_same
    have hp2 := hp1.upd (o := .lst (wl2.map V.str)) hpb
    generalize upd H1 b (.lst (wl2.map V.str)) = H2 at bB hA2 hB2 hp2 ⊢
    refine ⟨a, b, _, _, rfl, rfl, hA2, hB2, by decide +kernel, fun d hd => ?_⟩
    rw [← List.map_append]
    have hpd : p ≠ d := fun z => hp2.some (by rw [z]; exact hd)
    have bD := bB.trans (Bar.new (o := .lst ((wl1 ++ wl2).map V.str)) hd)
    have hD3 : upd H2 d (.lst ((wl1 ++ wl2).map V.str)) d = some (.lst ((wl1 ++ wl2).map V.str)) := upd_same
    have hp3 := hp2.upd (o := .lst ((wl1 ++ wl2).map V.str)) hpd
    generalize upd H2 d (.lst ((wl1 ++ wl2).map V.str)) = H3 at bD hD3 hp3 ⊢
    refine ⟨_, rfl, p, 21, c, rfl, hp3, by omega, by decide, by decide, fun r H4 r0 r1 hp4 bt => ?_⟩
    obtain ⟨v, hv, hvm⟩ := at_drawn (xs := (wl1 ++ wl2).map V.str) r0 (by rw [List.length_map, wl_len]; exact r1)
    obtain ⟨x, hx, rfl⟩ := List.mem_map.mp hvm
    obtain ⟨hx1, hx2, fm, hfm, hfl⟩ := wl_all x hx
    have bE := bD.trans (Bar.but bt)
    have hD4 : H4 d = some (.lst ((wl1 ++ wl2).map V.str)) := (bt d hpd.symm).trans hD3
    refine ⟨d, _, r, _, rfl, rfl, SqL.of hD4, hv, ?_⟩
    refine ⟨_, rfl, Nat.le_of_ble_eq_true rfl, fun o ho => ?_⟩
    have hpo : p ≠ o := fun z => hp4.some (by rw [z]; exact ho)
    have ex : V.str x = V.str (S x.cps.toList) := by rw [S_tl]
    have bO := bE.trans (Bar.new (o := .lst [.str x]) ho)
    have hO5 : upd H4 o (.lst [.str x]) o = some (.lst (txts [x.cps.toList])) := by rw [upd_same, ex]; rfl
    have hp5 := hp4.upd (o := .lst [.str x]) hpo
    generalize upd H4 o (.lst [.str x]) = H5 at bO hO5 hp5 ⊢
    have hoH : H o = none := by
      cases e : H o with
      | none => rfl
      | some y => rw [bE o y hpo.symm e] at ho; cases ho
    refine ⟨_, rfl, x, rfl, fun H6 s6 => ?_⟩
    rw [hfm]
    refine ⟨fm, rfl, ?_⟩
    have hO6 := s6 _ _ hO5
    have hp6 := hp5.same s6
    have bF := bO.trans (Bar.same s6)
    refine for_it (walk_str (z := fm)) (fun i σ H' => ∃ y5 y6 y7 y8 ws, σ = [some (.ref p), some (.ref a), some (.str x), some (.str "abcdefghijklmnopqrstuvwxyz"), some (.ref o), y5, y6, y7, y8, none] ∧ H' o = some (.lst (txts ws)) ∧ ws.length = i + 1 ∧ Txs 90 ws ∧ BoxAt H' p (c + 1 + 20 * i) ∧ Bar p H H') ?_ (fun _ _ _ _ _ => trivial) ?_ ?_
    · exact ⟨none, none, none, none, [x.cps.toList], rfl, hO6, rfl, Txs.nil.snoc (by omega) hx2, hp6, bF⟩
    · rintro i y σ H1' H2' hi ⟨y5, y6, y7, y8, ws, rfl, ho1, hwl, htx, hbx, br⟩ ⟨rfl, e, he, rfl⟩
      have hfs : fm.cps.size ≤ 3 := by simpa using hfl
      have app : ∀ {H6 : Hp} {y5 y6 y7 y8 : Option V} {w : List Nat}, Bar p H2' H6 → H6 o = some (.lst (txts ws)) → BoxAt H6 p (c + 1 + 20 * i + 20) → w.length ≤ 90 → (∀ c ∈ w, c < 128) → ∃ q vs1 v1, V.ref o = .ref q ∧ [V.str (S w)] = [v1] ∧ H6 q = some (.lst vs1) ∧ vs1.length < sizeLine ∧
          ∃ z5 z6 z7 z8 ws', [some (V.ref p), some (.ref a), some (.str x), some (.str "abcdefghijklmnopqrstuvwxyz"), some (.ref o), y5, y6, y7, y8, none] = [some (V.ref p), some (.ref a), some (.str x), some (.str "abcdefghijklmnopqrstuvwxyz"), some (.ref o), z5, z6, z7, z8, none] ∧ upd H6 q (.lst (vs1 ++ [v1])) o = some (.lst (txts ws')) ∧ ws'.length = i + 1 + 1 ∧ Txs 90 ws' ∧ BoxAt (upd H6 q (.lst (vs1 ++ [v1]))) p (c + 1 + 20 * (i + 1)) ∧ Bar p H (upd H6 q (.lst (vs1 ++ [v1]))) := by
        intro H6 y5 y6 y7 y8 w b6 h6 hb6 hw1 hw2
        refine ⟨o, _, _, rfl, rfl, h6, ?_, y5, y6, y7, y8, ws ++ [w], rfl, ?_, ?_, htx.snoc hw1 hw2, ?_, ?_⟩
        · rw [List.length_map, hwl]
          have : fm.cps.size ≤ 3 := by simpa using hfl
          exact Nat.lt_of_le_of_lt (show i + 1 ≤ 4 by omega) (by decide)
        · rw [upd_same]
          simp
        · rw [List.length_append, hwl]
          rfl
        · exact (hb6.upd hpo).mono (by omega)
        · intro b' o' hb' e'
          rw [upd_ne (ne_of_none e' hoH)]
          exact b6 b' o' hb' (br b' o' hb' e')
      refine ⟨_, rfl, rfl, _, rfl, ?_⟩
      by_cases hn : e = 110
      · subst hn
        refine iteT ?_
        refine ⟨Nat.le_of_ble_eq_true rfl, fun L hL => ?_⟩
        have hpL : p ≠ L := fun z => hbx.some (by rw [z]; exact hL)
        have hoL : o ≠ L := fun z => by rw [← z, ho1] at hL; cases hL
        have bL : Bar p H2' (upd H2' L (.lst ([1, 1, 2, 12, 13].map V.int))) := Bar.new hL
        refine ⟨_, rfl, p, 5, _, rfl, hbx.upd hpL, by omega, by decide, by decide, fun r H4' r0 r1 hb4 bt4 => ?_⟩
        obtain ⟨v, hv, hvm⟩ := at_drawn (xs := ([1, 1, 2, 12, 13] : List Int).map V.int) r0 r1
        obtain ⟨sz, hsz, rfl⟩ := List.mem_map.mp hvm
        have hsz2 : 0 ≤ sz ∧ sz ≤ 13 := by
          simp at hsz
          omega
        have hL4 : H4' L = some (.lst (([1, 1, 2, 12, 13] : List Int).map V.int)) := (bt4 L hpL.symm).trans upd_same
        have ho4 : H4' o = some (.lst (txts ws)) := (bt4 o hpo.symm).trans (by rw [upd_ne hoL]; exact ho1)
        have b4 := bL.trans (Bar.but bt4)
        refine ⟨L, _, r, _, rfl, rfl, SqL.of hL4, hv, ?_⟩
        refine ⟨_, rfl, .inl ⟨rfl, _, .inl (.inl ho4)⟩, ⟨_, rfl⟩, _, rfl, sz, rfl, by omega, by omega, fun D hD => ?_⟩
        have hpD : p ≠ D := fun z => hb4.some (by rw [z]; exact hD)
        have hoD : o ≠ D := fun z => by rw [← z, ho4] at hD; cases hD
        refine lc_it (walk_range (lo := 0) (n := sz.toNat)) (fun j H' => ∃ us, H' D = some (.lst (txts us)) ∧ us.length = j ∧ Txs 1 us ∧ BoxAt H' p (c + 1 + 20 * i + 1 + j) ∧ Bar p H2' H' ∧ H' o = some (.lst (txts ws))) ?_ (fun _ _ _ _ => trivial) ?_ ?_
        · exact ⟨[], upd_same, rfl, Txs.nil, hb4.upd hpD, b4.trans (Bar.new hD), by rw [upd_ne hoD]; exact ho4⟩
        · rintro j y H5' H6' hj ⟨us, hD5, hus, htu, hb5, b5, ho5⟩ ⟨rfl, rfl⟩
          refine ⟨rfl, ?_⟩
          refine yesT (iteT ?_)
          refine ⟨_, rfl, p, 10, _, rfl, hb5, by omega, by decide, by decide, fun r' H7 r0' r1' hb7 bt7 => ?_⟩
          obtain ⟨ch, hch, hchm⟩ := at_drawn (xs := (("0123456789" : Str)).cps.toList) r0' (by rw [fig_list]; exact r1')
          have hD7 : H7 D = some (.lst (txts us)) := (bt7 D hpD.symm).trans hD5
          refine ⟨_, r', ch, rfl, rfl, by decide +kernel, hch, _, hD7, ?_, us ++ [[ch]], ?_, ?_, htu.snoc (Nat.le_refl 1) ?_, hb7.upd hpD |>.mono (by omega), ?_, ?_⟩
          · rw [List.length_map, hus]
            exact Nat.lt_of_le_of_lt (show j ≤ 13 by omega) (by decide)
          · rw [upd_same]
            simp
          · rw [List.length_append, hus]
            rfl
          · intro c' hc'
            rcases List.mem_singleton.mp hc' with rfl
            rw [fig_list] at hchm
            simp at hchm
            omega
          · intro b' o' hb' e'
            rw [upd_ne (fun z => by rw [z, b4.new_none hpD hD] at e'; cases e')]
            exact (b5.trans (Bar.but bt7)) b' o' hb' e'
          · rw [upd_ne hoD]
            exact (bt7 o hpo.symm).trans ho5
        · rintro H' ⟨us, hD5, hus, htu, hb5, b5, ho5⟩
          have htx2 : txts us = (us.map S).map V.str := by rw [List.map_map]; rfl
          refine ⟨_, D, us.map S, rfl, rfl, .inl (.inl (.inl (by rw [hD5, htx2]))), ?_, ?_⟩
          · have z := htu.sum
            rw [List.length_map, show ("" : Str).length = 0 by decide +kernel]
            omega
          · obtain ⟨j1, j2⟩ := htu.join (sep := []) (by decide)
            rw [empty_S, join_S]
            refine app b5 ho5 (hb5.mono (by omega)) ?_ j2
            have e0 : ([] : List Nat).length = 0 := rfl
            rw [e0] at j1
            omega
      · have ne : ¬ V.str (⟨#[e]⟩ : Str) = V.str "n" := fun z => by
          have z2 := congrArg (fun x : Str => x.cps.toList) (V.str.inj z)
          have z3 : ([e] : List Nat) = [110] := z2
          exact hn (List.cons.inj z3).1
        rw [decide_eq_false ne]
        refine iteF ?_
        refine ⟨_, rfl, rfl, _, rfl, ?_⟩
        by_cases hw : e = 119
        · subst hw
          refine iteT ?_
          refine ⟨_, rfl, .inl ⟨rfl, _, .inl (.inl ho1)⟩, ⟨_, rfl⟩, _, rfl, p, 9, _, rfl, hbx, by omega, by decide, by decide, fun r H4' r0 r1 hb4 bt4 => ⟨r, rfl, by omega, by omega, fun D hD => ?_⟩⟩
          have hpD : p ≠ D := fun z => hb4.some (by rw [z]; exact hD)
          have b4 : Bar p H2' H4' := Bar.but bt4
          have ho4 : H4' o = some (.lst (txts ws)) := (bt4 o hpo.symm).trans ho1
          have hoD : o ≠ D := fun z => by rw [← z, ho4] at hD; cases hD
          refine lc_it (walk_range (lo := 0) (n := r.toNat)) (fun j H' => ∃ us, H' D = some (.lst (txts us)) ∧ us.length = j ∧ Txs 1 us ∧ BoxAt H' p (c + 1 + 20 * i + 1 + j) ∧ Bar p H2' H' ∧ H' o = some (.lst (txts ws))) ?_ (fun _ _ _ _ => trivial) ?_ ?_
          · exact ⟨[], upd_same, rfl, Txs.nil, hb4.upd hpD, b4.trans (Bar.new hD), by rw [upd_ne hoD]; exact ho4⟩
          · rintro j y H5' H6' hj ⟨us, hD5, hus, htu, hb5, b5, ho5⟩ ⟨rfl, rfl⟩
            refine ⟨rfl, ?_⟩
            refine yesT (iteT ?_)
            refine ⟨_, rfl, _, rfl, p, 26, _, rfl, hb5, by omega, by decide, by decide, fun r' H7 r0' r1' hb7 bt7 => ?_⟩
            obtain ⟨ch, hch, hchm⟩ := at_drawn (xs := (("abcdefghijklmnopqrstuvwxyz" : Str)).cps.toList) r0' (by rw [letters_len]; exact r1')
            have hD7 : H7 D = some (.lst (txts us)) := (bt7 D hpD.symm).trans hD5
            refine ⟨_, r', ch, rfl, rfl, by decide +kernel, hch, _, hD7, ?_, us ++ [[ch]], ?_, ?_, htu.snoc (Nat.le_refl 1) ?_, hb7.upd hpD |>.mono (by omega), ?_, ?_⟩
            · rw [List.length_map, hus]
              exact Nat.lt_of_le_of_lt (show j ≤ 13 by omega) (by decide)
            · rw [upd_same]
              simp
            · rw [List.length_append, hus]
              rfl
            · intro c' hc'
              rcases List.mem_singleton.mp hc' with rfl
              exact letters_all _ hchm
            · intro b' o' hb' e'
              rw [upd_ne (fun z => by rw [z, b4.new_none hpD hD] at e'; cases e')]
              exact (b5.trans (Bar.but bt7)) b' o' hb' e'
            · rw [upd_ne hoD]
              exact (bt7 o hpo.symm).trans ho5
          · rintro H' ⟨us, hD5, hus, htu, hb5, b5, ho5⟩
            have htx2 : txts us = (us.map S).map V.str := by rw [List.map_map]; rfl
            refine ⟨_, D, us.map S, rfl, rfl, .inl (.inl (.inl (by rw [hD5, htx2]))), ?_, ?_⟩
            · have z := htu.sum
              rw [List.length_map, show ("" : Str).length = 0 by decide +kernel]
              omega
            · obtain ⟨j1, j2⟩ := htu.join (sep := []) (by decide)
              rw [empty_S, join_S]
              refine app b5 ho5 (hb5.mono (by omega)) ?_ j2
              have e0 : ([] : List Nat).length = 0 := rfl
              rw [e0] at j1
              omega
        · have ne2 : ¬ V.str (⟨#[e]⟩ : Str) = V.str "w" := fun z => by
            have z2 := congrArg (fun x : Str => x.cps.toList) (V.str.inj z)
            have z3 : ([e] : List Nat) = [119] := z2
            exact hw (List.cons.inj z3).1
          rw [decide_eq_false ne2]
          refine iteF ?_
          refine ⟨Nat.le_of_ble_eq_true rfl, fun L hL => ?_⟩
          have hpL : p ≠ L := fun z => hbx.some (by rw [z]; exact hL)
          have hoL : o ≠ L := fun z => by rw [← z, ho1] at hL; cases hL
          have bL : Bar p H2' (upd H2' L (.lst (partsL.map V.str))) := Bar.new hL
          refine ⟨_, rfl, p, 9, _, rfl, hbx.upd hpL, by omega, by decide, by decide, fun r H4' r0 r1 hb4 bt4 => ⟨r, rfl, by omega, by omega, fun D hD => ?_⟩⟩
          have hpD : p ≠ D := fun z => hb4.some (by rw [z]; exact hD)
          have hL4 : H4' L = some (.lst (partsL.map V.str)) := (bt4 L hpL.symm).trans upd_same
          have ho4 : H4' o = some (.lst (txts ws)) := (bt4 o hpo.symm).trans (by rw [upd_ne hoL]; exact ho1)
          have b4 := bL.trans (Bar.but bt4)
          have hoD : o ≠ D := fun z => by rw [← z, ho4] at hD; cases hD
          have hLD : L ≠ D := fun z => by rw [← z, hL4] at hD; cases hD
          refine lc_it (walk_range (lo := 0) (n := r.toNat)) (fun j H' => ∃ us, H' D = some (.lst (txts us)) ∧ us.length = j ∧ Txs 10 us ∧ BoxAt H' p (c + 1 + 20 * i + 1 + 2 * j) ∧ Bar p H2' H' ∧ H' o = some (.lst (txts ws)) ∧ H' L = some (.lst (partsL.map V.str))) ?_ (fun _ _ _ _ => trivial) ?_ ?_
          · exact ⟨[], upd_same, rfl, Txs.nil, hb4.upd hpD, b4.trans (Bar.new hD), by rw [upd_ne hoD]; exact ho4, by rw [upd_ne hLD]; exact hL4⟩
          · rintro j y H5' H6' hj ⟨us, hD5, hus, htu, hb5, b5, ho5, hL5⟩ ⟨rfl, rfl⟩
            refine ⟨rfl, ?_⟩
            refine yesT (iteT ?_)
            refine ⟨_, rfl, _, rfl, p, 9, _, rfl, hb5, by omega, by decide, by decide, fun r' H7 r0' r1' hb7 bt7 => ?_⟩
            obtain ⟨v, hv, hvm⟩ := at_drawn (xs := partsL.map V.str) r0' r1'
            have hD7 : H7 D = some (.lst (txts us)) := (bt7 D hpD.symm).trans hD5
            have hL7 : H7 L = some (.lst (partsL.map V.str)) := (bt7 L hpL.symm).trans hL5
            have ho7 : H7 o = some (.lst (txts ws)) := (bt7 o hpo.symm).trans ho5
            refine ⟨L, _, r', v, rfl, rfl, SqL.of hL7, hv, ?_⟩
            refine ⟨Nat.le_of_ble_eq_true rfl, fun M hM => ?_⟩
            obtain ⟨py, hpy, rfl⟩ := List.mem_map.mp hvm
            have hpM : p ≠ M := fun z => hb7.some (by rw [z]; exact hM)
            have hDM : D ≠ M := fun z => by rw [← z, hD7] at hM; cases hM
            have hLM : L ≠ M := fun z => by rw [← z, hL7] at hM; cases hM
            have hoM : o ≠ M := fun z => by rw [← z, ho7] at hM; cases hM
            refine ⟨_, rfl, p, 3, _, rfl, hb7.upd hpM, by omega, by decide, by decide, fun r2 H8 r02 r12 hb8 bt8 => ?_⟩
            obtain ⟨v2, hv2, hvm2⟩ := at_drawn (xs := [(" " : Str), " / ", py].map V.str) r02 r12
            obtain ⟨pz, hpz, rfl⟩ := List.mem_map.mp hvm2
            have hpz2 : pz.cps.toList.length ≤ 10 ∧ ∀ c ∈ pz.cps.toList, c < 128 := by
              refine parts_all pz ?_
              rcases List.mem_cons.mp hpz with e | hpz
              · rw [e]
                exact List.mem_append_right _ List.mem_cons_self
              rcases List.mem_cons.mp hpz with e | hpz
              · rw [e]
                exact List.mem_append_right _ (List.mem_cons_of_mem _ List.mem_cons_self)
              · rw [List.mem_singleton.mp hpz]
                exact List.mem_append_left _ hpy
            have hM8 : H8 M = some (.lst ([(" " : Str), " / ", py].map V.str)) := (bt8 M hpM.symm).trans upd_same
            have hD8 : H8 D = some (.lst (txts us)) := (bt8 D hpD.symm).trans (by rw [upd_ne hDM]; exact hD7)
            have hL8 : H8 L = some (.lst (partsL.map V.str)) := (bt8 L hpL.symm).trans (by rw [upd_ne hLM]; exact hL7)
            have ho8 : H8 o = some (.lst (txts ws)) := (bt8 o hpo.symm).trans (by rw [upd_ne hoM]; exact ho7)
            have b8 := ((b5.trans (Bar.but bt7)).trans (Bar.new (o := .lst ([(" " : Str), " / ", py].map V.str)) hM)).trans (Bar.but bt8)
            refine ⟨M, _, r2, _, rfl, rfl, SqL.of hM8, hv2, _, hD8, ?_, us ++ [pz.cps.toList], ?_, ?_, htu.snoc hpz2.1 hpz2.2, hb8.upd hpD |>.mono (by omega), ?_, ?_, ?_⟩
            · rw [List.length_map, hus]
              exact Nat.lt_of_le_of_lt (show j ≤ 13 by omega) (by decide)
            · rw [upd_same]
              simp
            · rw [List.length_append, hus]
              rfl
            · intro b' o' hb' e'
              rw [upd_ne (fun z => by rw [z, b4.new_none hpD hD] at e'; cases e')]
              exact b8 b' o' hb' e'
            · rw [upd_ne hoD]
              exact ho8
            · rw [upd_ne hLD]
              exact hL8
          · rintro H' ⟨us, hD5, hus, htu, hb5, b5, ho5, hL5⟩
            have htx2 : txts us = (us.map S).map V.str := by rw [List.map_map]; rfl
            refine ⟨_, rfl, .inl ⟨rfl, _, .inl (.inl ho5)⟩, ⟨_, rfl⟩, _, rfl, _, D, us.map S, rfl, rfl, .inl (.inl (.inl (by rw [hD5, htx2]))), ?_, ?_⟩
            · have z := htu.sum
              rw [List.length_map, show ("" : Str).length = 0 by decide +kernel]
              omega
            · obtain ⟨j1, j2⟩ := htu.join (sep := []) (by decide)
              rw [empty_S, join_S]
              refine app b5 ho5 (hb5.mono (by omega)) ?_ j2
              have e0 : ([] : List Nat).length = 0 := rfl
              rw [e0] at j1
              omega
    · rintro σ H' ⟨y5, y6, y7, y8, ws, rfl, ho1, hwl, htx, hbx, br⟩
      have hfs : fm.cps.size ≤ 3 := by simpa using hfl
      have htx2 : txts ws = (ws.map S).map V.str := by rw [List.map_map]; rfl
      refine ⟨⟨_, rfl⟩, _, rfl, _, o, ws.map S, rfl, rfl, .inl (.inl (.inl (by rw [ho1, htx2]))), ?_, ?_⟩
      · have z := htx.sum
        rw [List.length_map]
        have h1 : (" " : Str).length = 1 := by decide +kernel
        rw [h1]
        have h4 : ws.length * 90 ≤ 4 * 90 := Nat.mul_le_mul_right _ (by omega)
        omega
      · obtain ⟨j1, j2⟩ := htx.join (sep := [32]) (by decide)
        rw [blank_S, join_S]
        refine q _ _ ?_ j2 (hbx.mono (by omega)) br
        have h4 : ws.length * (90 + ([32] : List Nat).length) ≤ 4 * 91 := Nat.mul_le_mul_right _ (by omega)
        omega
end
end Law
end
section
set_option Elab.async false
set_option linter.all false
set_option maxRecDepth 100000
set_option maxHeartbeats 4000000
namespace Law
open PySem PySem.Spec PyProof.Rows L2 IK M SX
/-- the signs of a text's words, each word with one more -/
def tot (ws : List (List Nat)) : Nat := (ws.map fun w => w.length + 1).sum
theorem tot_app (a b : List (List Nat)) : tot (a ++ b) = tot a + tot b := by
  unfold tot
  rw [List.map_append, List.sum_append]
theorem tot_one (w : List Nat) : tot [w] = w.length + 1 := by simp [tot]
theorem tot_drop (ws : List (List Nat)) (k : Nat) : tot (ws.drop (k + 1)) ≤ tot (ws.drop k) := by
  cases e : ws.drop k with
  | nil =>
    have : ws.drop (k + 1) = [] := by
      rw [← List.drop_drop (i := 1), e]
      rfl
    rw [this]
    exact Nat.le_refl _
  | cons w r =>
    have : ws.drop (k + 1) = r := by
      rw [← List.drop_drop (i := 1), e]
      rfl
    rw [this]
    show tot r ≤ tot ([w] ++ r)
    rw [tot_app]
    omega
theorem tot_split (ws : List (List Nat)) (k : Nat) : tot (ws.take k) + tot (ws.drop k) = tot ws := by rw [← tot_app, List.take_append_drop]
theorem tot_sum : ∀ ws : List (List Nat), ((ws.map S).map (·.length)).sum + ws.length = tot ws
  | [] => rfl
  | w :: ws => by
    have ih := tot_sum ws
    show (S w).length + ((ws.map S).map (·.length)).sum + (ws.length + 1) = tot ([w] ++ ws)
    rw [tot_app, tot_one, S_len]
    omega
theorem tot_join : ∀ ws : List (List Nat), (TL.joinL [32] ws).length ≤ tot ws
  | [] => Nat.zero_le _
  | [p] => by simp [TL.joinL, tot]
  | p :: q :: r => by
    have ih := tot_join (q :: r)
    show (TL.joinL [32] (p :: q :: r)).length ≤ tot ([p] ++ (q :: r))
    rw [tot_app, tot_one, TL.joinL, List.length_append, List.length_append]
    show p.length + (1 + _) ≤ _
    omega
theorem tot_blanks : ∀ (n : Nat) (l : List Nat), l.length ≤ n → tot (blanks l) = l.length + 1
  | n, l, hn => by
    by_cases h : 32 ∈ l
    · obtain ⟨p, q, e, hp⟩ := split_first h
      subst e
      rw [blanks_some hp]
      have hl : (p ++ 32 :: q).length = p.length + (q.length + 1) := by simp
      cases n with
      | zero => omega
      | succ n =>
        have ih := tot_blanks n q (by omega)
        show tot ([p] ++ blanks q) = _
        rw [tot_app, tot_one, ih, hl]
        omega
    · rw [blanks_none h, tot_one]
theorem cutV_to {l : List V} {i : Nat} (h : i ≤ l.length) : cutV l none (some (i : Int)) = l.take i := by
  unfold cutV
  rw [HT.sIx_none, HT.sIx_nat, Nat.min_eq_left h, List.drop_zero, Nat.sub_zero]
def Asc (l : List Nat) : Prop := ∀ c ∈ l, c < 128
theorem Asc.app {a b : List Nat} (h : Asc a) (k : Asc b) : Asc (a ++ b) := fun c hc => by
  rcases List.mem_append.mp hc with hc | hc
  · exact h c hc
  · exact k c hc
theorem Asc.take {a : List Nat} {n : Nat} (h : Asc a) : Asc (a.take n) := fun c hc => h c (List.mem_of_mem_take hc)
theorem Asc.drop {a : List Nat} {n : Nat} (h : Asc a) : Asc (a.drop n) := fun c hc => h c (List.mem_of_mem_drop hc)
theorem Asc.one {c : Nat} (h : c < 128) : Asc [c] := fun d hd => by
  rcases List.mem_singleton.mp hd with rfl
  exact h
def Ascs (ws : List (List Nat)) : Prop := ∀ w ∈ ws, Asc w
theorem Ascs.app {a b : List (List Nat)} (h : Ascs a) (k : Ascs b) : Ascs (a ++ b) := fun c hc => by
  rcases List.mem_append.mp hc with hc | hc
  · exact h c hc
  · exact k c hc
theorem Ascs.take {a : List (List Nat)} {n : Nat} (h : Ascs a) : Ascs (a.take n) := fun c hc => h c (List.mem_of_mem_take hc)
theorem Ascs.drop {a : List (List Nat)} {n : Nat} (h : Ascs a) : Ascs (a.drop n) := fun c hc => h c (List.mem_of_mem_drop hc)
theorem Ascs.one {w : List Nat} (h : Asc w) : Ascs [w] := fun d hd => by
  rcases List.mem_singleton.mp hd with rfl
  exact h
def new4 : List Str := ["7", "a", "", "undo"]
def new6 : List Str := ["00", "07", "1234567890123", "Open", "go", "led"]
theorem new4_all : ∀ x ∈ new4, x.cps.toList.length ≤ 13 ∧ ∀ c ∈ x.cps.toList, c < 128 := by decide +kernel
theorem new6_all : ∀ x ∈ new6, x.cps.toList.length ≤ 13 ∧ ∀ c ∈ x.cps.toList, c < 128 := by decide +kernel
theorem txts_take {ws : List (List Nat)} {m : Nat} : (txts ws).take m = txts (ws.take m) := List.map_take.symm
theorem txts_drop {ws : List (List Nat)} {m : Nat} : (txts ws).drop m = txts (ws.drop m) := List.map_drop.symm
def signsS : Str := " !\"#$&'()*+,-./0123456789:;<=>?@ABCDEFGHIJKLMNOPQRSTUVWXYZ[\\]^_`abcdefghijklmnopqrstuvwxyz{|}~\n  "
theorem signs_len : signsS.cps.toList.length = 97 := by decide +kernel
theorem signs_all : ∀ c ∈ signsS.cps.toList, c < 128 := by decide +kernel
def spSpoilt : Sp := fun vs H Q _ => ∃ (p : Addr) (c : Nat) (l : List Nat), vs = [.ref p, .str (S l)] ∧ BoxAt H p c ∧ c < 60000 ∧ l.length ≤ 8000 ∧ (∀ c ∈ l, c < 128) ∧
  ∀ (l' : List Nat) H', l'.length ≤ l.length + 20 → (∀ c ∈ l', c < 128) → BoxAt H' p (c + 10) → Bar p H H' → Q (.str (S l')) H'
section
variable {P : Program} {w : World} {K : PySem.W.Frag} {mg : Str → Option Value} {base : Heap}
theorem ok_spoilt {f : Addr} {fd : FuncData} (F : Fun K "_law_spoilt" "_law_spoilt" s__law_spoilt f fd) (B : Blt mg) (DT : Dn P w K mg base CX0 1 "_law_take" ["_law_box_here", "_law_many"] spTake) :
    FnOk P w K mg base CX0 2 f fd ["_law_box_here", "_law_line_here"] spSpoilt := by
  refine F.ok sc__law_spoilt (fun vs H Q E h => ?_) (fun cdv A outer s H vs Q E hr h => ?_)
  · obtain ⟨x, c, l, rfl, _⟩ := h
    rfl
  · obtain ⟨p, c, l, rfl, hp, hc, hl, hch, q⟩ := h
    refine ⟨_, (pss_cons (ps_set (i := 2) sc__law_spoilt.nd rfl (.inl rfl) pe_str)
      (pss_cons (ps_set (i := 3) sc__law_spoilt.nd rfl (.inl rfl) (pe_d DT (hr.mono (by decide)) (by rfl) pass0 (pa_cons (pv 0) (pa_cons pe_int pa_nil))))
      (pss_cons (ps_set (i := 4) sc__law_spoilt.nd rfl (.inl rfl) (pe_d DT (hr.mono (by decide)) (by rfl) pass0 (pa_cons (pv 0) (pa_cons (pe_op op_add (pe_callB call_len_str (by rfl) B.len PySem.boot_len (pa_cons (pv 1) pa_nil)) pe_int) pa_nil))))
      (pss_cons (ps_set (i := 5) sc__law_spoilt.nd rfl (.inl rfl) (pe_ix ix_str (pv 2) (pe_d DT (hr.mono (by decide)) (by rfl) pass0 (pa_cons (pv 0) (pa_cons (pe_callB call_len_str (by rfl) B.len PySem.boot_len (pa_cons (pv 2) pa_nil)) pa_nil))) (fun _ _ => rfl)))
      (pss_cons (ps_set (i := 6) sc__law_spoilt.nd rfl (.inl rfl) (pe_split (pv 1) pe_str))
      (pss_cons (ps_set (i := 7) sc__law_spoilt.nd rfl (.inl rfl) (pe_d DT (hr.mono (by decide)) (by rfl) pass0 (pa_cons (pv 0) (pa_cons (pe_callB call_len_seq (by rfl) B.len PySem.boot_len (pa_cons (pv 6) pa_nil)) pa_nil))))
      (pss_cons (ps_if (pt_cmpR op_eq (pv 3) pe_int (nomark _))
   (pss_one (ps_ret (pe_op op_add_str (pe_op op_add_str (pe_slice sl_str (pv 1) po_none (po_some (pv 4))) (pv 5)) (pe_slice sl_str (pv 1) (po_some (pv 4)) po_none)))) pss_nil)
      (pss_cons (ps_if (pt_cmpR op_eq (pv 3) pe_int (nomark _))
   (pss_one (ps_ret (pe_op op_add_str (pe_slice sl_str (pv 1) po_none (po_some (pv 4))) (pe_slice sl_str (pv 1) (po_some (pe_op op_add (pv 4) pe_int)) po_none)))) pss_nil)
      (pss_cons (ps_if (pt_cmpR op_eq (pv 3) pe_int (nomark _))
   (pss_one (ps_ret (pe_op op_add_str (pe_op op_add_str (pe_slice sl_str (pv 1) po_none (po_some (pv 4))) (pv 5)) (pe_slice sl_str (pv 1) (po_some (pe_op op_add (pv 4) pe_int)) po_none)))) pss_nil)
      (pss_cons (ps_if (pt_cmpR op_eq (pv 3) pe_int (nomark _))
   (pss_one (ps_ret (pe_op op_add_str (pe_op op_add_str (pe_slice sl_str (pv 1) po_none (po_some (pv 4))) (pe_slice sl_str (pv 1) (po_some (pv 4)) (po_some (pe_op op_add (pv 4) pe_int)))) (pe_slice sl_str (pv 1) (po_some (pv 4)) po_none)))) pss_nil)
      (pss_cons (ps_if (pt_cmpR op_eq (pv 3) pe_int (nomark _))
   (pss_one (ps_ret (pe_join pe_str (pe_op op_cat (pe_op op_cat (pe_slice sl_list (pv 6) po_none (po_some (pv 7))) (pe_lst (pa_cons (pe_ix ix_list (pe_lst (pa_cons pe_str (pa_cons pe_str (pa_cons pe_str (pa_cons pe_str pa_nil))))) (pe_op op_mod (pv 4) pe_int) (fun _ _ => rfl)) pa_nil))) (pe_slice sl_list (pv 6) (po_some (pv 7)) po_none))))) pss_nil)
      (pss_cons (ps_if (pt_cmpR op_eq (pv 3) pe_int (nomark _))
   (pss_one (ps_ret (pe_join pe_str (pe_op op_cat (pe_slice sl_list (pv 6) po_none (po_some (pv 7))) (pe_slice sl_list (pv 6) (po_some (pe_op op_add (pv 7) pe_int)) po_none))))) pss_nil)
      (pss_one (ps_ret (pe_join pe_str (pe_op op_cat (pe_op op_cat (pe_slice sl_list (pv 6) po_none (po_some (pv 7))) (pe_lst (pa_cons (pe_ix ix_list (pe_lst (pa_cons pe_str (pa_cons pe_str (pa_cons pe_str (pa_cons pe_str (pa_cons pe_str (pa_cons pe_str pa_nil))))))) (pe_op op_mod (pv 4) pe_int) (fun _ _ => rfl)) pa_nil))) (pe_slice sl_list (pv 6) (po_some (pe_op op_add (pv 7) pe_int)) po_none))))))))))))))))), ?_⟩
    have hz : (S l).length ≤ sizeLine := by rw [S_len]; exact Nat.le_trans hl (by decide)
    have hsl : (S l).length = l.length := S_len l
    refine ⟨_, rfl, p, 7, c, rfl, hp, by omega, by decide, by decide, fun r1 H1 a0 a1 hp1 bt1 => ?_⟩
    have b1 : Bar p H H1 := Bar.but bt1
    refine ⟨_, rfl, _, rfl, _, rfl, hz, _, _, rfl, rfl, p, _, _, rfl, hp1, by omega, by omega, by omega, fun r2 H2 c0 c1 hp2 bt2 => ?_⟩
    have b2 := b1.trans (Bar.but bt2)
    obtain ⟨n, rfl⟩ := Int.eq_ofNat_of_zero_le c0
    have hn : n ≤ l.length := by rw [hsl] at c1; omega
    refine ⟨_, rfl, _, rfl, _, rfl, _, rfl, by decide +kernel, p, _, _, rfl, hp2, by omega, by decide +kernel, by decide +kernel, fun r3 H3 d0 d1 hp3 bt3 => ?_⟩
    have b3 := b2.trans (Bar.but bt3)
    obtain ⟨ch, hch1, hch2⟩ := at_drawn (xs := signsS.cps.toList) d0 d1
    have hch3 := signs_all _ hch2
    refine ⟨_, _, ch, rfl, rfl, by decide +kernel, hch1, ?_⟩
    have esp : (Txt.split (S l) " ").map V.str = txts (blanks l) := by
      rw [blank_S, split_S (by simp) (by decide), List.map_map]
      rfl
    refine ⟨_, rfl, ⟨_, rfl⟩, S l, " ", rfl, rfl, by decide +kernel, (by rw [S_len]; exact Nat.le_trans (Nat.add_le_add_right hl 2) (by decide)), fun a ha => ?_⟩
    rw [esp]
    obtain ⟨hb1, hb2⟩ := blanks_le _ l (Nat.le_refl _)
    have htot := tot_blanks _ l (Nat.le_refl _)
    have hasc : Ascs (blanks l) := fun w hw c hc => hch c ((hb2 w hw).2 c hc)
    have hpa : p ≠ a := fun z => hp3.some (by rw [z]; exact ha)
    have b4 := b3.trans (Bar.new (o := .lst (txts (blanks l))) ha)
    have hp4 := hp3.upd (o := .lst (txts (blanks l))) hpa
    have hA : upd H3 a (.lst (txts (blanks l))) a = some (.lst (txts (blanks l))) := upd_same
    generalize upd H3 a (.lst (txts (blanks l))) = H4 at b4 hp4 hA ⊢
    have hne := List.length_pos_iff.mpr (blanks_ne l)
    generalize blanks l = ws at hA hb1 hb2 htot hasc hne ⊢
    have hlw : (txts ws).length = ws.length := List.length_map ..
    refine ⟨_, rfl, _, rfl, a, _, rfl, .inl (SqL.of hA), p, _, _, rfl, hp4, by omega, by omega, by omega, fun r4 H5 e0 e1 hp5 bt5 => ?_⟩
    have b5 := b4.trans (Bar.but bt5)
    have hA5 : H5 a = some (.lst (txts ws)) := (bt5 a hpa.symm).trans hA
    obtain ⟨m, rfl⟩ := Int.eq_ofNat_of_zero_le e0
    have hm : m < ws.length := by rw [hlw] at e1; omega
    have hpS := hp5.mono (show c + 1 + 1 + 1 + 1 ≤ c + 10 by omega)
    have eT : cutS (S l) none (some (n : Int)) = S (l.take n) := cut_S_to
    have eF : cutS (S l) (some (n : Int)) none = S (l.drop n) := cut_S_from
    have eF1 : cutS (S l) (some ((n : Int) + 1)) none = S (l.drop (n + 1)) := cut_S_from (i := n + 1)
    have eM : cutS (S l) (some (n : Int)) (some ((n : Int) + 1)) = S ((l.drop n).take 1) := by
      have z := cut_S (l := l) (i := n) (j := n + 1) (by omega)
      rw [show n + 1 - n = 1 by omega] at z
      exact z
    have lT : (l.take n).length ≤ n := by rw [List.length_take]; exact Nat.min_le_left _ _
    have lF : (l.drop n).length = l.length - n := List.length_drop
    have lF1 : (l.drop (n + 1)).length ≤ l.length - n := by rw [List.length_drop]; omega
    have lM : ((l.drop n).take 1).length ≤ 1 := by rw [List.length_take]; exact Nat.min_le_left _ _
    have aL : Asc l := hch
    have eC : ({ cps := #[ch] } : Str) = S [ch] := rfl
    have big : ∀ {k : Nat}, k ≤ 20000 → k ≤ sizeLine := fun h => Nat.le_trans h (by decide)
    refine ⟨_, rfl, rfl, _, rfl, ?_⟩
    refine ite2 (fun _ => ?_) (fun _ => ?_)
    · refine ⟨_, rfl, _, rfl, _, rfl, S l, rfl, hz, _, rfl, _, _, rfl, rfl, ?_, _, rfl, _, rfl, _, rfl, S l, rfl, hz, _, _, rfl, rfl, ?_, ?_⟩
      · rw [eT, eC, S_len, S_len]
        exact big (by simp; omega)
      · rw [eT, eC, S_cat, eF, S_len, S_len]
        exact big (by simp; omega)
      · rw [eT, eC, S_cat, eF, S_cat]
        refine q _ _ ?_ ((aL.take.app (Asc.one hch3)).app aL.drop) hpS b5
        rw [List.length_append, List.length_append, lF]
        simp
        omega
    refine ⟨_, rfl, rfl, _, rfl, ?_⟩
    refine ite2 (fun _ => ?_) (fun _ => ?_)
    · refine ⟨_, rfl, _, rfl, _, rfl, S l, rfl, hz, _, rfl, _, rfl, _, _, rfl, rfl, _, rfl, S l, rfl, hz, _, _, rfl, rfl, ?_, ?_⟩
      · rw [eT, eF1, S_len, S_len]
        exact big (by omega)
      · rw [eT, eF1, S_cat]
        refine q _ _ ?_ (aL.take.app aL.drop) hpS b5
        rw [List.length_append]
        omega
    refine ⟨_, rfl, rfl, _, rfl, ?_⟩
    refine ite2 (fun _ => ?_) (fun _ => ?_)
    · refine ⟨_, rfl, _, rfl, _, rfl, S l, rfl, hz, _, rfl, _, _, rfl, rfl, ?_, _, rfl, _, rfl, _, _, rfl, rfl, _, rfl, S l, rfl, hz, _, _, rfl, rfl, ?_, ?_⟩
      · rw [eT, eC, S_len, S_len]
        exact big (by simp; omega)
      · rw [eT, eC, S_cat, eF1, S_len, S_len]
        exact big (by simp; omega)
      · rw [eT, eC, eF1, S_cat, S_cat]
        refine q _ _ ?_ ((aL.take.app (Asc.one hch3)).app aL.drop) hpS b5
        rw [List.length_append, List.length_append]
        have : [ch].length = 1 := rfl
        omega
    refine ⟨_, rfl, rfl, _, rfl, ?_⟩
    refine ite2 (fun _ => ?_) (fun _ => ?_)
    · refine ⟨_, rfl, _, rfl, _, rfl, S l, rfl, hz, _, rfl, _, rfl, _, rfl, _, rfl, _, _, rfl, rfl, _, rfl, S l, rfl, hz, _, _, rfl, rfl, ?_, _, rfl, _, rfl, _, rfl, S l, rfl, hz, _, _, rfl, rfl, ?_, ?_⟩
      · rw [eT, eM, S_len, S_len]
        exact big (by omega)
      · rw [eT, eM, S_cat, eF, S_len, S_len]
        exact big (by simp; omega)
      · rw [eT, eM, eF, S_cat, S_cat]
        refine q _ _ ?_ ((aL.take.app aL.drop.take).app aL.drop) hpS b5
        rw [List.length_append, List.length_append]
        omega
    /- the ways by words -/
    have hS5 : ∀ {H'}, Same H5 H' → SqL K H' a (txts ws) := fun s => .inl (.inl (s _ _ hA5))
    have wT : cutV (txts ws) none (some (m : Int)) = txts (ws.take m) := by
      rw [cutV_to (by rw [hlw]; omega), txts_take]
    have wF : cutV (txts ws) (some (m : Int)) none = txts (ws.drop m) := by
      rw [cutV_from (by rw [hlw]; omega), txts_drop]
    have wF1 : cutV (txts ws) (some ((m : Int) + 1)) none = txts (ws.drop (m + 1)) := by
      have z := cutV_from (l := txts ws) (i := m + 1) (by rw [hlw]; omega)
      rw [show ((m + 1 : Nat) : Int) = (m : Int) + 1 by omega] at z
      rw [z, txts_drop]
    have fin : ∀ {H6 : Hp} {b : Addr} {vs : List (List Nat)}, Same H5 H6 → H6 b = some (.lst (txts vs)) → tot vs ≤ l.length + 20 → Ascs vs → ∃ a p, ∃ ys : List Str, V.str " " = .str a ∧ [V.ref b] = [.ref p] ∧ (SqL K H6 p (ys.map V.str) ∨ SqT K H6 p (ys.map V.str)) ∧
      (ys.map (·.length)).sum + ys.length * a.length ≤ 16777216 ∧ Q (.str (Txt.join a ys)) H6 := by
      intro H6 b vs s6 hb ht hs
      have e2 : txts vs = (vs.map S).map V.str := by rw [List.map_map]; rfl
      refine ⟨_, b, vs.map S, rfl, rfl, .inl (.inl (.inl (by rw [hb, e2]))), ?_, ?_⟩
      · rw [show (" " : Str).length = 1 by decide +kernel, Nat.mul_one, List.length_map, tot_sum]
        omega
      · rw [blank_S, join_S]
        exact q _ _ (Nat.le_trans (tot_join vs) ht) (joinL_all (by decide) hs) (hpS.same s6) (b5.trans (Bar.same s6))
    have hts := tot_split ws m
    have htd := tot_drop ws m
    have sizes : ∀ {vs : List (List Nat)}, tot vs ≤ l.length + 20 → vs.length ≤ 10000 := fun {vs} h => by
      have := tot_sum vs
      omega
    refine ⟨_, rfl, rfl, _, rfl, ?_⟩
    refine ite2 (fun _ => ?_) (fun _ => ?_)
    · refine ⟨⟨_, rfl⟩, _, rfl, _, rfl, _, rfl, a, _, rfl, hS5 (Same.refl _), fun b1 h1 => ?_⟩
      rw [wT]
      have s1 : Same H5 (upd H5 b1 (.lst (txts (ws.take m)))) := same_new h1
      have k1 : upd H5 b1 (.lst (txts (ws.take m))) b1 = some (.lst (txts (ws.take m))) := upd_same
      generalize upd H5 b1 (.lst (txts (ws.take m))) = G1 at s1 k1 ⊢
      refine ⟨Nat.le_of_ble_eq_true rfl, fun b2 h2 => ?_⟩
      have s2 : Same G1 (upd G1 b2 (.lst [V.str "7", V.str "a", V.str "", V.str "undo"])) := same_new h2
      refine ⟨_, rfl, _, _, rfl, rfl, (by show (0 : Int) < 4; decide), ?_⟩
      have k2 : upd G1 b2 (.lst [V.str "7", V.str "a", V.str "", V.str "undo"]) b2 = some (.lst [V.str "7", V.str "a", V.str "", V.str "undo"]) := upd_same
      obtain ⟨v, hv, hvm⟩ := at_drawn (xs := new4.map V.str) (Int.emod_nonneg (n : Int) (show (4 : Int) ≠ 0 by decide)) (Int.emod_lt_of_pos _ (show (0 : Int) < 4 by decide))
      obtain ⟨x, hx, rfl⟩ := List.mem_map.mp hvm
      obtain ⟨hx1, hx2⟩ := new4_all x hx
      refine ⟨b2, _, _, _, rfl, rfl, SqL.of k2, hv, ?_⟩
      have k12 := s2 _ _ k1
      have s12 := s1.trans s2
      generalize upd G1 b2 (.lst [V.str "7", V.str "a", V.str "", V.str "undo"]) = G2 at s12 k12 ⊢
      have ex : V.str x = V.str (S x.cps.toList) := by rw [S_tl]
      refine ⟨Nat.le_of_ble_eq_true rfl, fun b3 h3 => ?_⟩
      have s3 : Same G2 (upd G2 b3 (.lst [.str x])) := same_new h3
      have k3 : upd G2 b3 (.lst [.str x]) b3 = some (.lst (txts [x.cps.toList])) := by rw [upd_same, ex]; rfl
      have k13 := s3 _ _ k12
      have s13 := s12.trans s3
      generalize upd G2 b3 (.lst [.str x]) = G3 at s13 k13 k3 ⊢
      have tT : tot (ws.take m) ≤ l.length + 20 := by omega
      refine ⟨b1, b3, _, _, rfl, rfl, k13, k3, ?_, fun b4 h4 => ?_⟩
      · have := sizes tT
        rw [List.length_map, List.length_map]
        exact Nat.le_trans (Nat.add_le_add_right this _) (show 10000 + 1 ≤ sizeLine by decide)
      have e4 : txts (ws.take m) ++ txts [x.cps.toList] = txts (ws.take m ++ [x.cps.toList]) := by simp
      rw [e4]
      have s4 : Same G3 (upd G3 b4 (.lst (txts (ws.take m ++ [x.cps.toList])))) := same_new h4
      have k4 : upd G3 b4 (.lst (txts (ws.take m ++ [x.cps.toList]))) b4 = some (.lst (txts (ws.take m ++ [x.cps.toList]))) := upd_same
      have s14 := s13.trans s4
      generalize upd G3 b4 (.lst (txts (ws.take m ++ [x.cps.toList]))) = G4 at s14 k4 ⊢
      refine ⟨_, rfl, _, rfl, _, rfl, a, _, rfl, hS5 s14, fun b5' h5 => ?_⟩
      rw [wF]
      have s5 : Same G4 (upd G4 b5' (.lst (txts (ws.drop m)))) := same_new h5
      have k5 : upd G4 b5' (.lst (txts (ws.drop m))) b5' = some (.lst (txts (ws.drop m))) := upd_same
      have k45 := s5 _ _ k4
      have s15 := s14.trans s5
      generalize upd G4 b5' (.lst (txts (ws.drop m))) = G5 at s15 k45 k5 ⊢
      have tA : tot (ws.take m ++ [x.cps.toList]) ≤ l.length + 20 := by rw [tot_app, tot_one]; omega
      refine ⟨b4, b5', _, _, rfl, rfl, k45, k5, ?_, fun b6 h6 => ?_⟩
      · have z1 := sizes tA
        have z2 := sizes (show tot (ws.drop m) ≤ l.length + 20 by omega)
        rw [List.length_map, List.length_map]
        exact Nat.le_trans (Nat.add_le_add z1 z2) (by decide)
      have e6 : txts (ws.take m ++ [x.cps.toList]) ++ txts (ws.drop m) = txts (ws.take m ++ [x.cps.toList] ++ ws.drop m) := by simp
      rw [e6]
      exact fin (s15.trans (same_new h6)) upd_same (by rw [tot_app, tot_app, tot_one]; omega) ((hasc.take.app (Ascs.one hx2)).app hasc.drop)
    refine ⟨_, rfl, rfl, _, rfl, ?_⟩
    refine ite2 (fun _ => ?_) (fun _ => ?_)
    · refine ⟨⟨_, rfl⟩, _, rfl, _, rfl, _, rfl, a, _, rfl, hS5 (Same.refl _), fun b1 h1 => ?_⟩
      rw [wT]
      have s1 : Same H5 (upd H5 b1 (.lst (txts (ws.take m)))) := same_new h1
      have k1 : upd H5 b1 (.lst (txts (ws.take m))) b1 = some (.lst (txts (ws.take m))) := upd_same
      generalize upd H5 b1 (.lst (txts (ws.take m))) = G1 at s1 k1 ⊢
      refine ⟨_, rfl, _, rfl, _, _, rfl, rfl, _, rfl, a, _, rfl, hS5 s1, fun b2 h2 => ?_⟩
      rw [wF1]
      have s2 : Same G1 (upd G1 b2 (.lst (txts (ws.drop (m + 1))))) := same_new h2
      have k2 : upd G1 b2 (.lst (txts (ws.drop (m + 1)))) b2 = some (.lst (txts (ws.drop (m + 1)))) := upd_same
      have k12 := s2 _ _ k1
      have s12 := s1.trans s2
      generalize upd G1 b2 (.lst (txts (ws.drop (m + 1)))) = G2 at s12 k12 k2 ⊢
      refine ⟨b1, b2, _, _, rfl, rfl, k12, k2, ?_, fun b6 h6 => ?_⟩
      · have z1 := sizes (show tot (ws.take m) ≤ l.length + 20 by omega)
        have z2 := sizes (show tot (ws.drop (m + 1)) ≤ l.length + 20 by omega)
        rw [List.length_map, List.length_map]
        exact Nat.le_trans (Nat.add_le_add z1 z2) (by decide)
      have e6 : txts (ws.take m) ++ txts (ws.drop (m + 1)) = txts (ws.take m ++ ws.drop (m + 1)) := by simp
      rw [e6]
      exact fin (s12.trans (same_new h6)) upd_same (by rw [tot_app]; omega) (hasc.take.app hasc.drop)
    · refine ⟨⟨_, rfl⟩, _, rfl, _, rfl, _, rfl, a, _, rfl, hS5 (Same.refl _), fun b1 h1 => ?_⟩
      rw [wT]
      have s1 : Same H5 (upd H5 b1 (.lst (txts (ws.take m)))) := same_new h1
      have k1 : upd H5 b1 (.lst (txts (ws.take m))) b1 = some (.lst (txts (ws.take m))) := upd_same
      generalize upd H5 b1 (.lst (txts (ws.take m))) = G1 at s1 k1 ⊢
      refine ⟨Nat.le_of_ble_eq_true rfl, fun b2 h2 => ?_⟩
      have s2 : Same G1 (upd G1 b2 (.lst [V.str "00", V.str "07", V.str "1234567890123", V.str "Open", V.str "go", V.str "led"])) := same_new h2
      refine ⟨_, rfl, _, _, rfl, rfl, (by show (0 : Int) < 6; decide), ?_⟩
      have k2 : upd G1 b2 (.lst [V.str "00", V.str "07", V.str "1234567890123", V.str "Open", V.str "go", V.str "led"]) b2 = some (.lst [V.str "00", V.str "07", V.str "1234567890123", V.str "Open", V.str "go", V.str "led"]) := upd_same
      obtain ⟨v, hv, hvm⟩ := at_drawn (xs := new6.map V.str) (Int.emod_nonneg (n : Int) (show (6 : Int) ≠ 0 by decide)) (Int.emod_lt_of_pos _ (show (0 : Int) < 6 by decide))
      obtain ⟨x, hx, rfl⟩ := List.mem_map.mp hvm
      obtain ⟨hx1, hx2⟩ := new6_all x hx
      refine ⟨b2, _, _, _, rfl, rfl, SqL.of k2, hv, ?_⟩
      have k12 := s2 _ _ k1
      have s12 := s1.trans s2
      generalize upd G1 b2 (.lst [V.str "00", V.str "07", V.str "1234567890123", V.str "Open", V.str "go", V.str "led"]) = G2 at s12 k12 ⊢
      have ex : V.str x = V.str (S x.cps.toList) := by rw [S_tl]
      refine ⟨Nat.le_of_ble_eq_true rfl, fun b3 h3 => ?_⟩
      have s3 : Same G2 (upd G2 b3 (.lst [.str x])) := same_new h3
      have k3 : upd G2 b3 (.lst [.str x]) b3 = some (.lst (txts [x.cps.toList])) := by rw [upd_same, ex]; rfl
      have k13 := s3 _ _ k12
      have s13 := s12.trans s3
      generalize upd G2 b3 (.lst [.str x]) = G3 at s13 k13 k3 ⊢
      have tT : tot (ws.take m) ≤ l.length + 20 := by omega
      refine ⟨b1, b3, _, _, rfl, rfl, k13, k3, ?_, fun b4 h4 => ?_⟩
      · have := sizes tT
        rw [List.length_map, List.length_map]
        exact Nat.le_trans (Nat.add_le_add_right this _) (show 10000 + 1 ≤ sizeLine by decide)
      have e4 : txts (ws.take m) ++ txts [x.cps.toList] = txts (ws.take m ++ [x.cps.toList]) := by simp
      rw [e4]
      have s4 : Same G3 (upd G3 b4 (.lst (txts (ws.take m ++ [x.cps.toList])))) := same_new h4
      have k4 : upd G3 b4 (.lst (txts (ws.take m ++ [x.cps.toList]))) b4 = some (.lst (txts (ws.take m ++ [x.cps.toList]))) := upd_same
      have s14 := s13.trans s4
      generalize upd G3 b4 (.lst (txts (ws.take m ++ [x.cps.toList]))) = G4 at s14 k4 ⊢
      refine ⟨_, rfl, _, rfl, _, _, rfl, rfl, _, rfl, a, _, rfl, hS5 s14, fun b5' h5 => ?_⟩
      rw [wF1]
      have s5 : Same G4 (upd G4 b5' (.lst (txts (ws.drop (m + 1))))) := same_new h5
      have k5 : upd G4 b5' (.lst (txts (ws.drop (m + 1)))) b5' = some (.lst (txts (ws.drop (m + 1)))) := upd_same
      have k45 := s5 _ _ k4
      have s15 := s14.trans s5
      generalize upd G4 b5' (.lst (txts (ws.drop (m + 1)))) = G5 at s15 k45 k5 ⊢
      have tA : tot (ws.take m ++ [x.cps.toList]) ≤ l.length + 20 := by rw [tot_app, tot_one]; omega
      refine ⟨b4, b5', _, _, rfl, rfl, k45, k5, ?_, fun b6 h6 => ?_⟩
      · have z1 := sizes tA
        have z2 := sizes (show tot (ws.drop (m + 1)) ≤ l.length + 20 by omega)
        rw [List.length_map, List.length_map]
        exact Nat.le_trans (Nat.add_le_add z1 z2) (by decide)
      have e6 : txts (ws.take m ++ [x.cps.toList]) ++ txts (ws.drop (m + 1)) = txts (ws.take m ++ [x.cps.toList] ++ ws.drop (m + 1)) := by simp
      rw [e6]
      exact fin (s15.trans (same_new h6)) upd_same (by rw [tot_app, tot_app, tot_one]; omega) ((hasc.take.app (Ascs.one hx2)).app hasc.drop)
end
end Law
end
section
set_option Elab.async false
set_option linter.all false
set_option maxRecDepth 100000
set_option maxHeartbeats 4000000
/-! what a line is read as: its data, and how that is shown -/
namespace M
open PySem PySem.Spec L2 SX
/-- every sign is one -/
def Ok (x : Str) : Prop := ∀ c ∈ x.cps.toList, c < 0x110000
theorem Ok.app {a b : Str} (h : Ok a) (k : Ok b) : Ok (a ++ b) := by
  intro c hc
  have e : (a ++ b).cps.toList = a.cps.toList ++ b.cps.toList := TL.tl_append a b
  rw [e] at hc
  rcases List.mem_append.mp hc with hc | hc
  · exact h c hc
  · exact k c hc
theorem Ok.of (s : String) : Ok (Str.ofString s) := by
  intro c hc
  rw [Str.ofString_eq_toList] at hc
  obtain ⟨d, _, rfl⟩ := List.mem_map.mp hc
  have := d.valid
  unfold UInt32.isValidChar Nat.isValidChar at this
  show d.val.toNat < _
  omega
theorem Ok.join {sep : Str} (hs : Ok sep) : ∀ {l : List Str}, (∀ x ∈ l, Ok x) → Ok (Str.join sep l)
  | [], _ => fun c hc => nomatch hc
  | [x], h => h x List.mem_cons_self
  | x :: y :: r, h => ((h x List.mem_cons_self).app hs).app (Ok.join hs fun z hz => h z (List.mem_cons_of_mem _ hz))
theorem Ok.from_ : ∀ (ts : List Str) (k : Nat) (acc : Str), Ok acc → (∀ x ∈ ts, Ok x) → Ok (textFrom k acc ts)
  | [], _, _, h, _ => h
  | t :: ts, k, acc, h, ht => Ok.from_ ts (k + 1) _ ((h.app (Ok.of _)).app (ht t List.mem_cons_self)) fun x hx => ht x (List.mem_cons_of_mem _ hx)
theorem Ok.list {ts : List Str} (h : ∀ x ∈ ts, Ok x) : Ok (listText ts) := (Ok.from_ ts 0 _ (Ok.of _) h).app (Ok.of _)
theorem Ok.tuple {ts : List Str} (h : ∀ x ∈ ts, Ok x) : Ok (tupleText ts) := ((Ok.of _).app (Ok.join (Ok.of _) h)).app (Ok.of _)
theorem repr_ok : ∀ q ∈ [34, 39], ∀ c ∈ List.range 128, ∀ d ∈ Builtin.Str.reprChar q c, d < 0x110000 := by decide +kernel
theorem fold_ok {q : Nat} (hq : q ∈ [34, 39]) : ∀ (l : List Nat) (acc : Array Nat), (∀ c ∈ l, c < 128) → (∀ d ∈ acc.toList, d < 0x110000) → ∀ d ∈ (l.foldl (fun out c => out ++ (Builtin.Str.reprChar q c).toArray) acc).toList, d < 0x110000
  | [], acc, _, h => h
  | c :: r, acc, hl, h => by
    refine fold_ok hq r _ (fun d hd => hl d (List.mem_cons_of_mem _ hd)) fun d hd => ?_
    rw [Array.toList_append] at hd
    rcases List.mem_append.mp hd with hd | hd
    · exact h d hd
    · exact repr_ok q hq c (List.mem_range.mpr (hl c List.mem_cons_self)) d hd
theorem Ok.repr {x : Str} (h : ∀ c ∈ x.cps.toList, c < 128) : Ok (reprText x) := by
  have hq : reprQuote x ∈ [34, 39] := by
    unfold reprQuote
    split <;> simp
  have hq2 : reprQuote x < 0x110000 := by
    have z := hq
    simp at z
    omega
  intro d hd
  have e : (reprText x).cps = (x.cps.foldl (fun out c => out ++ (Builtin.Str.reprChar (reprQuote x) c).toArray) #[reprQuote x]).push (reprQuote x) := rfl
  rw [e, Array.toList_push, ← Array.foldl_toList] at hd
  rcases List.mem_append.mp hd with hd | hd
  · refine fold_ok hq _ _ h (fun c hc => ?_) d hd
    rcases List.mem_singleton.mp hc with rfl
    exact hq2
  · rcases List.mem_singleton.mp hd with rfl
    exact hq2
/-! ### the things of a line -/
def Nice (v : V) : Prop := (∃ w : List Nat, v = .str (S w) ∧ w.length ≤ 9000 ∧ ∀ c ∈ w, c < 128) ∨ ∃ n : Nat, v = .int n ∧ n < 1000000000000
theorem digits_lt : ∀ (l : List Nat) (k acc : Nat), (∀ c ∈ l, c ≤ 57) → acc < 10 ^ k → l.foldl (fun acc c => acc * 10 + (c - 48)) acc < 10 ^ (k + l.length)
  | [], k, acc, _, h => h
  | c :: r, k, acc, hl, h => by
    have hc := hl c List.mem_cons_self
    have ih := digits_lt r (k + 1) (acc * 10 + (c - 48)) (fun d hd => hl d (List.mem_cons_of_mem _ hd)) (by
      rw [Nat.pow_succ]
      have : acc + 1 ≤ 10 ^ k := h
      omega)
    rw [List.length_cons, show k + (r.length + 1) = k + 1 + r.length by omega]
    exact ih
theorem num_lt {l : List Nat} (h : isNum l = true) : NumText.digitsVal l < 1000000000000 := by
  unfold isNum at h
  simp only [Bool.and_eq_true, decide_eq_true_eq, List.all_eq_true] at h
  have z := digits_lt l 0 0 (fun c hc => (h.1.2 c hc).2) (by decide)
  have z2 : NumText.digitsVal l < 10 ^ (0 + l.length) := z
  refine Nat.lt_of_lt_of_le z2 ?_
  have : (10 : Nat) ^ (0 + l.length) ≤ 10 ^ 12 := Nat.pow_le_pow_right (by decide) (by omega)
  exact this
theorem items_nice : ∀ {f : List Nat} {ws : List (List Nat)} {vs : List V}, (∀ w ∈ ws, w.length ≤ 9000 ∧ ∀ c ∈ w, c < 128) → items f ws = some vs → ∀ v ∈ vs, Nice v
  | [], _, vs, _, h => by
    cases h
    exact fun _ z => nomatch z
  | s :: f, [], vs, _, h => by
    cases h
    exact fun _ z => nomatch z
  | s :: f, w :: ws, vs, hw, h => by
    have h' : (if s = 110 ∧ isNum w = false then none else (items f ws).map (itemV s w :: ·)) = some vs := h
    by_cases c : s = 110 ∧ isNum w = false
    · rw [if_pos c] at h'
      cases h'
    · rw [if_neg c] at h'
      cases e : items f ws with
      | none => rw [e] at h'; cases h'
      | some a =>
        rw [e] at h'
        cases h'
        intro v hv
        rcases List.mem_cons.mp hv with rfl | hv
        · by_cases hs : s = 110
          · have hn : isNum w = true := by
              cases e : isNum w with
              | true => rfl
              | false => exact absurd ⟨hs, e⟩ c
            exact .inr ⟨_, by rw [itemV, if_pos hs], num_lt hn⟩
          · exact .inl ⟨w, by rw [itemV, if_neg hs], hw w List.mem_cons_self⟩
        · exact items_nice (fun x hx => hw x (List.mem_cons_of_mem _ hx)) e v hv
theorem rows_fine : ∀ (n : Nat) (l : List Nat), l.length ≤ n → (rowsOf l).length ≤ l.length ∧ ∀ c ∈ rowsOf l, c ∈ l ∨ c = 10
  | n, [], _ => by
    unfold rowsOf
    rw [StrLaws.replL_nil]
    exact ⟨Nat.le_refl _, fun c h => nomatch h⟩
  | 0, c :: r, h => absurd h (by simp)
  | n + 1, c :: r, h => by
    have hr : r.length ≤ n := by simpa using h
    by_cases e : (c :: r).take strokes.length = strokes
    · have z := StrLaws.replL_hit (z := [10]) (by decide : strokes ≠ []) e
      have hd : ((c :: r).drop strokes.length).length ≤ n := by
        rw [List.length_drop]
        show r.length + 1 - 3 ≤ n
        omega
      obtain ⟨h1, h2⟩ := rows_fine n _ hd
      have z2 : rowsOf (c :: r) = [10] ++ rowsOf ((c :: r).drop strokes.length) := z
      rw [z2]
      have hl : 3 ≤ (c :: r).length := by
        have := congrArg List.length e
        rw [List.length_take] at this
        have e3 : strokes.length = 3 := rfl
        omega
      refine ⟨?_, fun d hd => ?_⟩
      · rw [List.length_append]
        rw [List.length_drop] at h1
        have e3 : strokes.length = 3 := rfl
        have e1 : ([10] : List Nat).length = 1 := rfl
        omega
      · rcases List.mem_append.mp hd with hd | hd
        · exact .inr (List.mem_singleton.mp hd)
        · rcases h2 d hd with h2 | h2
          · exact .inl (List.mem_of_mem_drop h2)
          · exact .inr h2
    · have z := StrLaws.replL_miss (z := [10]) e
      obtain ⟨h1, h2⟩ := rows_fine n r hr
      have z2 : rowsOf (c :: r) = c :: rowsOf r := z
      rw [z2]
      refine ⟨by simp; omega, fun d hd => ?_⟩
      rcases List.mem_cons.mp hd with rfl | hd
      · exact .inl List.mem_cons_self
      · rcases h2 d hd with h2 | h2
        · exact .inl (List.mem_cons_of_mem _ h2)
        · exact .inr h2
theorem forms_len : ∀ p ∈ lawTab, p.2.cps.toList.length ≤ 3 := by decide +kernel
theorem lawRd_nice {l : List Nat} (hl : l.length ≤ 9000) (hc : ∀ c ∈ l, c < 128) {r : List Nat × List V} (h : lawRd l = some r) : (r.1.length ≤ 9000 ∧ ∀ c ∈ r.1, c < 128) ∧ r.2.length ≤ 3 ∧ ∀ v ∈ r.2, Nice v := by
  unfold lawRd at h
  by_cases h10 : 10 ∈ l
  · rw [if_pos h10] at h
    cases h
  rw [if_neg h10] at h
  obtain ⟨b1, b2⟩ := blanks_le _ l (Nat.le_refl _)
  have bw : ∀ w ∈ blanks l, w.length ≤ 9000 ∧ ∀ c ∈ w, c < 128 := fun w hw => ⟨Nat.le_trans (b2 w hw).1 hl, fun c hcw => hc c ((b2 w hw).2 c hcw)⟩
  cases hb : blanks l with
  | nil => rw [hb] at h; cases h
  | cons w ws =>
    rw [hb] at h bw
    dsimp only at h
    have h1 := bw w List.mem_cons_self
    cases hf : lawForm (S w) with
    | none => rw [hf] at h; cases h
    | some f =>
      rw [hf] at h
      dsimp only at h
      by_cases hR : f = "R"
      · rw [if_pos hR] at h
        by_cases hw : ws = []
        · rw [if_pos hw] at h
          cases h
        · rw [if_neg hw] at h
          cases h
          refine ⟨h1, by simp, fun v hv => ?_⟩
          rcases List.mem_singleton.mp hv with rfl
          obtain ⟨r1, r2⟩ := rows_fine _ (l.drop 5) (Nat.le_refl _)
          refine .inl ⟨_, rfl, by rw [List.length_drop] at r1; omega, fun c hcc => ?_⟩
          rcases r2 c hcc with r2 | r2
          · exact hc c (List.mem_of_mem_drop r2)
          · omega
      · rw [if_neg hR] at h
        by_cases hlw : ws.length = f.cps.toList.length
        · rw [if_pos hlw] at h
          cases hi : items f.cps.toList ws with
          | none => rw [hi] at h; cases h
          | some vs =>
            rw [hi] at h
            cases h
            exact ⟨h1, Nat.le_trans (items_len hi) (forms_len _ (lookup_mem hf)), items_nice (fun x hx => bw x (List.mem_cons_of_mem _ hx)) hi⟩
        · rw [if_neg hlw] at h
          cases h
/-! ### how they are shown -/
theorem log_lt {n : Nat} (h : n < 1000000000000) : n.log2 < 40 := by
  by_cases h0 : n = 0
  · subst h0
    decide
  · exact (Nat.log2_lt h0).mpr (Nat.lt_trans h (by decide))
theorem nice_one {v : V} (h : Nice v) : (toD v).leavesShort 13 = true ∧ (toD v).showable = true ∧ (toD v).hasDict = false ∧ (toD v).depth = 0 ∧ (toD v).weight ≤ 9000 ∧ (toD v).canLay0 = true ∧ Ok (toD v).shown := by
  rcases h with ⟨w, rfl, h1, h2⟩ | ⟨n, rfl, h1⟩
  · refine ⟨?_, rfl, rfl, rfl, ?_, ?_, Ok.repr h2⟩
    · show (w.all fun c => decide (c < 16 ^ 8)) = true
      rw [List.all_eq_true]
      intro c hc
      have := h2 c hc
      exact decide_eq_true (Nat.lt_trans this (by decide))
    · show w.toArray.size ≤ 9000
      simpa using h1
    · show PyData.strOk (S w) = true
      unfold PyData.strOk
      rw [← Array.all_toList, List.all_eq_true]
      intro c hc
      have := h2 c hc
      simp
      omega
  · have hlog := log_lt h1
    refine ⟨?_, ?_, rfl, rfl, ?_, rfl, Ok.of _⟩
    · show decide ((PyData.shown (.int n)).length ≤ 13) = true
      exact decide_eq_true (PyData.shown_int_le2 (by omega) (by omega))
    · show decide ((n : Int).natAbs.log2 < 1920) = true
      refine decide_eq_true ?_
      rw [Int.natAbs_natCast]
      omega
    · show (if (n : Int) == 0 then 0 else (n : Int).natAbs.log2 + 1) ≤ 9000
      rw [Int.natAbs_natCast]
      split <;> omega
theorem nice_all : ∀ {vs : List V}, (∀ v ∈ vs, Nice v) → PyData.leavesShortAll 13 (vs.map toD) = true ∧ PyData.showableAll (vs.map toD) = true ∧ PyData.hasDictAll (vs.map toD) = false ∧ PyData.depthAll (vs.map toD) = 0 ∧ PyData.weightAll (vs.map toD) ≤ vs.length * 9001 ∧ PyData.canLayAll0 (vs.map toD) = true ∧ ∀ x ∈ PyData.shownAll (vs.map toD), Ok x
  | [], _ => ⟨rfl, rfl, rfl, rfl, by simp [PyData.weightAll], rfl, fun x h => nomatch h⟩
  | v :: vs, h => by
    obtain ⟨a1, a2, a3, a4, a5, a6, a7⟩ := nice_one (h v List.mem_cons_self)
    obtain ⟨b1, b2, b3, b4, b5, b6, b7⟩ := nice_all (vs := vs) fun x hx => h x (List.mem_cons_of_mem _ hx)
    rw [List.map_cons]
    refine ⟨?_, ?_, ?_, ?_, ?_, ?_, ?_⟩
    · rw [PyData.leavesShortAll, a1, b1]; rfl
    · rw [PyData.showableAll, a2, b2]; rfl
    · rw [PyData.hasDictAll, a3, b3]; rfl
    · rw [PyData.depthAll, a4, b4]; rfl
    · rw [PyData.weightAll, List.length_cons]
      omega
    · rw [PyData.canLayAll0, a6, b6]; rfl
    · intro x hx
      rw [PyData.shownAll] at hx
      rcases List.mem_cons.mp hx with rfl | hx
      · exact a7
      · exact b7 x hx
theorem resD_fine {r : List Nat × List V} (h1 : r.1.length ≤ 9000 ∧ ∀ c ∈ r.1, c < 128) (h2 : r.2.length ≤ 3) (h3 : ∀ v ∈ r.2, Nice v) :
    (resD r).showable = true ∧ (resD r).hasDict = false ∧ (resD r).depth ≤ 40 ∧ (resD r).shown.length ≤ sizeLine ∧ PyData.strOk (resD r).shown = true := by
  obtain ⟨a1, a2, a3, a4, a5, a6, a7⟩ := nice_one (.inl ⟨r.1, rfl, h1⟩ : Nice (.str (S r.1)))
  obtain ⟨b1, b2, b3, b4, b5, b6, b7⟩ := nice_all h3
  have e : resD r = .tuple [toD (.str (S r.1)), .list (r.2.map toD)] := rfl
  rw [e]
  have w : (PyData.tuple [toD (.str (S r.1)), .list (r.2.map toD)]).weight ≤ 2 ^ 20 := by
    show (toD (.str (S r.1))).weight + 1 + (PyData.weightAll (r.2.map toD) + 1 + 0) ≤ 2 ^ 20
    have : r.2.length * 9001 ≤ 3 * 9001 := Nat.mul_le_mul_right _ h2
    omega
  refine ⟨?_, ?_, ?_, ?_, ?_⟩
  · show ((toD (.str (S r.1))).showable && (PyData.showableAll (r.2.map toD) && true)) = true
    rw [a2, b2]; rfl
  · show ((toD (.str (S r.1))).hasDict || (PyData.hasDictAll (r.2.map toD) || false)) = false
    rw [a3, b3]; rfl
  · show max (toD (.str (S r.1))).depth (max (PyData.depthAll (r.2.map toD) + 1) 0) + 1 ≤ 40
    rw [a4, b4]; decide
  · refine PyData.shown_fits (B := 13) (by decide) (by decide) ?_ w
    show ((toD (.str (S r.1))).leavesShort 13 && (PyData.leavesShortAll 13 (r.2.map toD) && true)) = true
    rw [a1, b1]; rfl
  · have ok : Ok (PyData.tuple [toD (.str (S r.1)), .list (r.2.map toD)]).shown := by
      show Ok (tupleText [(toD (.str (S r.1))).shown, listText (PyData.shownAll (r.2.map toD))])
      refine Ok.tuple fun x hx => ?_
      rcases List.mem_cons.mp hx with rfl | hx
      · exact a7
      · rcases List.mem_singleton.mp hx with rfl
        exact Ok.list b7
    unfold PyData.strOk
    rw [← Array.all_toList, List.all_eq_true]
    intro c hc
    exact decide_eq_true (ok c hc)
end M
end
section
set_option Elab.async false
set_option linter.all false
set_option maxRecDepth 100000
set_option maxHeartbeats 4000000
namespace Law
open PySem PySem.Spec PyProof.Rows L2 IK M SX
/-- x == x, one and the same x: each of the rules -/
def rSelf (K : PySem.W.Frag) : R2 := fun x y H Q => (rEq x y H Q ∨ rEqD K x y H Q) ∨ ((∃ a b kvs, x = .ref a ∧ y = .ref b ∧ H a = some (.dK kvs) ∧ H b = some (.dK kvs) ∧ (kvs.map (·.1)).Nodup ∧ (∀ p ∈ kvs, flatB p.2 = true) ∧ Q (.bl true) H) ∨ rEqX K x y H Q)
/-- what is no text: its isinstance(.., str), its ==, its isinstance(.., bool) -/
def Odd (K : PySem.W.Frag) (H : Hp) (x : V) : Prop := ∃ b, ∀ H', Same H H' → OddStr K H' x ∧ (∀ Q : VK, Q (.bl true) H' → rSelf K x x H' Q) ∧ ∀ Q : VK, Q (.bl b) H' → rIsi K [x, .ty "bool"] H' Q ∨ rIsX K [x, .ty "bool"] H' Q
def spFound (K : PySem.W.Frag) : Sp := fun vs H Q _ => ∃ x, vs = [x] ∧ ((Odd K H x ∧ ∀ p H', Same H H' → H p = none → H' p = some (.tup [.str "none", .bl true]) → Q (.ref p) H') ∨ ∃ l, x = .str (S l) ∧ l.length ≤ 9000 ∧ (∀ c ∈ l, c < 128) ∧
  (rd l = none → ∀ p H', Same H H' → H p = none → H' p = some (.tup [.str "none", .bl true]) → Q (.ref p) H') ∧ ∀ r, rd l = some r → ∀ p H', Same H H' → H p = none → H' p = some (.tup [.str "read", .str (resD r).shown]) → Q (.ref p) H')
theorem dp_nice {K : PySem.W.Frag} {H : Hp} : ∀ {vs : List V}, (∀ v ∈ vs, Nice v) → DpAll K H vs (vs.map toD)
  | [], _ => .nil
  | v :: vs, h => by
    refine .cons ?_ (dp_nice fun x hx => h x (List.mem_cons_of_mem _ hx))
    rcases h v List.mem_cons_self with ⟨w, rfl, _⟩ | ⟨n, rfl, _⟩
    · exact .str _
    · exact .int _
def rIsA (K : PySem.W.Frag) : List V → Hp → VK → Prop := fun xs H Q => rIsi K xs H Q ∨ rIsX K xs H Q
theorem call_isA {X : Cx} : CallR X (.builtin "isinstance") (rIsA X.K) := call_alt call_isi call_isX
theorem op_self {X : Cx} (hu : X.A.units + 64 < cLine) : OpR X (compareOp .Eq) (rSelf X.K) := op_alt (op_alt op_eq (op_eqD hu)) (op_alt (op_eq_dict (by omega)) (op_eqX (by omega)))
theorem read_use {K : PySem.W.Frag} {CN : Addr} {H : Hp} {x : V} {Q : VK} {E : XK} {bad : Prop} (hb : bad → raised CN x H E) (h : (OddStr K H x ∧ bad) ∨ ∃ l, x = .str (S l) ∧ l.length ≤ 9000 ∧ (rd l = none → bad) ∧
    ∀ r, rd l = some r → ∀ p q H', Same H H' → H p = none → H q = none → p ≠ q → H' p = some (.tup [.str (S r.1), .ref q]) → H' q = some (.lst r.2) → Q (.ref p) H') : spRead K CN [x] H Q E := by
  refine ⟨x, rfl, ?_⟩
  rcases h with ⟨h1, h2⟩ | ⟨l, h1, h2, h3, h4⟩
  · exact .inl ⟨h1, hb h2⟩
  · exact .inr ⟨l, h1, h2, fun n => hb (h3 n), h4⟩
theorem isi_str {K : PySem.W.Frag} {H : Hp} {x : Str} {Q : VK} (q : Q (.bl false) H) : rIsA K [.str x, .ty "bool"] H Q := .inl ⟨_, _, _, _, false, rfl, .ty "bool", .base (.str _), kit_ty (by decide +kernel), q⟩
section
variable {P : Program} {w : World} {K : PySem.W.Frag} {mg : Str → Option Value} {base : Heap}
theorem ok_found {f CN CI : Addr} {fd : FuncData} (F : Fun K "_law_found" "_law_found" s__law_found f fd) (B : Blt mg) (DR : Dn P w K mg base (L2.CX P w) 3 "read_line" ["line"] (spRead K CN)) (aN : mg "NoLine" = some (.ref CN)) (aI : mg "IceError" = some (.ref CI))
    (ex1 : PySem.W.exmOne K (.ref CN) (.ref CN) = some true) (xf : XfC K CN) (nf : PySem.W.findIn K (.ref CN) "found" = some none) :
    FnG P w K mg base CX0 4 f fd ["_law_line_here"] (spFound K) := by
  refine funG F sc__law_found (fun vs H Q E h => ?_) (fun cdv A outer s H vs Q E hr gd h => ?_)
  · obtain ⟨x, rfl, _⟩ := h
    rfl
  · obtain ⟨x, rfl, hx⟩ := h
    obtain ⟨fR, fdR, hmR, hkR, hbR, FR⟩ := DR.ex
    have hr3 : Room 3 _ := hr
    have hu := hr.units
    refine ⟨_, pss_cons (ps_try_cls (tb := fun W => tAsg (tCallS (spRead K CN) (WE W) (tCons (tVar 0) tNil)) (gName 1)) (Wout := fun _ _ _ _ => False) rfl rfl sc__law_found.nd takes0
        (fun W pn xe tk _ => pss_one (ps_set (i := 1) sc__law_found.nd rfl (.inl rfl) (by exact (pe_callS FR hr3 rfl hmR hkR hbR (fun σ => passAt tk σ) (by exact (pa_cons (pv 0) pa_nil))))))
        (.named (i := 2) ⟨rfl, by decide, .inl aN⟩ rfl rfl (fun a oe cls d pn hz hf => pss_one (ps_ret (pe_tup (pa_cons pe_str (pa_cons (pe_and (pe_cmpR (show OpR _ (compareOp .Eq) (rSelf K) from op_self hu) (pe_xf xf nf hz hf (pv 2)) (pv 0) (nomark _))
            (pe_one (pe_cmpR op_eq (pe_callB (show CallR _ (.builtin "isinstance") (rIsA K) from call_isA) (by rfl) B.isi (by decide +kernel) (pa_cons (pe_xf xf nf hz hf (pv 2)) (pa_cons (pe_bltn (v := .ty "bool") (by rfl) B.bool (by decide +kernel) rfl) pa_nil)))
              (pe_callB (show CallR _ (.builtin "isinstance") (rIsA K) from call_isA) (by rfl) B.isi (by decide +kernel) (pa_cons (pv 0) (pa_cons (pe_bltn (v := .ty "bool") (by rfl) B.bool (by decide +kernel) rfl) pa_nil))) (nomark _)))) pa_nil)))))
        (.plain ⟨rfl, by decide, .inl aI⟩ (fun a oe cls d pn hz hf => pss_one (ps_ret (pe_tup (pa_cons pe_str (pa_cons pe_bl pa_nil))))) .nil)))
      (pss_cons (ps_if (PW.pt (pw_or (pt_not (pt_val (pe_callB call_isi (by rfl) B.isi (by decide +kernel) (pa_cons (pv 1) (pa_cons (pe_bltn (v := .ty "tuple") (by rfl) B.tuple (by decide +kernel) rfl) pa_nil)))))
          (pw_or (pt_cmpR op_ne (pe_callB call_len_seq (by rfl) B.len PySem.boot_len (pa_cons (pv 1) pa_nil)) pe_int (nomark _))
          (pw_or1 (pt_not (pt_val (pe_callB call_isi (by rfl) B.isi (by decide +kernel) (pa_cons (pe_ix ix_tup (pv 1) pe_int (fun _ _ => rfl)) (pa_cons (pe_bltn (v := .ty "list") (by rfl) B.list (by decide +kernel) rfl) pa_nil)))))))))
        (pss_one (ps_ret (pe_tup (pa_cons pe_str (pa_cons pe_bl pa_nil))))) pss_nil)
      (pss_cons (ps_set (i := 3) sc__law_found.nd rfl (.inl rfl) (pe_callB (call_repr gd hu) (by rfl) B.repr (by decide +kernel) (pa_cons (pv 1) pa_nil)))
      (pss_cons (ps_expr (pe_bm PySem.F.plainAttrs_list PySem.F.slot_list_append PySem.F.type_list_append mt_append (pe_ix ix_tup (pv 1) pe_int (fun _ _ => rfl)) (pa_cons pe_str pa_nil)))
      (pss_one (ps_ret (pe_tup (pa_cons pe_str (pa_cons (pv 3) pa_nil)))))))), ?_⟩
    obtain ⟨b, hb⟩ : ∃ b, ∀ H', Same H H' → (∀ Q : VK, Q (.bl true) H' → rSelf K x x H' Q) ∧ ∀ Q : VK, Q (.bl b) H' → rIsA K [x, .ty "bool"] H' Q := by
      rcases hx with ⟨⟨b, odd⟩, _⟩ | ⟨l, rfl, _⟩
      · exact ⟨b, fun H' sm => (odd H' sm).2⟩
      · refine ⟨false, fun H' sm => ⟨fun Q q => .inl (.inl ⟨rfl, ?_⟩), fun Q q => isi_str q⟩⟩
        rw [decide_eq_true rfl]
        exact q
    refine ⟨_, rfl, ?_⟩
    dsimp only [tNil]
    refine read_use (bad := ∀ p H', Same H H' → H p = none → H' p = some (.tup [.str "none", .bl true]) → Q (.ref p) H') (fun bad => ?_) ?_
    · intro d H' sm hd hxd
      obtain ⟨o2, o3⟩ := hb H' sm
      refine ⟨true, ex1, fun _ a ha => ?_, fun z => nomatch z⟩
      refine ⟨_, rfl, rfl, rfl, d, _, x, rfl, hxd, rfl, _, rfl, o2 _ ?_⟩
      refine ⟨true, rfl, ?_⟩
      refine iteT ?_
      refine ⟨_, rfl, rfl, rfl, d, _, x, rfl, hxd, rfl, o3 _ ?_⟩
      refine ⟨_, rfl, o3 _ ?_⟩
      refine ⟨rfl, ?_⟩
      rw [decide_eq_true rfl]
      refine ⟨Nat.le_of_ble_eq_true rfl, fun p hp => ?_⟩
      exact bad p _ (sm.trans (same_new hp)) (sm.free hp) upd_same
    rcases hx with ⟨⟨b, odd⟩, qn⟩ | ⟨l, rfl, hl, hc, hnone, hsome⟩
    · exact .inl ⟨(odd H (Same.refl H)).1, qn⟩
    · refine .inr ⟨l, rfl, hl, hnone, fun r hr p q H1 sm hp hq hpq hP hQ => ?_⟩
      obtain ⟨n1, n2, n3⟩ := lawRd_nice hl hc (show lawRd l = some r by rw [lawRd_eq]; exact hr)
      obtain ⟨f1, f2, f3, f4, f5⟩ := resD_fine n1 n2 n3
      refine ⟨_, rfl, ⟨_, _, _, _, true, rfl, .ty "tuple", .base (.tup hP), kit_ty (by decide +kernel), ?_⟩⟩
      refine ⟨true, rfl, ?_⟩
      refine iteF ?_
      refine ⟨_, rfl, p, _, rfl, .inr (.inl (.inl hP)), rfl, _, rfl, ?_⟩
      refine iteF ?_
      refine ⟨_, rfl, p, _, _, _, rfl, rfl, .inl (.inl hP), rfl, ?_⟩
      refine ⟨_, _, _, _, true, rfl, .ty "list", .base (.lst hQ), kit_ty (by decide +kernel), ?_⟩
      refine ⟨true, rfl, ?_⟩
      refine iteF ?_
      refine ⟨_, rfl, p, resD r, rfl, .tup (.inl (.inl hP)) (.cons (.str _) (.cons (.lst (.inl (.inl hQ)) (dp_nice n3)) .nil)), f1, f2, f3, f4, ?_⟩
      have hvl : r.2.length < sizeLine := Nat.lt_of_le_of_lt n2 (by decide)
      refine ⟨_, rfl, p, _, _, _, rfl, rfl, .inl (.inl hP), rfl, .inl ⟨rfl, r.2, .inl (.inl hQ)⟩, q, r.2, _, rfl, rfl, hQ, hvl, ?_⟩
      refine ⟨_, rfl, Nat.le_of_ble_eq_true rfl, fun p2 hp2 => ?_⟩
      have s2 : Same H (upd H1 q (.lst (r.2 ++ [.str "more"]))) := fun b' o' e' => by
        rw [upd_ne (ne_of_none e' hq)]
        exact sm b' o' e'
      exact hsome r hr p2 _ (s2.trans (same_new hp2)) (s2.free hp2) upd_same
end
end Law
end
section
set_option Elab.async false
set_option linter.all false
set_option maxRecDepth 100000
set_option maxHeartbeats 4000000
namespace Law
open PySem PySem.Spec PyProof.Rows L2 IK M SX
def spRight (K : PySem.W.Frag) : Sp := fun vs H Q _ => ∃ x, vs = [x] ∧ (Odd K H x ∨ ∃ l, x = .str (S l) ∧ l.length ≤ 9000 ∧ ∀ c ∈ l, c < 128) ∧ ∀ H', Same H H' → Q (.bl true) H'
theorem Odd.mono {K : PySem.W.Frag} {H H1 : Hp} {x : V} (h : Odd K H x) (s : Same H H1) : Odd K H1 x := by
  obtain ⟨b, h⟩ := h
  exact ⟨b, fun H' s' => h H' (s.trans s')⟩
theorem eqv_two {a : Str} {d : PyData} (h : PyData.eqv d d = true) : PyData.eqv (.tuple [.str a, d]) (.tuple [.str a, d]) = true := by
  simp [PyData.eqv, PyData.eqvAll, h]
theorem shaped_none : SeqAt.shaped (.tuple [.str "none", .bool true]) = true := by decide +kernel
theorem shaped_read {t : Str} (h : PyData.strOk t = true) : SeqAt.shaped (.tuple [.str "read", .str t]) = true := by
  have h2 : PyData.strOk "read" = true := by decide +kernel
  simp [SeqAt.shaped, PyData.canLay0, PyData.canLayAll0, PyData.depth, PyData.depthAll, h, h2]
section
variable {P : Program} {w : World} {K : PySem.W.Frag} {mg : Str → Option Value} {base : Heap}
theorem ok_right {f : Addr} {fd : FuncData} (F : Fun K "_law_right" "_law_right" s__law_right f fd) (B : Blt mg) (DL : Dn P w K mg base CX0 2 "_law_read" ["_law_line_here"] (spLRead K)) (DF : DnG P w K mg base CX0 4 "_law_found" ["_law_line_here"] (spFound K)) :
    FnG P w K mg base CX0 5 f fd ["_law_line_here"] (spRight K) := by
  refine funG F sc__law_right (fun vs H Q E h => ?_) (fun cdv A outer s H vs Q E hr gd h => ?_)
  · obtain ⟨x, rfl, _⟩ := h
    rfl
  · obtain ⟨x, rfl, hx, q⟩ := h
    have hu := hr.units
    refine ⟨_, pss_cons (ps_set (i := 1) sc__law_right.nd rfl (.inl rfl) (pe_d DL (hr.mono (by decide)) (by rfl) pass0 (pa_cons (pv 0) pa_nil)))
      (pss_cons (ps_set (i := 2) sc__law_right.nd rfl (.inl rfl) (pe_tup (pa_cons pe_str (pa_cons pe_bl pa_nil))))
      (pss_cons (ps_if (pt_cmpR op_notN (pv 1) pe_non (nomark _)) (pss_one (ps_set (i := 2) sc__law_right.nd rfl (.inl rfl) (pe_tup (pa_cons pe_str (pa_cons (pe_callB (call_repr gd hu) (by rfl) B.repr (by decide +kernel) (pa_cons (pv 1) pa_nil)) pa_nil))))) pss_nil)
      (pss_one (ps_ret (pe_and (pe_cmpR (op_eqD hu) (pe_dG DF (hr.mono (by decide)) gd (by rfl) pass0 (pa_cons (pv 0) pa_nil)) (pv 2) (nomark _))
        (pe_one (pe_cmpR (op_eqD hu) (pe_dG DF (hr.mono (by decide)) gd (by rfl) pass0 (pa_cons (pv 0) pa_nil)) (pv 2) (nomark _)))))))), ?_⟩
    refine ⟨_, rfl, x, rfl, ?_⟩
    rcases hx with odd | ⟨l, rfl, hl, hc⟩
    · obtain ⟨b, odd'⟩ := id odd
      refine .inl ⟨(odd' H (Same.refl H)).1, fun H1 s1 => ?_⟩
      refine ⟨Nat.le_of_ble_eq_true rfl, fun d hd => ?_⟩
      have s2 : Same H1 (upd H1 d (.tup [.str "none", .bl true])) := same_new hd
      have hd2 : upd H1 d (.tup [.str "none", .bl true]) d = some (.tup [.str "none", .bl true]) := upd_same
      have s12 := s1.trans s2
      generalize upd H1 d (.tup [.str "none", .bl true]) = H2 at hd2 s12 ⊢
      refine ⟨_, rfl, rfl, _, rfl, ?_⟩
      refine iteF ?_
      refine ⟨_, rfl, x, rfl, .inl ⟨odd.mono s12, fun p H3 s3 hp hP => ?_⟩⟩
      have e3 := s3 _ _ hd2
      refine ⟨_, rfl, .tuple [.str "none", .bool true], .tuple [.str "none", .bool true], .tup (.inl (.inl hP)) (.cons (.str _) (.cons (.bl _) .nil)), .tup (.inl (.inl e3)) (.cons (.str _) (.cons (.bl _) .nil)), shaped_none, shaped_none, ?_⟩
      rw [eqv_two rfl]
      refine ⟨true, rfl, ?_⟩
      refine iteT ?_
      refine ⟨_, rfl, x, rfl, .inl ⟨odd.mono (s12.trans s3), fun p' H4 s4 hp' hP' => ?_⟩⟩
      have e4 := s4 _ _ e3
      refine ⟨_, rfl, .tuple [.str "none", .bool true], .tuple [.str "none", .bool true], .tup (.inl (.inl hP')) (.cons (.str _) (.cons (.bl _) .nil)), .tup (.inl (.inl e4)) (.cons (.str _) (.cons (.bl _) .nil)), shaped_none, shaped_none, ?_⟩
      rw [eqv_two rfl]
      exact q _ (s12.trans (s3.trans s4))
    · refine .inr ⟨l, rfl, hl, hc, fun hn H1 s1 => ?_, fun r hr t u H1 s1 ht hu0 htu hT hU => ?_⟩
      · have hn2 : rd l = none := by rw [← lawRd_eq]; exact hn
        refine ⟨Nat.le_of_ble_eq_true rfl, fun d hd => ?_⟩
        have s2 : Same H1 (upd H1 d (.tup [.str "none", .bl true])) := same_new hd
        have hd2 : upd H1 d (.tup [.str "none", .bl true]) d = some (.tup [.str "none", .bl true]) := upd_same
        have s12 := s1.trans s2
        generalize upd H1 d (.tup [.str "none", .bl true]) = H2 at hd2 s12 ⊢
        refine ⟨_, rfl, rfl, _, rfl, ?_⟩
        refine iteF ?_
        refine ⟨_, rfl, _, rfl, .inr ⟨l, rfl, hl, hc, fun _ p H3 s3 hp hP => ?_, fun r hr => by rw [hn2] at hr; cases hr⟩⟩
        have e3 := s3 _ _ hd2
        refine ⟨_, rfl, .tuple [.str "none", .bool true], .tuple [.str "none", .bool true], .tup (.inl (.inl hP)) (.cons (.str _) (.cons (.bl _) .nil)), .tup (.inl (.inl e3)) (.cons (.str _) (.cons (.bl _) .nil)), shaped_none, shaped_none, ?_⟩
        rw [eqv_two rfl]
        refine ⟨true, rfl, ?_⟩
        refine iteT ?_
        refine ⟨_, rfl, _, rfl, .inr ⟨l, rfl, hl, hc, fun _ p' H4 s4 hp' hP' => ?_, fun r hr => by rw [hn2] at hr; cases hr⟩⟩
        have e4 := s4 _ _ e3
        refine ⟨_, rfl, .tuple [.str "none", .bool true], .tuple [.str "none", .bool true], .tup (.inl (.inl hP')) (.cons (.str _) (.cons (.bl _) .nil)), .tup (.inl (.inl e4)) (.cons (.str _) (.cons (.bl _) .nil)), shaped_none, shaped_none, ?_⟩
        rw [eqv_two rfl]
        exact q _ (s12.trans (s3.trans s4))
      · have hr2 : rd l = some r := by rw [← lawRd_eq]; exact hr
        obtain ⟨n1, n2, n3⟩ := lawRd_nice hl hc hr
        obtain ⟨f1, f2, f3, f4, f5⟩ := resD_fine n1 n2 n3
        refine ⟨Nat.le_of_ble_eq_true rfl, fun d hd => ?_⟩
        have s2 : Same H1 (upd H1 d (.tup [.str "none", .bl true])) := same_new hd
        have hT2 := s2 _ _ hT
        have hU2 := s2 _ _ hU
        have s12 := s1.trans s2
        generalize upd H1 d (.tup [.str "none", .bl true]) = H2 at hT2 hU2 s12 ⊢
        refine ⟨_, rfl, rfl, _, rfl, ?_⟩
        refine iteT ?_
        refine ⟨_, rfl, t, resD r, rfl, .tup (.inl (.inl hT2)) (.cons (.str _) (.cons (.lst (.inl (.inl hU2)) (dp_nice n3)) .nil)), f1, f2, f3, f4, ?_⟩
        refine ⟨Nat.le_of_ble_eq_true rfl, fun e he => ?_⟩
        have s3 : Same H2 (upd H2 e (.tup [.str "read", .str (resD r).shown])) := same_new he
        have he3 : upd H2 e (.tup [.str "read", .str (resD r).shown]) e = some (.tup [.str "read", .str (resD r).shown]) := upd_same
        have s13 := s12.trans s3
        generalize upd H2 e (.tup [.str "read", .str (resD r).shown]) = H3 at he3 s13 ⊢
        refine ⟨_, rfl, _, rfl, .inr ⟨l, rfl, hl, hc, (fun hn => by rw [hr2] at hn; cases hn), fun r' hr' p H4 s4 hp hP => ?_⟩⟩
        obtain rfl : r = r' := by rw [hr2] at hr'; exact Option.some.inj hr'
        have e4 := s4 _ _ he3
        refine ⟨_, rfl, .tuple [.str "read", .str (resD r).shown], .tuple [.str "read", .str (resD r).shown], .tup (.inl (.inl hP)) (.cons (.str _) (.cons (.str _) .nil)), .tup (.inl (.inl e4)) (.cons (.str _) (.cons (.str _) .nil)), shaped_read f5, shaped_read f5, ?_⟩
        rw [eqv_two (by simp [PyData.eqv])]
        refine ⟨true, rfl, ?_⟩
        refine iteT ?_
        refine ⟨_, rfl, _, rfl, .inr ⟨l, rfl, hl, hc, (fun hn => by rw [hr2] at hn; cases hn), fun r' hr' p' H5 s5 hp' hP' => ?_⟩⟩
        obtain rfl : r = r' := by rw [hr2] at hr'; exact Option.some.inj hr'
        have e5 := s5 _ _ e4
        refine ⟨_, rfl, .tuple [.str "read", .str (resD r).shown], .tuple [.str "read", .str (resD r).shown], .tup (.inl (.inl hP')) (.cons (.str _) (.cons (.str _) .nil)), .tup (.inl (.inl e5)) (.cons (.str _) (.cons (.str _) .nil)), shaped_read f5, shaped_read f5, ?_⟩
        rw [eqv_two (by simp [PyData.eqv])]
        exact q _ (s13.trans (s4.trans s5))
end
end Law
end
section
set_option Elab.async false
set_option linter.all false
set_option maxRecDepth 100000
set_option maxHeartbeats 4000000
namespace Law
open PySem PySem.Spec PyProof.Rows L2 IK M SX
theorem Bar.fresh {p : Addr} {H H' : Hp} (h : Bar p H H') (hp : H p = none) : Same H H' := fun b o e => h b o (ne_of_none e hp) e
theorem same_bar {p : Addr} {H H1 H2 : Hp} (s : Same H H1) (h : Bar p H1 H2) (hp : H p = none) : Same H H2 := fun b o e => h b o (ne_of_none e hp) (s b o e)
def spLaw (K : PySem.W.Frag) : Sp := fun vs H Q _ => ∃ (a : Addr) (ns : List Int), vs = [.ref a] ∧ SqL K H a (ns.map V.int) ∧ ns.length ≤ 63 ∧ ∀ H', Q (.bl true) H'
/-- things that are no text, as they come -/
theorem odd_scal {K : PySem.W.Frag} {H : Hp} {x : V} {t : Value} (hs : scal x x = true) (ht : ∀ H', TyX K H' x t) {b : Bool} (h1 : PySem.W.kitOne K t (.type "str") = some false) (h2 : PySem.W.kitOne K t (.type "bool") = some b) : Odd K H x := by
  refine ⟨b, fun H' _ => ⟨fun Q q => .inl ⟨_, _, _, _, false, rfl, .ty "str", ht H', h1, q⟩, fun Q q => .inl (.inl ⟨hs, ?_⟩), fun Q q => .inl ⟨_, _, _, _, b, rfl, .ty "bool", ht H', h2, q⟩⟩⟩
  rw [decide_eq_true rfl]
  exact q
theorem odd_list {K : PySem.W.Frag} {H : Hp} {a : Addr} (e : H a = some (.lst [.str "undo"])) : Odd K H (.ref a) := by
  refine ⟨false, fun H' s => ⟨fun Q q => .inl ⟨_, _, _, _, false, rfl, .ty "str", .base (.lst (s _ _ e)), kit_ty (by decide +kernel), q⟩, fun Q q => .inl (.inr ⟨.list [.str "undo"], .list [.str "undo"], .lst (.inl (.inl (s _ _ e))) (.cons (.str _) .nil), .lst (.inl (.inl (s _ _ e))) (.cons (.str _) .nil), by decide +kernel, by decide +kernel, ?_⟩), fun Q q => .inl ⟨_, _, _, _, false, rfl, .ty "bool", .base (.lst (s _ _ e)), kit_ty (by decide +kernel), q⟩⟩⟩
  rw [show PyData.eqv (.list [.str "undo"]) (.list [.str "undo"]) = true by decide +kernel]
  exact q
theorem odd_tup {K : PySem.W.Frag} {H : Hp} {a : Addr} (e : H a = some (.tup [.str "undo"])) : Odd K H (.ref a) := by
  refine ⟨false, fun H' s => ⟨fun Q q => .inl ⟨_, _, _, _, false, rfl, .ty "str", .base (.tup (s _ _ e)), kit_ty (by decide +kernel), q⟩, fun Q q => .inl (.inr ⟨.tuple [.str "undo"], .tuple [.str "undo"], .tup (.inl (.inl (s _ _ e))) (.cons (.str _) .nil), .tup (.inl (.inl (s _ _ e))) (.cons (.str _) .nil), by decide +kernel, by decide +kernel, ?_⟩), fun Q q => .inl ⟨_, _, _, _, false, rfl, .ty "bool", .base (.tup (s _ _ e)), kit_ty (by decide +kernel), q⟩⟩⟩
  rw [show PyData.eqv (.tuple [.str "undo"]) (.tuple [.str "undo"]) = true by decide +kernel]
  exact q
theorem odd_dict {K : PySem.W.Frag} {H : Hp} {a : Addr} (e : H a = some (.dK [])) : Odd K H (.ref a) :=
  ⟨false, fun H' s => ⟨fun Q q => .inl ⟨_, _, _, _, false, rfl, .ty "str", .base (.dK (s _ _ e)), kit_ty (by decide +kernel), q⟩, fun Q q => .inr (.inl ⟨a, a, [], rfl, rfl, s _ _ e, s _ _ e, .nil, (fun _ h => nomatch h), q⟩), fun Q q => .inl ⟨_, _, _, _, false, rfl, .ty "bool", .base (.dK (s _ _ e)), kit_ty (by decide +kernel), q⟩⟩⟩
theorem odd_exc {K : PySem.W.Frag} {H : Hp} {a C d : Addr} (e1 : H a = some (exo a C (some d))) (e2 : H d = some (exd d [("found", .str "undo")])) (ev : PySem.W.ExVal K C) (k1 : PySem.W.kitOne K (.ref C) (.type "str") = some false) (k2 : PySem.W.kitOne K (.ref C) (.type "bool") = some false) : Odd K H (.ref a) := by
  have at_ : ∀ {H'}, Same H H' → ExAt K H' a C d [("found", .str "undo")] := fun s => ⟨s _ _ e1, s _ _ e2, by decide +kernel, ev⟩
  exact ⟨false, fun H' s => ⟨fun Q q => .inr ⟨a, C, d, _, _, _, false, rfl, .ty "str", at_ s, k1, q⟩, fun Q q => .inr (.inr ⟨a, C, d, _, rfl, rfl, at_ s, q⟩), fun Q q => .inr ⟨a, C, d, _, _, _, false, rfl, .ty "bool", at_ s, k2, q⟩⟩⟩
section
variable {P : Program} {w : World} {K : PySem.W.Frag} {mg : Str → Option Value} {base : Heap}
theorem ok_law {f CN : Addr} {fd : FuncData} (F : Fun K "law" "law" s_law f fd) (B : Blt mg) (TN : Err P w K mg base "NoLine" CN "found") (k1 : PySem.W.kitOne K (.ref CN) (.type "str") = some false) (k2 : PySem.W.kitOne K (.ref CN) (.type "bool") = some false)
    (DC : Dn P w K mg base CX0 1 "_law_cell" ["_law_script", "_law_k"] (spCell K)) (DB : Dn P w K mg base CX0 1 "_law_box" ["_law_cell_here"] spBox) (DT : Dn P w K mg base CX0 1 "_law_take" ["_law_box_here", "_law_many"] spTake)
    (DL : Dn P w K mg base CX0 2 "_law_line" ["_law_box_here"] spLine) (DS : Dn P w K mg base CX0 2 "_law_spoilt" ["_law_box_here", "_law_line_here"] spSpoilt) (DR : DnG P w K mg base CX0 5 "_law_right" ["_law_line_here"] (spRight K)) :
    FnG P w K mg base CX0 6 f fd ["_law_script"] (spLaw K) := by
  refine funG F sc_law (fun vs H Q E h => ?_) (fun cdv A outer s H vs Q E hr gd h => ?_)
  · obtain ⟨a, ns, rfl, _⟩ := h
    rfl
  · obtain ⟨a, ns, rfl, hS, hl, q⟩ := h
    have hr2 : Room 2 _ := hr.mono (by decide)
    refine ⟨_, pss_cons (ps_for (passes_of rfl) rfl (pi_range1 (by rfl) B.range (pa_cons (pe_callB (call_max2 rfl) (by rfl) B.max (by decide +kernel) (pa_cons pe_int (pa_cons (pe_callB (call_min2 rfl) (by rfl) B.min (by decide +kernel) (pa_cons pe_int (pa_cons (pe_callB call_len_seq (by rfl) B.len PySem.boot_len (pa_cons (pv 0) pa_nil)) pa_nil))) pa_nil))) pa_nil)) (pg_name (i := 1) sc_law.nd rfl (.inl rfl))
        (pss_cons (ps_set (i := 2) sc_law.nd rfl (.inl rfl) (pe_d DB (hr.mono (by decide)) (by rfl) pass0 (pa_cons (pe_d DC (hr.mono (by decide)) (by rfl) pass0 (pa_cons (pv 0) (pa_cons (pv 1) pa_nil))) pa_nil)))
        (pss_cons (ps_set (i := 3) sc_law.nd rfl (.inl rfl) (pe_ix ix_list (pe_lst (pa_cons pe_int (pa_cons pe_int (pa_cons pe_int (pa_cons pe_int (pa_cons pe_int pa_nil)))))) (pe_d DT (hr.mono (by decide)) (by rfl) pass0 (pa_cons (pv 2) (pa_cons pe_int pa_nil))) (fun _ _ => rfl)))
        (pss_cons (ps_set (i := 4) sc_law.nd rfl (.inl rfl) (pe_d DL (hr.mono (by decide)) (by rfl) pass0 (pa_cons (pv 2) pa_nil)))
        (pss_cons (ps_if (pt_not (pt_val (pe_dG DR (hr.mono (by decide)) gd (by rfl) pass0 (pa_cons (pv 4) pa_nil)))) (pss_one (ps_ret pe_bl)) pss_nil)
        (pss_one (ps_for (passes_of rfl) rfl (pi_range1 (by rfl) B.range (pa_cons (pv 3) pa_nil)) (pg_name (i := 5) sc_law.nd rfl (.inl rfl))
          (pss_cons (ps_set (i := 4) sc_law.nd rfl (.inl rfl) (pe_d DS (hr.mono (by decide)) (by rfl) pass0 (pa_cons (pv 2) (pa_cons (pv 4) pa_nil))))
          (pss_one (ps_if (pt_not (pt_val (pe_dG DR (hr.mono (by decide)) gd (by rfl) pass0 (pa_cons (pv 4) pa_nil)))) (pss_one (ps_ret pe_bl)) pss_nil))))))))))
      (pss_cons (ps_for (passes_of rfl) rfl (pi_list (pe_lst (pa_cons pe_non (pa_cons pe_int (pa_cons pe_bl (pa_cons (pe_lst (pa_cons pe_str pa_nil)) (pa_cons (pe_tup (pa_cons pe_str pa_nil)) (pa_cons pe_dnewK (pa_cons (pe_errV TN hr2 (by rfl) pe_str) (pa_cons pe_str (pa_cons pe_str (pa_cons pe_str (pa_cons pe_str (pa_cons pe_str pa_nil)))))))))))))) (pg_name (i := 6) sc_law.nd rfl (.inl rfl))
        (pss_one (ps_if (pt_not (pt_val (pe_dG DR (hr.mono (by decide)) gd (by rfl) pass0 (pa_cons (pv 6) pa_nil)))) (pss_one (ps_ret pe_bl)) pss_nil)))
      (pss_one (ps_ret pe_bl))), ?_⟩
    have hn : (ns.map V.int).length ≤ 63 := by rw [List.length_map]; exact hl
    generalize hm : (ns.map V.int).length = m at hn
    refine ⟨_, rfl, a, _, rfl, .inl hS, _, _, rfl, _, _, rfl, _, rfl, ?_, ?_, ?_⟩
    · split <;> split <;> omega
    · split <;> split <;> omega
    generalize (if (if ((ns.map V.int).length : Int) < 12 then ((ns.map V.int).length : Int) else 12) > 3 then (if ((ns.map V.int).length : Int) < 12 then ((ns.map V.int).length : Int) else 12) else 3) = J
    refine for_it (walk_range (lo := 0) (n := J.toNat)) (fun i σ H' => ∃ y1 y2 y3 y4 y5, σ = [some (.ref a), y1, y2, y3, y4, y5, none] ∧ Same H H') ?_ (fun _ _ _ _ _ => trivial) ?_ ?_
    · exact ⟨none, none, none, none, none, rfl, Same.refl H⟩
    · rintro i x σ H1' H1 hi ⟨y1, y2, y3, y4, y5, rfl, sm⟩ ⟨rfl, rfl⟩
      refine ⟨_, rfl, _, rfl, a, ns, i, (by dsimp only; rw [Int.zero_add]), sm.seq hS, hl, fun n => ?_⟩
      refine ⟨n, rfl, fun p H2 hp hb bt => ?_⟩
      refine ⟨Nat.le_of_ble_eq_true rfl, fun L hL => ?_⟩
      have hpL : p ≠ L := fun z => hb.some (by rw [z]; exact hL)
      have br3 := (Bar.but bt).trans (Bar.new (o := .lst ([0, 1, 1, 2, 3].map V.int)) hL)
      have hL3 : upd H2 L (.lst ([0, 1, 1, 2, 3].map V.int)) L = some (.lst (([0, 1, 1, 2, 3] : List Int).map V.int)) := upd_same
      refine ⟨_, rfl, p, 5, 0, rfl, hb.upd hpL, by decide, by decide, by decide, fun r H3 r0 r1 hb3 bt3 => ?_⟩
      obtain ⟨v, hv, hvm⟩ := at_drawn (xs := ([0, 1, 1, 2, 3] : List Int).map V.int) r0 r1
      obtain ⟨many, hmany, rfl⟩ := List.mem_map.mp hvm
      have hmany2 : 0 ≤ many ∧ many ≤ 3 := by
        simp at hmany
        omega
      have hL4 := (bt3 L hpL.symm).trans hL3
      have br4 := br3.trans (Bar.but bt3)
      refine ⟨L, _, r, _, rfl, rfl, SqL.of hL4, hv, ?_⟩
      refine ⟨_, rfl, p, 0 + 1, rfl, hb3, by decide, fun l H4 hl4 hc4 hb4 bt4 => ?_⟩
      have br5 := br4.trans bt4
      refine ⟨_, rfl, _, rfl, .inr ⟨l, rfl, by omega, hc4⟩, fun H5 s5 => ?_⟩
      have br6 := br5.trans (Bar.same s5)
      refine ⟨true, rfl, ?_⟩
      refine iteF ?_
      refine ⟨_, rfl, many, rfl, by omega, by omega, ?_⟩
      have hpH : H p = none := sm.free hp
      refine for_it (walk_range (lo := 0) (n := many.toNat)) (fun t σ H' => ∃ y1 y5 l, σ = [some (.ref a), y1, some (.ref p), some (.int many), some (.str (S l)), y5, none] ∧ l.length ≤ 400 + 20 * t ∧ (∀ c ∈ l, c < 128) ∧ BoxAt H' p (101 + 10 * t) ∧ Same H H') ?_ (fun _ _ _ _ _ => trivial) ?_ ?_
      · exact ⟨_, _, l, rfl, hl4, hc4, hb4.same s5, sm.trans (br6.fresh hp)⟩
      · rintro t x σ H1' H1 ht ⟨y1, y5, l, rfl, hlt, hct, hbt, smt⟩ ⟨rfl, rfl⟩
        refine ⟨_, rfl, _, rfl, p, _, l, rfl, hbt, by omega, by omega, hct, fun l' H7 hl7 hc7 hb7 br7 => ?_⟩
        have s7 := same_bar smt br7 hpH
        refine ⟨_, rfl, _, rfl, .inr ⟨l', rfl, by omega, hc7⟩, fun H8 s8 => ?_⟩
        refine ⟨true, rfl, ?_⟩
        refine iteF ?_
        exact ⟨_, _, l', rfl, by omega, hc7, (hb7.same s8).mono (by omega), s7.trans s8⟩
      · rintro σ H' ⟨y1, y5, l, rfl, hlt, hct, hbt, smt⟩
        exact ⟨_, _, _, _, _, rfl, smt⟩
    · rintro σ H1 ⟨y1, y2, y3, y4, y5, rfl, sm⟩
      refine ⟨Nat.le_of_ble_eq_true rfl, fun L hL => ?_⟩
      have l1 : upd H1 L (.lst [.str "undo"]) L = some (.lst [.str "undo"]) := upd_same
      generalize upd H1 L (.lst [.str "undo"]) = H2 at l1 ⊢
      refine ⟨Nat.le_of_ble_eq_true rfl, fun T hT => ?_⟩
      have l2 := (same_new (o := .tup [.str "undo"]) hT) _ _ l1
      have t2 : upd H2 T (.tup [.str "undo"]) T = some (.tup [.str "undo"]) := upd_same
      generalize upd H2 T (.tup [.str "undo"]) = H3 at l2 t2 ⊢
      refine fun D hD => ?_
      have l3 := (same_new (o := .dK []) hD) _ _ l2
      have t3 := (same_new (o := .dK []) hD) _ _ t2
      have d3 : upd H3 D (.dK []) D = some (.dK []) := upd_same
      generalize upd H3 D (.dK []) = H4 at l3 t3 d3 ⊢
      refine fun e d he hd hde => ?_
      have s5 : Same H4 (upd (upd H4 d (exd d [("found", .str "undo")])) e (exo e CN (some d))) := fun b o z => by
        rw [upd_ne (ne_of_none z he), upd_ne (ne_of_none z hd)]
        exact z
      have l5 := s5 _ _ l3
      have t5 := s5 _ _ t3
      have d5 := s5 _ _ d3
      have e5 : upd (upd H4 d (exd d [("found", .str "undo")])) e (exo e CN (some d)) e = some (exo e CN (some d)) := upd_same
      have f5 : upd (upd H4 d (exd d [("found", .str "undo")])) e (exo e CN (some d)) d = some (exd d [("found", .str "undo")]) := by rw [upd_ne hde, upd_same]
      generalize upd (upd H4 d (exd d [("found", .str "undo")])) e (exo e CN (some d)) = H5 at l5 t5 d5 e5 f5 ⊢
      refine ⟨Nat.le_of_ble_eq_true rfl, fun Z hZ => ⟨Z, rfl, ⟨_, .inl (.inl upd_same)⟩, ?_⟩⟩
      have s6 : ∀ o, Same H5 (upd H5 Z o) := fun o => same_new hZ
      have hall : ∀ x ∈ [V.non, .int 7, .bl true, .ref L, .ref T, .ref D, .ref e, .str "", .str " ", .str "open", .str "undo ", .str " undo"], Odd K H5 x ∨ ∃ l, x = .str (S l) ∧ l.length ≤ 9000 ∧ ∀ c ∈ l, c < 128 := by
        have st : ∀ y : Str, y.cps.toList.length ≤ 9000 → (∀ c ∈ y.cps.toList, c < 128) → ∃ l, V.str y = .str (S l) ∧ l.length ≤ 9000 ∧ ∀ c ∈ l, c < 128 := fun y h1 h2 => ⟨y.cps.toList, by rw [S_tl], h1, h2⟩
        intro x hx
        simp only [List.mem_cons, List.not_mem_nil, or_false] at hx
        rcases hx with rfl | rfl | rfl | rfl | rfl | rfl | rfl | rfl | rfl | rfl | rfl | rfl
        · exact .inl (odd_scal (b := false) rfl (fun _ => .base .non) (kit_ty (by decide +kernel)) (kit_ty (by decide +kernel)))
        · exact .inl (odd_scal (b := false) rfl (fun _ => .base (.int _)) (kit_ty (by decide +kernel)) (kit_ty (by decide +kernel)))
        · exact .inl (odd_scal (b := true) rfl (fun _ => .base (.bl _)) (kit_ty (by decide +kernel)) (kit_ty (by decide +kernel)))
        · exact .inl (odd_list l5)
        · exact .inl (odd_tup t5)
        · exact .inl (odd_dict d5)
        · exact .inl (odd_exc e5 f5 TN.ev k1 k2)
        · exact .inr (st _ (by decide +kernel) (by decide +kernel))
        · exact .inr (st _ (by decide +kernel) (by decide +kernel))
        · exact .inr (st _ (by decide +kernel) (by decide +kernel))
        · exact .inr (st _ (by decide +kernel) (by decide +kernel))
        · exact .inr (st _ (by decide +kernel) (by decide +kernel))
      refine for_list (K := K) (a := Z) (xs := [V.non, .int 7, .bl true, .ref L, .ref T, .ref D, .ref e, .str "", .str " ", .str "open", .str "undo ", .str " undo"]) (fun i σ H' => ∃ y6, σ = [some (.ref a), y1, y2, y3, y4, y5, y6] ∧ Same H5 H' ∧ H' Z = some (.lst [V.non, .int 7, .bl true, .ref L, .ref T, .ref D, .ref e, .str "", .str " ", .str "open", .str "undo ", .str " undo"])) ?_ ?_ ?_ ?_
      · exact ⟨none, rfl, s6 _, upd_same⟩
      · rintro i σ H' _ ⟨y6, _, _, h⟩
        exact .inl (.inl h)
      · rintro i x σ H6 hi ⟨y6, rfl, smz, hz⟩
        have hx := hall x (List.mem_of_getElem? hi)
        refine ⟨_, rfl, x, rfl, ?_, fun H7 s7 => ?_⟩
        · rcases hx with o | hx
          · exact .inl (o.mono smz)
          · exact .inr hx
        refine ⟨true, rfl, ?_⟩
        refine iteF ?_
        exact ⟨_, rfl, smz.trans s7, s7 _ _ hz⟩
      · rintro σ H6 ⟨y6, rfl, _, _⟩
        exact q H6
end
end Law
end
section
set_option Elab.async false
set_option linter.all false
set_option maxRecDepth 100000
set_option maxHeartbeats 4000000
namespace Law
open PySem PySem.Spec PyProof.Rows L2 IK M SX
/-- a written dict's places, a table told by place -/
def Ents (P : Params) : List DictEntry → List (Str × Str) → Prop
  | [], [] => True
  | e :: r, p :: q => (∃ t u, e.key = .str p.1 t ∧ e.val = .str p.2 u ∧ e.hash = PyData.keyHash P p.1) ∧ Ents P r q
  | _, _ => False
theorem Ents.keys {P : Params} : ∀ {l : List DictEntry} {q : List (Str × Str)}, Ents P l q → PySem.W.KeysLit P l
  | [], [], _ => True.intro
  | e :: r, p :: q, ⟨⟨t, u, h1, h2, h3⟩, h⟩ => ⟨⟨_, _, h1, h3⟩, h.keys⟩
  | [], _ :: _, h => h.elim
  | _ :: _, [], h => h.elim
theorem Ents.find {P : Params} (x : Str) : ∀ {l : List DictEntry} {q : List (Str × Str)}, Ents P l q → RelO ((q.lookup x).map V.str) ((l.find? fun e => Value.isStrOf x e.key).map (·.val))
  | [], [], _ => True.intro
  | e :: r, p :: q, ⟨⟨t, u, h1, h2, h3⟩, h⟩ => by
    by_cases e1 : x = p.1
    · have h4 : Value.isStrOf x e.key = true := by
        rw [h1, e1]
        simp [Value.isStrOf]
      rw [List.find?_cons_of_pos (p := fun e : DictEntry => Value.isStrOf x e.key) h4]
      obtain ⟨k, v⟩ := p
      have h5 : (x == k) = true := by simpa using e1
      rw [List.lookup, h5]
      exact ⟨u, h2⟩
    · have h4 : ¬ Value.isStrOf x e.key = true := by
        rw [h1]
        simp [Value.isStrOf]
        exact fun z => e1 (by first | exact z | exact z.symm)
      rw [List.find?_cons_of_neg (p := fun e : DictEntry => Value.isStrOf x e.key) h4]
      obtain ⟨k, v⟩ := p
      have h5 : (x == k) = false := by simpa using e1
      rw [List.lookup, h5]
      exact h.find x
  | [], _ :: _, h => h.elim
  | _ :: _, [], h => h.elim
theorem kdic_of {K : PySem.W.Frag} {w : World} {D : Addr} {es : Array DictEntry} {n : Nat} {T : List (Str × Str)} (l : K.lookup D = some ⟨.type "dict", none, .dict es n, #[]⟩) (h : Ents w.params es.toList T) (low : (D == sysModules) = false) : KDic K w D (fun x => (T.lookup x).map V.str) := by
  refine ⟨es, n, l, h.keys, low, fun x => ?_⟩
  have e : findBy Value.isStrOf es x = (es.toList.find? fun e => Value.isStrOf x e.key).map (·.val) := by
    unfold findBy
    rw [← Array.find?_toList]
  rw [e]
  exact h.find x
/-- what is read of an error class over ValueError -/
theorem exm_own {K : PySem.W.Frag} {C : Addr} (h1 : PySem.W.subIn K (.ref C) (.type "BaseException") = some true) (h2 : PySem.W.isClsIn K C = true) (h3 : PySem.W.typeIn K (.ref C) = some (.type "type")) (h4 : PySem.W.subIn K (.ref C) (.ref C) = some true) :
    PySem.W.exmOne K (.ref C) (.ref C) = some true := by
  have e1 : (PySem.W.subIn K (.ref C) (.type "BaseException") == some true) = true := by rw [h1] <;> rfl
  have e2 : ((PySem.W.clsIn K C).isSome && PySem.W.typeIn K (.ref C) == some (.type "type")) = true := by
    have z : (PySem.W.clsIn K C).isSome = true := h2
    rw [z, h3] <;> rfl
  show (if (PySem.W.subIn K (.ref C) (.type "BaseException") == some true) = true then _ else none) = some true
  rw [if_pos e1]
  show (if ((PySem.W.clsIn K C).isSome && PySem.W.typeIn K (.ref C) == some (.type "type")) = true then _ else none) = some true
  rw [if_pos e2]
  exact h4
theorem kit_not {K : PySem.W.Frag} {C : Addr} {T : String} (h1 : PySem.W.kitMeta T = true) (h2 : PySem.W.subIn K (.ref C) (.type T) = some false) : PySem.W.kitOne K (.ref C) (.type T) = some false := by
  unfold PySem.W.kitOne PySem.W.kitCls
  rw [show (Value.ref C == Value.type T) = false from rfl, if_neg Bool.false_ne_true]
  show (if PySem.W.kitMeta T = true then _ else none) = _
  rw [if_pos h1]
  exact h2
end Law
end
section
set_option Elab.async false
open PySem PySem.W PyProof.Rows
set_option maxHeartbeats 0
set_option maxRecDepth 100000
open_top head for PySem.Challenge.rw_iceopened_k83_lines_read
end
section
set_option Elab.async false
set_option linter.all false
set_option maxRecDepth 100000
set_option maxHeartbeats 4000000
namespace Law
open PySem PySem.Spec PyProof.Rows L2 IK M SX
theorem all_mk {P : Program} {w : World} {K : PySem.W.Frag} {h : Heap} {mg : Str → Option Value} {fa : Addr} (X : K.In h) (G : h.Ns mainGlobals mg) (hfa : mg "law" = some (.ref fa))
    {CI CN D : Addr} {nm q : Str} {N : Addr} {bs : List Value} {sn : List Str} {sub : List Value} {ab : Bool} {col : Option Bool} {dd : Option Addr} {m0 m1 m2 m3 m5 : Option Value} {t1 t2 t3 : Tok} {es : Array DictEntry} {nd : Nat}
    {f0 : Addr} {oc0 kV0 dc0 pm0 cd0 ct0 : Value} {od0 an0 : Option Addr} {sl0 : Array (Option Value)}
    {f1 : Addr} {oc1 kV1 dc1 pm1 cd1 ct1 : Value} {od1 an1 : Option Addr} {sl1 : Array (Option Value)}
    {f2 : Addr} {oc2 kV2 dc2 pm2 cd2 ct2 : Value} {od2 an2 : Option Addr} {sl2 : Array (Option Value)}
    {f3 : Addr} {oc3 kV3 dc3 pm3 cd3 ct3 : Value} {od3 an3 : Option Addr} {sl3 : Array (Option Value)}
    {f4 : Addr} {oc4 kV4 dc4 pm4 cd4 ct4 : Value} {od4 an4 : Option Addr} {sl4 : Array (Option Value)}
    {f5 : Addr} {oc5 kV5 dc5 pm5 cd5 ct5 : Value} {od5 an5 : Option Addr} {sl5 : Array (Option Value)}
    {f6 : Addr} {oc6 kV6 dc6 pm6 cd6 ct6 : Value} {od6 an6 : Option Addr} {sl6 : Array (Option Value)}
    {f7 : Addr} {oc7 kV7 dc7 pm7 cd7 ct7 : Value} {od7 an7 : Option Addr} {sl7 : Array (Option Value)}
    {f8 : Addr} {oc8 kV8 dc8 pm8 cd8 ct8 : Value} {od8 an8 : Option Addr} {sl8 : Array (Option Value)}
    {f9 : Addr} {oc9 kV9 dc9 pm9 cd9 ct9 : Value} {od9 an9 : Option Addr} {sl9 : Array (Option Value)}
    {f10 : Addr} {oc10 kV10 dc10 pm10 cd10 ct10 : Value} {od10 an10 : Option Addr} {sl10 : Array (Option Value)}
    {f11 : Addr} {oc11 kV11 dc11 pm11 cd11 ct11 : Value} {od11 an11 : Option Addr} {sl11 : Array (Option Value)}
    {f12 : Addr} {oc12 kV12 dc12 pm12 cd12 ct12 : Value} {od12 an12 : Option Addr} {sl12 : Array (Option Value)}
    {f13 : Addr} {oc13 kV13 dc13 pm13 cd13 ct13 : Value} {od13 an13 : Option Addr} {sl13 : Array (Option Value)}
    {f14 : Addr} {oc14 kV14 dc14 pm14 cd14 ct14 : Value} {od14 an14 : Option Addr} {sl14 : Array (Option Value)}
    {f15 : Addr} {oc15 kV15 dc15 pm15 cd15 ct15 : Value} {od15 an15 : Option Addr} {sl15 : Array (Option Value)}
    (a0 : PySem.W.nsIn K mainGlobals "number_of" = some (some (.ref f0)))
    (l0 : K.lookup f0 = some ⟨oc0, od0, .func (PySem.W.fnOf "number_of" "number_of" (defArgs s_number_of) (defBody s_number_of) (defScope s_number_of) .none kV0 dc0 pm0 an0 cd0 ct0), sl0⟩)
    (c0 : PySem.W.codeIn K cd0 "number_of" = true)
    (k0 : PySem.W.keepIn K (.ref f0) = true)
    (a1 : PySem.W.nsIn K mainGlobals "things_of" = some (some (.ref f1)))
    (l1 : K.lookup f1 = some ⟨oc1, od1, .func (PySem.W.fnOf "things_of" "things_of" (defArgs s_things_of) (defBody s_things_of) (defScope s_things_of) .none kV1 dc1 pm1 an1 cd1 ct1), sl1⟩)
    (c1 : PySem.W.codeIn K cd1 "things_of" = true)
    (k1 : PySem.W.keepIn K (.ref f1) = true)
    (a2 : PySem.W.nsIn K mainGlobals "read_line" = some (some (.ref f2)))
    (l2 : K.lookup f2 = some ⟨oc2, od2, .func (PySem.W.fnOf "read_line" "read_line" (defArgs s_read_line) (defBody s_read_line) (defScope s_read_line) .none kV2 dc2 pm2 an2 cd2 ct2), sl2⟩)
    (c2 : PySem.W.codeIn K cd2 "read_line" = true)
    (k2 : PySem.W.keepIn K (.ref f2) = true)
    (a3 : PySem.W.nsIn K mainGlobals "_law_cell" = some (some (.ref f3)))
    (l3 : K.lookup f3 = some ⟨oc3, od3, .func (PySem.W.fnOf "_law_cell" "_law_cell" (defArgs s__law_cell) (defBody s__law_cell) (defScope s__law_cell) .none kV3 dc3 pm3 an3 cd3 ct3), sl3⟩)
    (c3 : PySem.W.codeIn K cd3 "_law_cell" = true)
    (k3 : PySem.W.keepIn K (.ref f3) = true)
    (a4 : PySem.W.nsIn K mainGlobals "_law_box" = some (some (.ref f4)))
    (l4 : K.lookup f4 = some ⟨oc4, od4, .func (PySem.W.fnOf "_law_box" "_law_box" (defArgs s__law_box) (defBody s__law_box) (defScope s__law_box) .none kV4 dc4 pm4 an4 cd4 ct4), sl4⟩)
    (c4 : PySem.W.codeIn K cd4 "_law_box" = true)
    (k4 : PySem.W.keepIn K (.ref f4) = true)
    (a5 : PySem.W.nsIn K mainGlobals "_law_take" = some (some (.ref f5)))
    (l5 : K.lookup f5 = some ⟨oc5, od5, .func (PySem.W.fnOf "_law_take" "_law_take" (defArgs s__law_take) (defBody s__law_take) (defScope s__law_take) .none kV5 dc5 pm5 an5 cd5 ct5), sl5⟩)
    (c5 : PySem.W.codeIn K cd5 "_law_take" = true)
    (k5 : PySem.W.keepIn K (.ref f5) = true)
    (a6 : PySem.W.nsIn K mainGlobals "_law_form" = some (some (.ref f6)))
    (l6 : K.lookup f6 = some ⟨oc6, od6, .func (PySem.W.fnOf "_law_form" "_law_form" (defArgs s__law_form) (defBody s__law_form) (defScope s__law_form) .none kV6 dc6 pm6 an6 cd6 ct6), sl6⟩)
    (c6 : PySem.W.codeIn K cd6 "_law_form" = true)
    (k6 : PySem.W.keepIn K (.ref f6) = true)
    (a7 : PySem.W.nsIn K mainGlobals "_law_figures" = some (some (.ref f7)))
    (l7 : K.lookup f7 = some ⟨oc7, od7, .func (PySem.W.fnOf "_law_figures" "_law_figures" (defArgs s__law_figures) (defBody s__law_figures) (defScope s__law_figures) .none kV7 dc7 pm7 an7 cd7 ct7), sl7⟩)
    (c7 : PySem.W.codeIn K cd7 "_law_figures" = true)
    (k7 : PySem.W.keepIn K (.ref f7) = true)
    (a8 : PySem.W.nsIn K mainGlobals "_law_rows_of" = some (some (.ref f8)))
    (l8 : K.lookup f8 = some ⟨oc8, od8, .func (PySem.W.fnOf "_law_rows_of" "_law_rows_of" (defArgs s__law_rows_of) (defBody s__law_rows_of) (defScope s__law_rows_of) .none kV8 dc8 pm8 an8 cd8 ct8), sl8⟩)
    (c8 : PySem.W.codeIn K cd8 "_law_rows_of" = true)
    (k8 : PySem.W.keepIn K (.ref f8) = true)
    (a9 : PySem.W.nsIn K mainGlobals "_law_read" = some (some (.ref f9)))
    (l9 : K.lookup f9 = some ⟨oc9, od9, .func (PySem.W.fnOf "_law_read" "_law_read" (defArgs s__law_read) (defBody s__law_read) (defScope s__law_read) .none kV9 dc9 pm9 an9 cd9 ct9), sl9⟩)
    (c9 : PySem.W.codeIn K cd9 "_law_read" = true)
    (k9 : PySem.W.keepIn K (.ref f9) = true)
    (a10 : PySem.W.nsIn K mainGlobals "_law_line" = some (some (.ref f10)))
    (l10 : K.lookup f10 = some ⟨oc10, od10, .func (PySem.W.fnOf "_law_line" "_law_line" (defArgs s__law_line) (defBody s__law_line) (defScope s__law_line) .none kV10 dc10 pm10 an10 cd10 ct10), sl10⟩)
    (c10 : PySem.W.codeIn K cd10 "_law_line" = true)
    (k10 : PySem.W.keepIn K (.ref f10) = true)
    (a11 : PySem.W.nsIn K mainGlobals "_law_spoilt" = some (some (.ref f11)))
    (l11 : K.lookup f11 = some ⟨oc11, od11, .func (PySem.W.fnOf "_law_spoilt" "_law_spoilt" (defArgs s__law_spoilt) (defBody s__law_spoilt) (defScope s__law_spoilt) .none kV11 dc11 pm11 an11 cd11 ct11), sl11⟩)
    (c11 : PySem.W.codeIn K cd11 "_law_spoilt" = true)
    (k11 : PySem.W.keepIn K (.ref f11) = true)
    (a12 : PySem.W.nsIn K mainGlobals "_law_found" = some (some (.ref f12)))
    (l12 : K.lookup f12 = some ⟨oc12, od12, .func (PySem.W.fnOf "_law_found" "_law_found" (defArgs s__law_found) (defBody s__law_found) (defScope s__law_found) .none kV12 dc12 pm12 an12 cd12 ct12), sl12⟩)
    (c12 : PySem.W.codeIn K cd12 "_law_found" = true)
    (k12 : PySem.W.keepIn K (.ref f12) = true)
    (a13 : PySem.W.nsIn K mainGlobals "_law_right" = some (some (.ref f13)))
    (l13 : K.lookup f13 = some ⟨oc13, od13, .func (PySem.W.fnOf "_law_right" "_law_right" (defArgs s__law_right) (defBody s__law_right) (defScope s__law_right) .none kV13 dc13 pm13 an13 cd13 ct13), sl13⟩)
    (c13 : PySem.W.codeIn K cd13 "_law_right" = true)
    (k13 : PySem.W.keepIn K (.ref f13) = true)
    (a14 : PySem.W.nsIn K mainGlobals "law" = some (some (.ref f14)))
    (l14 : K.lookup f14 = some ⟨oc14, od14, .func (PySem.W.fnOf "law" "law" (defArgs s_law) (defBody s_law) (defScope s_law) .none kV14 dc14 pm14 an14 cd14 ct14), sl14⟩)
    (c14 : PySem.W.codeIn K cd14 "law" = true)
    (k14 : PySem.W.keepIn K (.ref f14) = true)
    (aI : PySem.W.nsIn K mainGlobals "IceError" = some (some (.ref CI)))
    (aN : PySem.W.nsIn K mainGlobals "NoLine" = some (some (.ref CN)))
    (a15 : PySem.W.findIn K (.ref CN) "__init__" = some (some (.ref f15)))
    (tI : PySem.W.typeIn K (.ref f15) = some (.type "function"))
    (l15 : K.lookup f15 = some ⟨oc15, od15, .func (PySem.W.fnOf "__init__" "NoLine.__init__" (defArgs s_NoLine___init__) (defBody s_NoLine___init__) (defScope s_NoLine___init__) .none kV15 dc15 pm15 an15 cd15 ct15), sl15⟩)
    (c15 : PySem.W.codeIn K cd15 "NoLine.__init__" = true)
    (k15 : PySem.W.keepIn K (.ref f15) = true)
    (xN : K.lookup CN = some (excClassObj nm q CN N bs [.ref CI, .type "ValueError", .type "Exception", .type "BaseException", .type "object"] true sn sub ab col dd m0 m1 m2 m3 m5 "ValueError.__new__"))
    (sa : PySem.W.findIn K (.ref CN) "__setattr__" = some (some (.builtin "object.__setattr__")))
    (exC : PySem.W.subIn K (.ref CN) (.type "BaseException") = some true)
    (tyC : PySem.W.typeIn K (.ref CN) = some (.type "type"))
    (kC : PySem.W.keepIn K (.ref CN) = true)
    (iC : PySem.W.isClsIn K CN = true)
    (sC : PySem.W.subIn K (.ref CN) (.ref CN) = some true)
    (ga : PySem.W.findIn K (.ref CN) "__getattribute__" = some (some (.builtin "BaseException.__getattribute__")))
    (gg : PySem.W.findIn K (.ref CN) "__getattr__" = some none)
    (ca : PySem.W.findIn K (.ref CN) "__class__" = some (some (.builtin "object.__class__")))
    (cg : PySem.W.specialIn K (.builtin "object.__class__") "__get__" = some (some (.builtin "getset_descriptor.__get__")))
    (ct : PySem.W.takesIn K (.builtin "object.__class__") = some true)
    (mo : PySem.W.mroIn K CN (.type "object") = some true)
    (eqC : PySem.W.findIn K (.ref CN) "__eq__" = some (some (.builtin "object.__eq__")))
    (nf : PySem.W.findIn K (.ref CN) "found" = some none)
    (hdC : PySem.W.hasDictIn K CN = true)
    (ks : PySem.W.subIn K (.ref CN) (.type "str") = some false)
    (kb : PySem.W.subIn K (.ref CN) (.type "bool") = some false)
    (spI : PySem.W.specialIn K (.ref CI) "__getattribute__" = some (some (.builtin "type.__getattribute__")))
    (rdI : PySem.W.readsIn K CI (.type "type") = true)
    (tyI : PySem.W.typeIn K (.ref CI) = some (.type "type"))
    (fiI : PySem.W.findCls K (.ref CI) (.type "type") "__init__" = some (.val (.builtin "ValueError.__init__")))
    (gF : PySem.W.nsIn K mainGlobals "FIGURES" = some (some (.str "0123456789" t1)))
    (gM : PySem.W.nsIn K mainGlobals "MOST_FIGURES" = some (some (.int 12 t2)))
    (gR : PySem.W.nsIn K mainGlobals "ROWS" = some (some (.str "rows" t3)))
    (gD : PySem.W.nsIn K mainGlobals "FORMS" = some (some (.ref D)))
    (lD : K.lookup D = some ⟨.type "dict", none, .dict es nd, #[]⟩)
    (kD : Ents w.params es.toList formTab)
    (lowD : (D == sysModules) = false)
    (b_isinstance : PySem.W.nsIn K mainGlobals "isinstance" = some none)
    (b_str : PySem.W.nsIn K mainGlobals "str" = some none)
    (b_len : PySem.W.nsIn K mainGlobals "len" = some none)
    (b_all : PySem.W.nsIn K mainGlobals "all" = some none)
    (b_int : PySem.W.nsIn K mainGlobals "int" = some none)
    (b_zip : PySem.W.nsIn K mainGlobals "zip" = some none)
    (b_bool : PySem.W.nsIn K mainGlobals "bool" = some none)
    (b_tuple : PySem.W.nsIn K mainGlobals "tuple" = some none)
    (b_list : PySem.W.nsIn K mainGlobals "list" = some none)
    (b_repr : PySem.W.nsIn K mainGlobals "repr" = some none)
    (b_range : PySem.W.nsIn K mainGlobals "range" = some none)
    (b_max : PySem.W.nsIn K mainGlobals "max" = some none)
    (b_min : PySem.W.nsIn K mainGlobals "min" = some none)
    : ∃ fd : FuncData, (∀ (s : Shared) (u : Value), BindsTo s fd ⟨[u], []⟩ [("_law_script", u)]) ∧ ∀ base : Heap, K.In base → base.Ns mainGlobals mg → FnG P w K mg base CX0 6 fa fd ["_law_script"] (spLaw K) := by
  have e := hfa.symm.trans (PySem.W.mg_of X G a14)
  cases e
  have B : Blt mg := ⟨PySem.W.mg_none_of X G b_isinstance, PySem.W.mg_none_of X G b_str, PySem.W.mg_none_of X G b_len, PySem.W.mg_none_of X G b_all, PySem.W.mg_none_of X G b_int, PySem.W.mg_none_of X G b_zip, PySem.W.mg_none_of X G b_bool, PySem.W.mg_none_of X G b_tuple, PySem.W.mg_none_of X G b_list, PySem.W.mg_none_of X G b_repr, PySem.W.mg_none_of X G b_range, PySem.W.mg_none_of X G b_max, PySem.W.mg_none_of X G b_min⟩
  have F0 := fun_mk (st := s_number_of) l0 c0 k0
  have B0 := F0.binds (ps := ["word"]) fun _ _ _ _ _ _ us hl => match us, hl with | [_], _ => rfl
  have F1 := fun_mk (st := s_things_of) l1 c1 k1
  have B1 := F1.binds (ps := ["form", "words"]) fun _ _ _ _ _ _ us hl => match us, hl with | [_, _], _ => rfl
  have F2 := fun_mk (st := s_read_line) l2 c2 k2
  have B2 := F2.binds (ps := ["line"]) fun _ _ _ _ _ _ us hl => match us, hl with | [_], _ => rfl
  have F3 := fun_mk (st := s__law_cell) l3 c3 k3
  have B3 := F3.binds (ps := ["_law_script", "_law_k"]) fun _ _ _ _ _ _ us hl => match us, hl with | [_, _], _ => rfl
  have F4 := fun_mk (st := s__law_box) l4 c4 k4
  have B4 := F4.binds (ps := ["_law_cell_here"]) fun _ _ _ _ _ _ us hl => match us, hl with | [_], _ => rfl
  have F5 := fun_mk (st := s__law_take) l5 c5 k5
  have B5 := F5.binds (ps := ["_law_box_here", "_law_many"]) fun _ _ _ _ _ _ us hl => match us, hl with | [_, _], _ => rfl
  have F6 := fun_mk (st := s__law_form) l6 c6 k6
  have B6 := F6.binds (ps := ["_law_word"]) fun _ _ _ _ _ _ us hl => match us, hl with | [_], _ => rfl
  have F7 := fun_mk (st := s__law_figures) l7 c7 k7
  have B7 := F7.binds (ps := ["_law_word"]) fun _ _ _ _ _ _ us hl => match us, hl with | [_], _ => rfl
  have F8 := fun_mk (st := s__law_rows_of) l8 c8 k8
  have B8 := F8.binds (ps := ["_law_text"]) fun _ _ _ _ _ _ us hl => match us, hl with | [_], _ => rfl
  have F9 := fun_mk (st := s__law_read) l9 c9 k9
  have B9 := F9.binds (ps := ["_law_line_here"]) fun _ _ _ _ _ _ us hl => match us, hl with | [_], _ => rfl
  have F10 := fun_mk (st := s__law_line) l10 c10 k10
  have B10 := F10.binds (ps := ["_law_box_here"]) fun _ _ _ _ _ _ us hl => match us, hl with | [_], _ => rfl
  have F11 := fun_mk (st := s__law_spoilt) l11 c11 k11
  have B11 := F11.binds (ps := ["_law_box_here", "_law_line_here"]) fun _ _ _ _ _ _ us hl => match us, hl with | [_, _], _ => rfl
  have F12 := fun_mk (st := s__law_found) l12 c12 k12
  have B12 := F12.binds (ps := ["_law_line_here"]) fun _ _ _ _ _ _ us hl => match us, hl with | [_], _ => rfl
  have F13 := fun_mk (st := s__law_right) l13 c13 k13
  have B13 := F13.binds (ps := ["_law_line_here"]) fun _ _ _ _ _ _ us hl => match us, hl with | [_], _ => rfl
  have F14 := fun_mk (st := s_law) l14 c14 k14
  have FI := fun_mk (st := s_NoLine___init__) l15 c15 k15
  have BI := FI.binds (ps := ["self", "found"]) fun _ _ _ _ _ _ us hl => match us, hl with | [_, _], _ => rfl
  have TI : BInit K mg "IceError" CI := ⟨PySem.W.mg_of X G aI, spI, rdI, tyI, fiI⟩
  have ox : OexC K CN := ⟨⟨nm, q, N, bs, _, sn, sub, ab, col, dd, m0, m1, m2, m3, m5, xN, by rfl⟩, sa, exC, tyC, kC⟩
  have ev : PySem.W.ExVal K CN := ⟨ga, gg, exC, iC, ca, cg, ct, mo, eqC⟩
  have xf : XfC K CN := ⟨ga, gg, exC, hdC⟩
  have ex1 := exm_own exC iC tyC sC
  have kF : KDic K w D (fun x => (formOf x).map V.str) := kdic_of lD kD lowD
  refine ⟨PySem.W.fnOf "law" "law" (defArgs s_law) (defBody s_law) (defScope s_law) .none kV14 dc14 pm14 an14 cd14 ct14, fun s u => .of_eq rfl, fun base _ _ => ?_⟩
  have OI := ok_noLine (P := P) (w := w) (base := base) FI TI ox nf
  have TN : Err P w K mg base "NoLine" CN "found" := ⟨ox, ev, nf, hdC, PySem.W.mg_of X G aN, ⟨_, _, a15, tI, OI, BI⟩⟩
  have O0 := ok_num (P := P) (w := w) (mg := mg) (base := base) F0 B ⟨_, PySem.W.mg_of X G gF, ⟨_, rfl⟩⟩ ⟨_, PySem.W.mg_of X G gM, ⟨_, rfl⟩⟩
  have D0 : Dn P w K mg base CX0 1 "number_of" ["word"] spNum := ⟨⟨_, _, PySem.W.mg_of X G a0, k0, B0, O0⟩⟩
  have O1 := ok_things (P := P) (w := w) (mg := mg) (base := base) F1 B D0
  have D1 : Dn P w K mg base CX0 2 "things_of" ["form", "words"] (spThings K) := ⟨⟨_, _, PySem.W.mg_of X G a1, k1, B1, O1⟩⟩
  have O2 := ok_read (P := P) (w := w) (mg := mg) (base := base) F2 B TN D1 ⟨_, PySem.W.mg_of X G gR, ⟨_, rfl⟩⟩ ⟨_, PySem.W.mg_of X G gD, rfl⟩ kF
  have D2 : Dn P w K mg base (L2.CX P w) 3 "read_line" ["line"] (spRead K CN) := ⟨⟨_, _, PySem.W.mg_of X G a2, k2, B2, O2⟩⟩
  have O3 := ok_cell (P := P) (w := w) (mg := mg) (base := base) F3 B.len
  have D3 : Dn P w K mg base CX0 1 "_law_cell" ["_law_script", "_law_k"] (spCell K) := ⟨⟨_, _, PySem.W.mg_of X G a3, k3, B3, O3⟩⟩
  have O4 := ok_box (P := P) (w := w) (mg := mg) (base := base) F4 B.max
  have D4 : Dn P w K mg base CX0 1 "_law_box" ["_law_cell_here"] spBox := ⟨⟨_, _, PySem.W.mg_of X G a4, k4, B4, O4⟩⟩
  have O5 := ok_take (P := P) (w := w) (mg := mg) (base := base) F5
  have D5 : Dn P w K mg base CX0 1 "_law_take" ["_law_box_here", "_law_many"] spTake := ⟨⟨_, _, PySem.W.mg_of X G a5, k5, B5, O5⟩⟩
  have O6 := ok_form (P := P) (w := w) (mg := mg) (base := base) F6
  have D6 : Dn P w K mg base CX0 1 "_law_form" ["_law_word"] spForm := ⟨⟨_, _, PySem.W.mg_of X G a6, k6, B6, O6⟩⟩
  have O7 := ok_fig (P := P) (w := w) (mg := mg) (base := base) F7 B
  have D7 : Dn P w K mg base CX0 1 "_law_figures" ["_law_word"] spFig := ⟨⟨_, _, PySem.W.mg_of X G a7, k7, B7, O7⟩⟩
  have O8 := ok_rows (P := P) (w := w) (mg := mg) (base := base) F8 B
  have D8 : Dn P w K mg base CX0 1 "_law_rows_of" ["_law_text"] spRows := ⟨⟨_, _, PySem.W.mg_of X G a8, k8, B8, O8⟩⟩
  have O9 := ok_lread (P := P) (w := w) (mg := mg) (base := base) F9 B D6 D7 D8
  have D9 : Dn P w K mg base CX0 2 "_law_read" ["_law_line_here"] (spLRead K) := ⟨⟨_, _, PySem.W.mg_of X G a9, k9, B9, O9⟩⟩
  have O10 := ok_line (P := P) (w := w) (mg := mg) (base := base) F10 B D6 D5
  have D10 : Dn P w K mg base CX0 2 "_law_line" ["_law_box_here"] spLine := ⟨⟨_, _, PySem.W.mg_of X G a10, k10, B10, O10⟩⟩
  have O11 := ok_spoilt (P := P) (w := w) (mg := mg) (base := base) F11 B D5
  have D11 : Dn P w K mg base CX0 2 "_law_spoilt" ["_law_box_here", "_law_line_here"] spSpoilt := ⟨⟨_, _, PySem.W.mg_of X G a11, k11, B11, O11⟩⟩
  have O12 := ok_found (P := P) (w := w) (mg := mg) (base := base) F12 B D2 (PySem.W.mg_of X G aN) (PySem.W.mg_of X G aI) ex1 xf nf
  have D12 : DnG P w K mg base CX0 4 "_law_found" ["_law_line_here"] (spFound K) := ⟨⟨_, _, PySem.W.mg_of X G a12, k12, B12, O12⟩⟩
  have O13 := ok_right (P := P) (w := w) (mg := mg) (base := base) F13 B D9 D12
  have D13 : DnG P w K mg base CX0 5 "_law_right" ["_law_line_here"] (spRight K) := ⟨⟨_, _, PySem.W.mg_of X G a13, k13, B13, O13⟩⟩
  exact ok_law (P := P) (w := w) (mg := mg) (base := base) F14 B TN (kit_not (by decide +kernel) ks) (kit_not (by decide +kernel) kb) D3 D4 D5 D10 D11 D13
end Law
open PySem PySem.W PyProof.Rows
set_option maxRecDepth 100000 in
set_option maxHeartbeats 0 in
theorem PySem.Challenge.cw_iceopened_k83_lines_read_holds : PySem.Challenge.rw_iceopened_k83_lines_read.Holds := by
  refine head ?_
  k_fill
  refine IK.walkG (l := PySem.Challenge.rw_iceopened_k83_lines_read) (n := 63) (k := 6) (CX := fun _ => L2.CX0) (sp := fun w => Law.spLaw (head.heap_39 w.params)) (x := "_law_script") rfl (by decide) rfl ⟨rfl, by decide, by decide⟩ (fun w h Y => PySem.W.kIn_of Y) ?F ?S (fun _ _ _ _ _ z => z)
  case F =>
    intro w mg fa h KX G hmg
    refine' Law.all_mk KX G hmg ?a0 ?l0 ?c0 ?k0 ?a1 ?l1 ?c1 ?k1 ?a2 ?l2 ?c2 ?k2 ?a3 ?l3 ?c3 ?k3 ?a4 ?l4 ?c4 ?k4 ?a5 ?l5 ?c5 ?k5 ?a6 ?l6 ?c6 ?k6 ?a7 ?l7 ?c7 ?k7 ?a8 ?l8 ?c8 ?k8 ?a9 ?l9 ?c9 ?k9 ?a10 ?l10 ?c10 ?k10 ?a11 ?l11 ?c11 ?k11 ?a12 ?l12 ?c12 ?k12 ?a13 ?l13 ?c13 ?k13 ?a14 ?l14 ?c14 ?k14 ?aI ?aN ?a15 ?tI ?l15 ?c15 ?k15 ?xN ?sa ?exC ?tyC ?kC ?iC ?sC ?ga ?gg ?ca ?cg ?ct ?mo ?eqC ?nf ?hdC ?ks ?kb ?spI ?rdI ?tyI ?fiI ?gF ?gM ?gR ?gD ?lD ?kD ?lowD ?b_isinstance ?b_str ?b_len ?b_all ?b_int ?b_zip ?b_bool ?b_tuple ?b_list ?b_repr ?b_range ?b_max ?b_min
    case a0 => k_is
    case l0 => k_is
    case c0 => k_is
    case k0 => k_is
    case a1 => k_is
    case l1 => k_is
    case c1 => k_is
    case k1 => k_is
    case a2 => k_is
    case l2 => k_is
    case c2 => k_is
    case k2 => k_is
    case a3 => k_is
    case l3 => k_is
    case c3 => k_is
    case k3 => k_is
    case a4 => k_is
    case l4 => k_is
    case c4 => k_is
    case k4 => k_is
    case a5 => k_is
    case l5 => k_is
    case c5 => k_is
    case k5 => k_is
    case a6 => k_is
    case l6 => k_is
    case c6 => k_is
    case k6 => k_is
    case a7 => k_is
    case l7 => k_is
    case c7 => k_is
    case k7 => k_is
    case a8 => k_is
    case l8 => k_is
    case c8 => k_is
    case k8 => k_is
    case a9 => k_is
    case l9 => k_is
    case c9 => k_is
    case k9 => k_is
    case a10 => k_is
    case l10 => k_is
    case c10 => k_is
    case k10 => k_is
    case a11 => k_is
    case l11 => k_is
    case c11 => k_is
    case k11 => k_is
    case a12 => k_is
    case l12 => k_is
    case c12 => k_is
    case k12 => k_is
    case a13 => k_is
    case l13 => k_is
    case c13 => k_is
    case k13 => k_is
    case a14 => k_is
    case l14 => k_is
    case c14 => k_is
    case k14 => k_is
    case aI => k_is
    case aN => k_is
    case a15 => k_is
    case tI => k_is
    case l15 => k_is
    case c15 => k_is
    case k15 => k_is
    case xN => k_is
    case sa => k_is
    case exC => k_is
    case tyC => k_is
    case kC => k_is
    case iC => k_is
    case sC => first | rfl | k_is
    case ga => k_is
    case gg => k_is
    case ca => k_is
    case cg => k_is
    case ct => k_is
    case mo => k_is
    case eqC => k_is
    case nf => k_is
    case hdC => k_is
    case ks => k_is
    case kb => k_is
    case spI => k_is
    case rdI => k_is
    case tyI => k_is
    case fiI => k_is
    case gF => k_is
    case gM => k_is
    case gR => k_is
    case gD => k_is
    case lD => k_is
    case kD => (repeat' first | exact True.intro | refine ⟨⟨_, _, rfl, rfl, rfl⟩, ?_⟩)
    case lowD => decide
    case b_isinstance => k_is
    case b_str => k_is
    case b_len => k_is
    case b_all => k_is
    case b_int => k_is
    case b_zip => k_is
    case b_bool => k_is
    case b_tuple => k_is
    case b_list => k_is
    case b_repr => k_is
    case b_range => k_is
    case b_max => k_is
    case b_min => k_is
  case S =>
    intro w H a ns hl _ hS
    exact ⟨a, ns, rfl, hS, hl, fun _ => rfl⟩
end
