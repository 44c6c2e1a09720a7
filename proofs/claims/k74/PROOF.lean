import PyProof.Rows.All
import Wide.All
import OpenK.AllK
import Wide.FinOn
import PyProof.ToksMono
import PyProof.ReprRoads
import KE.KDictCopyH
import HandS.ForMost
import HandS.ForExc
import HandS.Walk
import HandS.IsInst
import HandS.ExcInit
import HandS.ExcField
import HandS.ExcIs
import HandS.TryMany
import HandS.Wide
import HandS.ReplaceLit
import HandS.ReplaceList
import HandS.Codes
import HandS.More
import KE.GoesMore
import KE.GoesEnum
import HandS.DeepEq
import HandS.ListEq
import HandS.ListItems
import HandS.WordsDict
import HandS.Finally
import HandS.Conv
import HandS.Sort
import KE.KDictZip
import PySem.Challenge.RW_iceopened_k74_renamed
import HandS.Style
import HandS.TupAny
section
set_option Elab.async false
set_option linter.all false
set_option maxRecDepth 100000
set_option maxHeartbeats 2000000
/-! Own rules, ahead of the law: repr of data, defs that call it, X.__init__(self, text) of an own error class. -/
namespace IK
open PySem PySem.Spec PyProof.Rows L2

/-! ### defs that call repr: promised where no repr runs around them -/
section
variable (P : Program) (w : World) (K : PySem.W.Frag) (mg : Str → Option Value) (base : Heap) (CX : CXT)
/-- the promise sp, at one place A -/
def At (A : Around) (f : Addr) (fd : FuncData) (ps : List Str) (sp : Sp) : Prop :=
  ∀ (outer : List Env) (s : Shared) (H : Hp) (args : Args) (us : List Value) (vs : List V) (Q : VK) (E : XK), Env0 P w K mg base A outer s H →
    BindsTo s fd args (ps.zip us) → Vals vs us → sp vs H Q E → codeAny (model P w) A (.call (.ref f) args) (CR CX outer P w H s Q E) s
structure FnG (k : Nat) (f : Addr) (fd : FuncData) (ps : List Str) (sp : Sp) : Prop where
  len : ∀ vs H Q E, sp vs H Q E → vs.length = ps.length
  run : ∀ A : Around, Room k A → A.guards = some [] → At P w K mg base CX A f fd ps sp
end

section
variable {X : Cx} {CX : CXT} {k : Nat} {f : Addr} {fd : FuncData} {ps : List Str} {sp : Sp} {E : XK}
theorem FnG.go {pins : List (Addr × Obj)} {σ : L2.St} {H : Hp} {s : Shared} {Q : VK} {us : List Value} {vs : List V} (F : FnG X.prog X.w X.K X.mg X.base CX k f fd ps sp) (hr : Room k X.A)
    (gd : X.A.guards = some []) (hb : Binds X.K fd ps []) (hx : Passes CX X E) (I : Inv X pins σ H s) (r : Vals vs us) (h : sp vs H Q E) :
    wpAny (model X.prog X.w) X.A (call (.ref f) us) (EP X pins σ Q) X.xe s := by
  have hl : us.length = ps.length := (Paired.length r).symm.trans (F.len _ _ _ _ h)
  have bd := hb s us I.kIn (by simpa using hl)
  rw [List.append_nil] at bd
  refine wpAny_call (codeAny_mono (F.run X.A hr gd X.stack s H ⟨us, []⟩ us vs Q E I.env0 bd r h) ?_)
  intro r' s' hq
  match r', hq with
  | .error e, hq => exact hx pins σ H s e s' I hq
  | .ok (.ret u), hq => exact I.after hq
/-- f(e, ..) of such a def -/
theorem pe_callG {x : Str} {p pos : Pos} {e : Expr} {es : List Expr} {t : TA} (F : FnG X.prog X.w X.K X.mg X.base CX k f fd ps sp) (hr : Room k X.A) (gd : X.A.guards = some []) (hg : Gl X x) (hm : X.mg x = some (.ref f))
    (hk : PySem.W.keepIn X.K (.ref f) = true) (hb : Binds X.K fd ps []) (hx : Passes CX X E) (ha : PA X (e :: es) t) (hdb : (x == ("__debug__" : Str)) = false := by decide)
    (he : starEach (e :: es) X.env = (false, eval e X.env) :: starEach es X.env := by rfl) (hpl : (backTo pos (starEach es X.env)).any (·.1) = false := by rfl) :
    PE X (.Call (.Name x p) (e :: es) [] pos) (fun σ H Q => t σ H fun vs H1 => sp vs H1 Q E) where
  run := fun pins s σ H Q I h => by
    apply wpAny_Call_Name_kw
    apply ld_glob I hg hm _ hdb
    refine PySem.W.callWith_K (h₀ := X.base) I.ok.mod.kin hk (wpAny_mono (ha.run pos pins s σ H _ I h) ?_ fun _ _ z => z) he hpl
    rintro us s1 ⟨vs, H1, I1, r, q⟩
    exact ⟨I1.kIn, F.go hr gd hb hx I1 r q⟩
end
/-- such a def by its body -/
theorem funG {CX : CXT} {P : Program} {w : World} {K : PySem.W.Frag} {mg : Str → Option Value} {base : Heap} {k : Nat} {f : Addr} {x qual : Str} {st : Stmt} {fd : FuncData} {N ps : List Str} {sp : Sp}
    (F : Fun K x qual st f fd) (S : FnScope N ps (defScope st)) (len : ∀ vs H Q E, sp vs H Q E → vs.length = ps.length)
    (hbody : ∀ (cdv : Value) (A : Around) (outer : List Env) (s : Shared) (H : Hp) (vs : List V) (Q : VK) (E : XK), Room k (A.deeper (envOfC qual (defScope st) s.heap.objs.size f cdv)) → A.guards = some [] → sp vs H Q E →
      ∃ t, PSs (cxOf CX P w K mg base N qual (defScope st) f cdv A outer s H E) (defBody st) t ∧ t { nx := fun _ H' => Q .non H', rt := Q } (start N vs) H) : FnG P w K mg base CX (k + 1) f fd ps sp := by
  obtain ⟨oc, od, kV, doc, pm, an, cdv, ct, osl, e, lk, hcd⟩ := F.ex
  subst e
  refine ⟨len, ?_⟩
  intro A hr gd outer s H args us vs Q E e0 hb r hsp
  have old : ∀ b o, base.get? b = some o → s.heap.get? b = some o := fun b o q => (e0.bs b o q).1
  have KX := e0.mod.kin.keeps old
  refine codeAny_call_function hr.depth (KX _ _ lk) rfl S.co S.gen rfl (PySem.W.codeRec_of KX hcd) (hb _ _ _ _ (wpAny_newFunctionEnv_cells S.kind ?_ ?_))
  · rintro ⟨n, v⟩ hy
    cases S.par n (List.of_mem_zip hy).1 with
    | inl q => exact Or.inl q
    | inr q => exact Or.inr ⟨q, PySem.W.cellsFrom_some _ _ _ (.inl q)⟩
  · intro env he s1 y
    subst he
    refine ⟨(e0.mod.nolimit.keeps old).keeps y.toInCall.keep, codeAny_func ?_⟩
    obtain ⟨t, ht, hq⟩ := hbody cdv A outer s H vs Q E (hr.deeper _) gd hsp
    have I := inv_start (CX := CX) (E := E) S hr.hd e0 (len _ _ _ _ hsp) r y
    apply wpAny_mono (ht.run [] s1 (start N vs) H _ I hq) _ fun _ _ z => z
    intro fl s' hs
    match fl, hs with
    | .ret u, ⟨v, σ', H', J, rv, q⟩ => exact ⟨v, H', J.os, J.bare, J.base, J.hok, rv, q⟩
    | .next, ⟨σ', H', J, q⟩ => exact ⟨V.non, H', J.os, J.bare, J.base, J.hok, rfl, q⟩
    | .brk, ⟨_, _, _, q⟩ => exact False.elim q
    | .cont, ⟨_, _, _, q⟩ => exact False.elim q
end IK
end
section
set_option Elab.async false
set_option linter.all false
set_option maxRecDepth 100000
set_option maxHeartbeats 2000000
namespace IK
open PySem PySem.Spec PyProof.Rows L2

/-! ### the law's own call: its def promised by FnG -/
section
variable {P : Program} {w : World} {K : PySem.W.Frag} {mg mb : Str → Option Value} {CX : CXT} {k : Nat} {fa a : Addr} {fd : FuncData} {x : Str} {sp : Sp} {s₁ : Shared} {vs : List Value} {ns : List Int}
/-- from an abstract heap that tracks at most the script -/
theorem law_core (H : Hp) (KX : K.In s₁.heap) (hns : s₁.heap.Ns mainGlobals mg) (hb : s₁.heap.Ns builtinsNs mb) (hbb : ∀ x : Str, x ≠ "__name__" → mb x = bootBuiltins x) (hlim : s₁.heap.NoLimit) (hg : s₁.gens = #[])
    (hr : Room k callerA) (F : ∀ base : Heap, K.In base → base.Ns mainGlobals mg → FnG P w K mg base CX k fa fd [x] sp) (hbind : ∀ (s : Shared) (u : Value), BindsTo s fd ⟨[u], []⟩ [(x, u)])
    (hsp : sp [.ref a] H (fun v _ => v = .bl true) fun _ _ _ => False) (hCX : ∀ e s', CX [] H s₁ (fun _ _ _ => False) e s' → False) (hO : Only H) (hok : HOk P w H s₁.heap)
    (hd : ∀ b o es ep, s₁.heap.get? b = some o → o.data = .dict es ep → H b = none) (hK : ∀ b o, K.lookup b = some o → H b = none) :
    codeAny (model P w) callerA (.call (.ref fa) ⟨[.ref a], []⟩) (fun r s' => r = .ok (.ret (.bool true)) ∧ OldK s₁.heap s'.heap ∧ s'.os = s₁.os ∧ AllBare s'.gens) s₁ := by
  have ns' : ∀ {b : Addr} {m : Str → Option Value}, s₁.heap.Ns b m → (hidT s₁.heap H).Ns b m := by
    rintro b m ⟨o, es, ep, e, d, r⟩
    exact ⟨o, es, ep, hidT_get e (hd b o es ep e d), d, r⟩
  have kin : K.In (hidT s₁.heap H) := fun b o e => hidT_get (KX b o e) (hK b o e)
  obtain ⟨ml, l1, l2⟩ := hlim
  have M : Mod K mg (hidT s₁.heap H) := { kin := kin, glob := ns' hns, blt := ⟨mb, ns' hb, hbb⟩, nolimit := ⟨ml, ns' l1, l2⟩ }
  have none_in : ∀ b : Addr, b ∉ frs ([] : List Env) := fun b z => List.not_mem_nil z
  have e0 : Env0 P w K mg (hidT s₁.heap H) callerA [] s₁ H := by
    refine ⟨rfl, M, fun b o e => of_hidT e, ?_, trivial, fun b z => (none_in b z).elim, hok, .of_eq hg⟩
    rw [hidT_size]
    exact Nat.le_refl _
  have run := (F _ kin (ns' hns)).run callerA hr rfl [] s₁ H ⟨[.ref a], []⟩ [.ref a] [.ref a] _ _ e0 (hbind s₁ (.ref a)) (.cons rfl .nil) hsp
  apply codeAny_mono run
  intro r s' h
  match r, h with
  | .error e, h => exact (hCX e s' h).elim
  | .ok (.ret u), ⟨v, H', os, bare, un, hok', rv, q⟩ =>
    have q' : v = .bl true := q
    subst q'
    cases rv
    refine ⟨rfl, OldK.of_keep ?_, os, bare⟩
    intro b o e
    rcases hO b with z | ⟨ob, xs, z⟩
    · exact un.keep b o e z (none_in b) List.not_mem_nil
    · have h1 := (hok b _ z).1
      have h2 := (hok' b _ (un.frzs b ob _ z)).1
      rw [e] at h1
      rw [h2, ← h1]
theorem law_callG (KX : K.In s₁.heap) (hns : s₁.heap.Ns mainGlobals mg) (hb : s₁.heap.Ns builtinsNs mb) (hbb : ∀ x : Str, x ≠ "__name__" → mb x = bootBuiltins x) (hlim : s₁.heap.NoLimit) (hg : s₁.gens = #[])
    (ha : s₁.heap.get? a = some { cls := .type "list", data := .seq vs.toArray }) (hi : IntsAre vs ns) (hl : ns.length ≤ sizeLine)
    (hr : Room k callerA) (F : ∀ base : Heap, K.In base → base.Ns mainGlobals mg → FnG P w K mg base CX k fa fd [x] sp) (hbind : ∀ (s : Shared) (u : Value), BindsTo s fd ⟨[u], []⟩ [(x, u)])
    (hsp : ∀ H : Hp, Only H → SqL K H a (ns.map V.int) → sp [.ref a] H (fun v _ => v = .bl true) fun _ _ _ => False) (hCX : ∀ H e s', CX [] H s₁ (fun _ _ _ => False) e s' → False) :
    codeAny (model P w) callerA (.call (.ref fa) ⟨[.ref a], []⟩) (fun r s' => r = .ok (.ret (.bool true)) ∧ OldK s₁.heap s'.heap ∧ s'.os = s₁.os ∧ AllBare s'.gens) s₁ := by
  have rv := vals_ints hi
  have hlen : (ns.map V.int).length ≤ sizeLine := by simpa using hl
  cases hk : K.lookup a with
  | some o =>
    have e : o = { cls := .type "list", data := .seq vs.toArray } := by
      have z := KX a o hk
      rw [ha] at z
      exact (Option.some.inj z).symm
    subst e
    have hq : SqL K (fun _ => none) a (ns.map V.int) := .inr ⟨_, vs.toArray, _, hk, rfl, rfl, rfl, (by rw [List.size_toArray, hi.length]; exact hl), (by simpa using rv)⟩
    have hO : Only (fun _ => none) := fun _ => .inl rfl
    refine law_core (fun _ => none) KX hns hb hbb hlim hg hr F hbind (hsp _ hO hq) (hCX _) hO ?_ (fun _ _ _ _ _ _ => rfl) (fun _ _ _ => rfl)
    intro b u z
    exact absurd z (by simp)
  | none =>
    let H : Hp := fun b => if b = a then some (.frz { cls := .type "list", data := .seq vs.toArray } (.lst (ns.map V.int))) else none
    have Ha : H a = some (.frz { cls := .type "list", data := .seq vs.toArray } (.lst (ns.map V.int))) := if_pos rfl
    have Hn : ∀ b, b ≠ a → H b = none := fun b h => if_neg h
    have hO : Only H := fun b => if h : b = a then .inr ⟨_, _, h ▸ Ha⟩ else .inl (Hn b h)
    refine law_core H KX hns hb hbb hlim hg hr F hbind (hsp _ hO (.inl (.inr ⟨_, Ha⟩))) (hCX _) hO ?_ ?_ ?_
    · intro b u z
      by_cases h : b = a
      · subst h
        rw [Ha] at z
        cases z
        exact ⟨ha, hlen, vs, _, rv, ha⟩
      · rw [Hn b h] at z
        cases z
    · intro b o es ep e d
      by_cases h : b = a
      · subst h
        rw [ha] at e
        cases e
        cases d
      · exact Hn b h
    · intro b o e
      by_cases h : b = a
      · rw [h, hk] at e
        cases e
      · exact Hn b h
end
theorem walkG {l : PySem.W.OpenLaw} {n k : Nat} {q : Program} {loose : List Str} {XP : (Str → Option Value) → Heap → Prop} {YP : World → Heap → Prop} {d : DefRec} {K : Params → PySem.W.Frag} {CX : World → CXT} {sp : World → Sp} {x : Str}
    (hn : l.most = some n) (hn2 : n ≤ sizeLine) (hdf : d.params.defaults = []) (hr : Room k callerA)
    (hY : ∀ (w : World) (h : Heap), YP w h → (K w.params).In h)
    (F : ∀ (w : World) (mg : Str → Option Value) (fa : Addr) (h : Heap), (K w.params).In h → h.Ns mainGlobals mg → mg d.name = some (.ref fa) →
      ∃ fd : FuncData, (∀ (s : Shared) (u : Value), BindsTo s fd ⟨[u], []⟩ [(x, u)]) ∧
        ∀ base : Heap, (K w.params).In base → base.Ns mainGlobals mg → FnG l.prog w (K w.params) mg base (CX w) k fa fd [x] (sp w))
    (hsp : ∀ (w : World) (H : Hp) (a : Addr) (ns : List Int), ns.length ≤ n → Only H → SqL (K w.params) H a (ns.map V.int) → sp w [.ref a] H (fun v _ => v = .bl true) fun _ _ _ => False)
    (hCX : ∀ (w : World) (H : Hp) (s : Shared) (e : Value) (s' : Shared), CX w [] H s (fun _ _ _ => False) e s' → False) :
    PySem.W.WalkO q loose XP YP l.row.toRowW d [] (fun f vs => PySem.call f vs) := by
  apply Att.attach_call hn hdf
  intro w s₀ s₁ mg mb fa o pm cd doc a vs ns G Y ho hd hcd hmg hobj hints hlen hg
  obtain ⟨fd, hb, hF⟩ := F w mg fa _ (hY w _ Y) G.T.g hmg
  refine law_callG (hY w _ Y) G.T.g G.T.b G.T.builtins G.T.nolimit hg hobj hints (Nat.le_trans hlen hn2) hr hF hb ?_ ?_
  · exact fun H hO hS => hsp w H a ns hlen hO hS
  · exact fun H e s' => hCX w H s₁ e s'
end IK
end
section
set_option Elab.async false
set_option linter.all false
set_option maxRecDepth 100000
set_option maxHeartbeats 2000000
namespace IK
open PySem PySem.Spec PyProof.Rows L2

/-! ### repr of a list or tuple of data -/
def rRepr (K : PySem.W.Frag) : List V → Hp → VK → Prop := fun xs H Q => ∃ (a : Addr) (d : PyData), xs = [.ref a] ∧ Dp K H (.ref a) d ∧ d.showable = true ∧ d.hasDict = false ∧ d.depth ≤ 40 ∧ d.shown.length ≤ sizeLine ∧ Q (.str d.shown) H
theorem call_repr {X : Cx} (gd : X.A.guards = some []) (hu : X.A.units + 64 < cLine) : CallR X (.builtin "repr") (rRepr X.K) := by
  intro pins s σ H xs us Q I r h
  obtain ⟨a, d, rfl, hd, sh, nd, dp, sz, q⟩ := h
  cases r with
  | cons r1 r2 =>
    cases r2
    cases r1
    obtain ⟨as, R⟩ := Dp.reads I d (.ref a) (.ref a) hd rfl
    refine repr_of_reads' R sh (PyData.noDict_hsm nd) gd (by omega) (fun b o e => e) (fun h' u tk hk => ?_) sz
    exact ⟨.str d.shown, H, I.kept (t' := tk) hk, ⟨u, rfl⟩, q⟩

/-! ### X.__init__(self, ..) of an own error class over ValueError: nothing of it is told -/
/-- the class at B as the text names it: its __init__ is ValueError's own -/
structure BInit (K : PySem.W.Frag) (mg : Str → Option Value) (x : Str) (B : Addr) : Prop where
  at_ : mg x = some (.ref B)
  sp : PySem.W.specialIn K (.ref B) "__getattribute__" = some (some (.builtin "type.__getattribute__"))
  rd : PySem.W.readsIn K B (.type "type") = true
  ty : PySem.W.typeIn K (.ref B) = some (.type "type")
  fi : PySem.W.findCls K (.ref B) (.type "type") "__init__" = some (.val (.builtin "ValueError.__init__"))

/-- reads C.m of a class of one's own: a value that the class itself hands out -/
theorem getcls_ok {X : Cx} {pins : List (Addr × Obj)} {σ : L2.St} {H : Hp} {s : Shared} {B : Addr} {m : Str} {u : Value} {pl : Sem Bool} {Q : Value × List Value → Shared → Prop} {E : Value → Shared → Prop} {A : Around} (I : Inv X pins σ H s)
    (sp : PySem.W.specialIn X.K (.ref B) "__getattribute__" = some (some (.builtin "type.__getattribute__"))) (rd : PySem.W.readsIn X.K B (.type "type") = true) (fi : PySem.W.findCls X.K (.ref B) (.type "type") m = some (.val u))
    (hh : PySem.W.handedIn u = true) (h : ∀ s', Inv X pins σ H s' → Q (u, []) s') : wpAny (model X.prog X.w) A (getMethod (.ref B) m pl) Q E s :=
  PySem.W.method_cls I.kIn sp (PySem.W.cls_value I.kIn rd fi hh (h _ (I.tok _)))

section
variable {X : Cx} {e : Expr} {es : List Expr} {ta : TA} {x : Str} {B : Addr} {p1 p2 pos : Pos}
/-- X.__init__(self, ..) within the __init__ of an error class under X -/
theorem pe_binit {pl : Sem Bool} (T : BInit X.K X.mg x B) (hg : Gl X x) (ha : PA X (e :: es) ta) (hdb : (x == ("__debug__" : Str)) = false := by decide)
    (hc : eval (.Call (.Attribute (.Name x p1) "__init__" p2) (e :: es) [] pos) X.env = (do
      let ov ← eval (.Name x p1) X.env
      standAt p2.atName
      let (f, first) ← holding [ov] (getMethod ov "__init__" pl)
      callWith pos f first (backTo pos (starEach (e :: es) X.env)) (backToKw pos (keywordEach [] X.env))) := by rfl)
    (he : starEach (e :: es) X.env = (false, eval e X.env) :: starEach es X.env := by rfl) (hpl : (backTo pos (starEach es X.env)).any (·.1) = false := by rfl) :
    PE X (.Call (.Attribute (.Name x p1) "__init__" p2) (e :: es) [] pos) (tVeI X.K ta) where
  run := fun pins s σ H Q I h => by
    apply PySem.W.methodCall_KW (ld_glob I hg T.at_ _ hdb) hc
    apply getcls_ok I T.sp T.rd T.fi (by decide +kernel)
    intro s' I'
    show wpAny _ _ (callWith pos (Value.builtin "ValueError.__init__") [] (backTo pos (starEach (e :: es) X.env)) []) _ _ _
    refine PyProof.Rows.callWith_method1 (wpAny_mono (ha.run pos pins _ σ H _ I' h) ?_ fun _ _ z => z) he hpl
    rintro us s1 ⟨vs, H1, I1, r1, a, C, ws, rfl, hl, TC, ea, q⟩
    cases r1 with
    | cons ra rw' =>
      cases ra
      refine oinit_ok TC I1 ea ?_ fun s2 J => ⟨.non, H1, J, rfl, q⟩
      rw [← Paired.length rw', sizeLine_eq]
      omega
end
end IK
end
section
set_option Elab.async false
set_option linter.all false
set_option maxRecDepth 100000
set_option maxHeartbeats 4000000
/-! an own exception held as a value: isinstance, ==, its making -/
namespace PySem.W
open PySem PySem.Spec PySem.Calls PyProof.Rows
section
variable {prog : Program} {w : World} {A : Around} {E : Value → Shared → Prop} {s : Shared} {K : Frag} {x D : Addr} {ox : Obj} {od : Option Obj}
/-- what is read of an exception's class, as far as ==, isinstance and fields ask -/
structure ExVal (K : Frag) (D : Addr) : Prop where
  ga : findIn K (.ref D) "__getattribute__" = some (some (.builtin "BaseException.__getattribute__"))
  gt : findIn K (.ref D) "__getattr__" = some none
  sb : subIn K (.ref D) (.type "BaseException") = some true
  cl : (clsIn K D).isSome = true
  ca : findIn K (.ref D) "__class__" = some (some (.builtin "object.__class__"))
  cg : specialIn K (.builtin "object.__class__") "__get__" = some (some (.builtin "getset_descriptor.__get__"))
  ct : takesIn K (.builtin "object.__class__") = some true
  mo : mroIn K D (.type "object") = some true
  eq : findIn K (.ref D) "__eq__" = some (some (.builtin "object.__eq__"))
theorem find_class (T : ExVal K D) (hl : ∀ o, od = some o → lookIn "__class__" o = some none) : findObj K D od "__class__" = some (.bind (.builtin "getset_descriptor.__get__") (.builtin "object.__class__")) := by
  obtain ⟨cd, hc⟩ := Option.isSome_iff_exists.mp T.cl
  unfold findObj
  cases od with
  | none =>
    rw [hc, Option.bind_some, T.ca, Option.bind_some]
    simp [T.cg, T.ct]
  | some o =>
    rw [hc, Option.bind_some, T.ca, Option.bind_some]
    simp [T.cg, T.ct, hl o rfl]
theorem read_class {Q : Option Value → Shared → Prop} (T : ExVal K D) (hl : ∀ o, od = some o → lookIn "__class__" o = some none) (X : K.In s.heap) (I : InstAt s.heap x ox D od) (h : Q (some (.ref D)) { s with toks := s.toks + 1 }) :
    wpAny (model prog w) A (getAttr? (.ref x) "__class__") Q E s := by
  obtain ⟨hp, g, d, t, os⟩ := s
  have tyx := I.type (M := model prog w)
  have fnd := looks_find (M := model prog w) X I (find_class T hl)
  have gaq : (Value.builtin "BaseException.__getattribute__" == Value.builtin "object.__getattribute__") = false := by decide +kernel
  unfold getAttr? getAttrBy? getAttrBy
  apply wpAny_bind; apply wpAny_mkText; apply wpAny_bind; apply wpAny_attempt; apply wpAny_holding; apply wpAny_bind
  apply tyx.at; apply wpAny_bind; apply (looks_findIn (M := model prog w) X T.ga).at
  show wpAny _ _ (if (onTheHeap (Value.ref D) && _) = true then _ else _) _ _ _
  rw [gaq, Bool.and_false, if_neg Bool.false_ne_true]
  unfold getAttrByItsOwn hookBefore
  apply wpAny_bind
  rw [show onTheHeap (Value.ref D) = true from rfl, if_pos rfl]
  apply (looks_findIn (M := model prog w) X T.gt).at
  apply wpAny_bind; apply wpAny_attempt; apply wpAny_holding
  unfold callGetattribute
  rw [show (false && onTheHeap (Value.builtin "BaseException.__getattribute__")) = false from rfl, if_neg Bool.false_ne_true]
  unfold boundAndCalled
  rw [PySem.F.excAttr_ValueError.ga.bind (.ref x)]
  apply wpAny_bind; apply wpAny_pure
  show wpAny _ _ (call (.builtin "BaseException.__getattribute__") [.ref x, .str "__class__" t]) _ _ _
  apply wpAny_call; apply codeAny_call_builtin PySem.F.excAttr_ValueError.ga.plain PySem.F.entry_bexc_ga
  apply @check_slot (model prog w) _ _ ⟨hp, g, d, t + 1, os⟩ "BaseException.__getattribute__" "BaseException" "__getattribute__" (.ref x) [.str "__class__" t] [] _ (by decide +kernel) (by decide +kernel)
    (tyx.andThen (looks_subIn X T.sb)) (PySem.F.args_bexc_ga (.ref x) (.str "__class__" t))
  unfold Builtin.«object.__getattribute__»
  refine wpAny_bind (wpAny_of_eq (a := ((Value.ref x : Value), [Value.str "__class__" t])) (by first | rfl | (simp only [slotArgs]; rfl)) ?_)
  apply wpAny_bind; apply wpAny_pure; apply wpAny_bind; apply tyx.at; apply wpAny_bind; apply fnd.at
  show wpAny _ _ (holding [Value.builtin "object.__class__"] (call (.builtin "getset_descriptor.__get__") [.builtin "object.__class__", .ref x, .ref D]) >>= ret) _ _ _
  apply wpAny_bind; apply wpAny_holding; apply wpAny_call
  refine class_get (s := ⟨hp, g, d, t + 1, os⟩) (ox := ox) (od := od) X I T.mo ?_
  apply wpAny_pure
  show wpAny _ _ (handedOut (.ref D)) _ _ _
  rw [handedOut_of (v := .ref D) rfl]
  first
    | exact wpAny_pure (wpAny_pure h)
    | exact wpAny_pure h
    | exact wpAny_pure (wpAny_bind (wpAny_pure (wpAny_pure h)))
theorem kitx_ex (T : ExVal K D) : KitX K (.ref x) (.ref D) (fun h => ∃ ox od, InstAt h x ox D od ∧ ∀ o, od = some o → lookIn "__class__" o = some none) where
  ty := fun _ _ _ ⟨_, _, I, _⟩ => I.type
  it := fun _ _ X _ => by
    obtain ⟨cd, hc⟩ := Option.isSome_iff_exists.mp T.cl
    unfold clsIn at hc
    split at hc
    · rename_i ho
      intro A' Q' E' s' k q
      unfold isType loadHead
      exact wpAny_bind (wpAny_loadPart (k _ _ (X _ _ ho)) (wpAny_pure q))
    · cases hc
  ne := fun h tp dd its n sl X htp => by
    obtain ⟨cd, hc⟩ := Option.isSome_iff_exists.mp T.cl
    unfold clsIn at hc
    split at hc
    · rename_i ho
      cases q : (Value.ref D == Value.ref tp) with
      | false => rfl
      | true =>
        have e := Value.ref.inj (beq_iff_eq.mp q)
        rw [← e, X _ _ ho] at htp
        cases htp
    · cases hc
  ca := fun X ⟨_, _, I, hl⟩ k => read_class T hl X I k
/-- e == e, one exception -/
theorem ex_same {Q : Value → Shared → Prop} (T : ExVal K D) (hu : A.units < cLine) (X : K.In s.heap) (I : InstAt s.heap x ox D od) (hq : ∀ k, Q (.bool true) { s with toks := k }) : wpAny (model prog w) A (compareOp .Eq (.ref x) (.ref x)) Q E s := by
  have hit : wpAny (model prog w) A (tryCompare (.ref x) "__eq__" (.ref x)) (fun r s' => r = some (.bool true) ∧ s' = s) E s := by
    unfold tryCompare
    apply wpAny_bind
    apply HN.ifBound_objEq X I T.eq
    apply wpAny_call
    apply codeAny_call_builtin F.cmp_object.eq.plain F.cmpEntry_eq
    apply check_slot F.cmpKind_eq F.cmpSplit_eq (I.type.andThen (looks_mroIn X T.mo)) (F.cmpArgs_eq _ _)
    exact objEq_entry_same (wpAny_pure ⟨rfl, rfl⟩)
  show wpAny _ _ (richCompare .Eq (.ref x) (.ref x)) _ _ _
  simp only [richCompare, cmpInfo_Eq, oneThing_ref]
  apply wpAny_holding; apply wpAny_bind; apply wpAny_cRoomFor hu; apply wpAny_bind; apply I.type.here; apply wpAny_bind; apply I.type.here
  rw [if_neg (by simp)]
  apply wpAny_bind; apply wpAny_pure
  rw [if_neg Bool.false_ne_true]
  apply wpAny_bind
  apply wpAny_mono hit _ fun _ _ z => z
  rintro r s1 ⟨rfl, rfl⟩
  exact wpAny_pure (hq s1.toks)
end
end PySem.W

namespace IK
open PySem PySem.Spec PyProof.Rows L2
/-! ### over the layer -/
/-- at a: an exception of the class C, its dict at d with the fields fs -/
structure ExAt (K : PySem.W.Frag) (H : Hp) (a C d : Addr) (fs : List (Str × V)) : Prop where
  ob : H a = some (exo a C (some d))
  dc : H d = some (exd d fs)
  nc : fs.lookup ("__class__" : Str) = none
  ev : PySem.W.ExVal K C
theorem ExAt.inst {X : Cx} {pins : List (Addr × Obj)} {σ : L2.St} {H : Hp} {s : Shared} {a C d : Addr} {fs : List (Str × V)} (T : ExAt X.K H a C d fs) (I : Inv X pins σ H s) :
    ∃ ox od, PySem.W.InstAt s.heap a ox C od ∧ ∀ o, od = some o → PySem.W.lookIn "__class__" o = some none := by
  obtain ⟨t1, ho⟩ := exo_at I.hok T.ob
  obtain ⟨mA, hns, rel⟩ := exd_at I.hok T.dc
  obtain ⟨od, hod, hl⟩ := lookIn_ns hns
  refine ⟨_, some od, ⟨ho, rfl, rfl, hod⟩, fun o e => ?_⟩
  cases e
  rw [hl]
  have r := rel "__class__"
  rw [T.nc] at r
  cases e : mA "__class__" with
  | none => rfl
  | some u =>
    rw [e] at r
    exact r.elim
/-- == of an exception with itself -/
def rEqX (K : PySem.W.Frag) : R2 := fun x y H Q => ∃ a C d fs, x = .ref a ∧ y = .ref a ∧ ExAt K H a C d fs ∧ Q (.bl true) H
theorem op_eqX {X : Cx} (hu : X.A.units < cLine) : OpR X (compareOp .Eq) (rEqX X.K) := by
  rintro pins s σ H x y v u Q I rx ry ⟨a, C, d, fs, rfl, rfl, T, q⟩
  cases rx
  cases ry
  obtain ⟨ox, od, J, _⟩ := T.inst I
  exact PySem.W.ex_same T.ev hu I.kIn J fun k => ⟨.bl true, H, I.tok k, rfl, q⟩
/-- one of two rules -/
theorem op_alt {X : Cx} {f : Value → Value → Sem Value} {r1 r2 : R2} (h1 : OpR X f r1) (h2 : OpR X f r2) : OpR X f (fun x y H Q => r1 x y H Q ∨ r2 x y H Q) := by
  intro pins s σ H x y v u Q I rx ry h
  cases h with
  | inl h => exact h1 pins s σ H x y v u Q I rx ry h
  | inr h => exact h2 pins s σ H x y v u Q I rx ry h
theorem call_alt {X : Cx} {f : Value} {r1 r2 : List V → Hp → VK → Prop} (h1 : CallR X f r1) (h2 : CallR X f r2) : CallR X f (fun xs H Q => r1 xs H Q ∨ r2 xs H Q) := by
  intro pins s σ H xs us Q I r h
  cases h with
  | inl h => exact h1 pins s σ H xs us Q I r h
  | inr h => exact h2 pins s σ H xs us Q I r h
/-- isinstance of such an exception -/
def rIsX (K : PySem.W.Frag) : List V → Hp → VK → Prop := fun xs H Q => ∃ (a C d : Addr) (fs : List (Str × V)) (c : V) (u : Value) (b : Bool), xs = [.ref a, c] ∧ ClsV c u ∧ ExAt K H a C d fs ∧ PySem.W.kitOne K (.ref C) u = some b ∧ Q (.bl b) H
theorem call_isX {X : Cx} : CallR X (.builtin "isinstance") (rIsX X.K) := by
  rintro pins s σ H xs us Q I r ⟨a, C, d, fs, c, u, b, rfl, k, T, e, q⟩
  obtain ⟨u1, u2, rfl, r1, r2⟩ := vals2 r
  have e2 := k.eq r2
  subst e2
  cases r1
  exact PySem.W.kia_one (PySem.W.kitx_ex T.ev) I.kIn (T.inst I) e (fun z => nomatch z) fun tk => ⟨.bl b, H, I.tok tk, rfl, q⟩
end IK
end
section
set_option Elab.async false
set_option linter.all false
set_option maxRecDepth 100000
set_option maxHeartbeats 4000000
namespace IK
open PySem PySem.Spec PyProof.Rows L2

/-! ### error classes of one field: made, raised -/
/-- what __init__(self, v) leaves: the field f is v -/
def spErr (C : Addr) (f : Str) : Sp := fun vs H Q _ => ∃ (a : Addr) (v : V), vs = [.ref a, v] ∧ H a = some (exo a C none) ∧ ∀ d, H d = none → d ≠ a → Q .non (upd (upd H d (exd d [(f, v)])) a (exo a C (some d)))
/-- an error class of the text, named x, at C -/
structure Err (P : Program) (w : World) (K : PySem.W.Frag) (mg : Str → Option Value) (base : Heap) (x : Str) (C : Addr) (f : Str) : Prop where
  ox : OexC K C
  ev : PySem.W.ExVal K C
  nf : PySem.W.findIn K (.ref C) f = some none
  hd : PySem.W.hasDictIn K C = true
  at_ : mg x = some (.ref C)
  init : ∃ fI fd, PySem.W.findIn K (.ref C) "__init__" = some (some (.ref fI)) ∧ PySem.W.typeIn K (.ref fI) = some (.type "function") ∧ FnOk P w K mg base CX0 1 fI fd ["self", f] (spErr C f) ∧ Binds K fd ["self", f] []

theorem back_heap {H : Hp} {a d : Addr} {C : Addr} {fs : List (Str × V)} (ha : H a = none) (hda : d ≠ a) :
    upd (del (upd (upd (upd H a (exo a C none)) d (exd d fs)) a (exo a C (some d))) a) d (.xd fs) = upd H d (.xd fs) := by
  funext b
  by_cases hb : b = d
  · rw [hb, upd_same, upd_same]
  · rw [upd_ne hb, upd_ne hb]
    by_cases hba : b = a
    · rw [hba, del_same, ha]
    · rw [del_ne hba, upd_ne hba, upd_ne hb, upd_ne hba]
section
variable {X : Cx} {x f : Str} {C : Addr} {e : Expr} {te : TE} {p pos : Pos}
/-- raise x(e): e's value, then the wish at a new dict d -/
def tErr (C : Addr) (f : Str) (te : TE) : L2.St → Hp → XK → Prop := fun σ H Q => te σ H fun v H1 => ∀ d, H1 d = none → Q (.ref C) (some d) (upd H1 d (.xd [(f, v)]))
/-- a reading whose wish may be told stronger -/
def weak (te : TE) : TE := fun σ H Q => ∃ P : VK, te σ H P ∧ ∀ v H1, P v H1 → Q v H1
theorem pe_weak (he : PE X e te) : PE X e (weak te) where
  run := fun pins s σ H Q I ⟨P, h, k⟩ => by
    apply wpAny_mono (he.run pins s σ H P I h) _ fun _ _ z => z
    rintro u s' ⟨v, H', I', r, q⟩
    exact ⟨v, H', I', r, k v H' q⟩
theorem pmk_err (T : Err X.prog X.w X.K X.mg X.base x C f) (hr : Room 2 X.A) (hg : Gl X x) (he : PE X e te) (hdb : (x == ("__debug__" : Str)) = false := by decide)
    (hs : starEach [e] X.env = (false, eval e X.env) :: starEach [] X.env := by rfl) (hpl : (backTo pos (starEach [] X.env)).any (·.1) = false := by rfl) : PMk X (.Call (.Name x p) [e] [] pos) (tErr C f te) := by
  obtain ⟨fI, fd, iC, tI, F, hb⟩ := T.init
  intro pins s σ H Q I h
  refine pmk_oex (dvs := []) T.ox iC tI F hr hb .nil (fun _ _ _ _ _ _ _ z => z.elim) hg T.at_ (pa_cons (pe_weak he) pa_nil hs) hdb hs hpl pins s σ H Q I ⟨_, h, ?_⟩
  intro v H1 hP
  refine ⟨Nat.le_of_ble_eq_true rfl, fun a ha => ⟨a, v, rfl, upd_same, fun d hd hda => ?_⟩⟩
  rw [upd_ne hda] at hd
  refine ⟨rfl, d, [(f, v)], upd_same, (by rw [upd_ne hda, upd_same]), hd, ?_⟩
  rw [back_heap ha hda]
  exact hP d hd
/-- x(e) as a value: a new exception at a, its dict at d -/
def tErrV (C : Addr) (f : Str) (te : TE) : TE := fun σ H Q => te σ H fun v H1 => ∀ a d, H1 a = none → H1 d = none → d ≠ a → Q (.ref a) (upd (upd H1 d (exd d [(f, v)])) a (exo a C (some d)))
theorem up3 {H : Hp} {a d C : Addr} {fs : List (Str × V)} (hda : d ≠ a) : upd (upd (upd H a (exo a C none)) d (exd d fs)) a (exo a C (some d)) = upd (upd H d (exd d fs)) a (exo a C (some d)) := by
  funext b
  by_cases hba : b = a
  · rw [hba, upd_same, upd_same]
  · rw [upd_ne hba, upd_ne hba]
    by_cases hb : b = d
    · rw [hb, upd_same, upd_same]
    · rw [upd_ne hb, upd_ne hb, upd_ne hba]
theorem pe_errV (T : Err X.prog X.w X.K X.mg X.base x C f) (hr : Room 2 X.A) (hg : Gl X x) (he : PE X e te) (hdb : (x == ("__debug__" : Str)) = false := by decide)
    (hs : starEach [e] X.env = (false, eval e X.env) :: starEach [] X.env := by rfl) (hpl : (backTo pos (starEach [] X.env)).any (·.1) = false := by rfl) : PE X (.Call (.Name x p) [e] [] pos) (tErrV C f te) := by
  obtain ⟨fI, fd, iC, tI, F, hb⟩ := T.init
  obtain ⟨nm, q, N, bs, bm, sn, sub, ab, col, dd, k0, k1, k2, k3, k5, hC, hbm⟩ := T.ox.cls
  refine ⟨fun pins s σ H Q I h => ?_⟩
  apply wpAny_Call_Name_kw
  apply ld_glob I hg T.at_ _ hdb
  refine PySem.W.callWith_K (h₀ := X.base) I.ok.mod.kin T.ox.kC (wpAny_mono ((pa_cons (pe_weak he) pa_nil hs).run pos pins s σ H (fun vs H1 => ∃ v, vs = [v] ∧ ∀ a d, H1 a = none → H1 d = none → d ≠ a → Q (.ref a) (upd (upd H1 d (exd d [(f, v)])) a (exo a C (some d)))) I ?_) ?_ fun _ _ z => z) hs hpl
  · exact ⟨_, h, fun v H1 hP => ⟨v, rfl, hP⟩⟩
  · rintro us s1 ⟨vs, H1, I1, r1, v, rfl, q1⟩
    refine ⟨I1.kIn, ?_⟩
    obtain ⟨hp, g, dr, tk, os⟩ := s1
    have old : ∀ b o, hp.get? b = some o → ((hp.push (PySem.W.kdv_tup us)).push (PySem.HandSPX.excO C hp.objs.size)).get? b = some o := fun b o z => Heap.get?_push_of_some _ (Heap.get?_push_of_some _ z)
    have new : ((hp.push (PySem.W.kdv_tup us)).push (PySem.HandSPX.excO C hp.objs.size)).get? (hp.objs.size + 1) = some (PySem.HandSPX.excO C hp.objs.size) := by heap_get
    have fr : H1 (hp.objs.size + 1) = none := I1.hok.fresh (Nat.le_succ hp.objs.size)
    have I2 := I1.laid (t' := tk) (a := hp.objs.size + 1) (o := exo (hp.objs.size + 1) C none) old (Nat.le_succ hp.objs.size) (exo_ok new)
    have r2 : Vals [V.ref (hp.objs.size + 1), v] (Value.ref (hp.objs.size + 1) :: us) := .cons rfl r1
    have hus : us.length = 1 := (Paired.length r1).symm
    have bd := hb _ (Value.ref (hp.objs.size + 1) :: us) I2.kIn (by simp [hus])
    rw [List.append_nil] at bd
    have hus2 : us.length ≤ sizeLine := by rw [hus, sizeLine_eq]; decide
    have wish : spErr C f [V.ref (hp.objs.size + 1), v] (upd H1 (hp.objs.size + 1) (exo (hp.objs.size + 1) C none)) (fun v H2 => v = .non ∧ Q (.ref (hp.objs.size + 1)) H2) (fun _ _ _ => False) := by
      refine ⟨hp.objs.size + 1, v, rfl, upd_same, fun d hd hda => ⟨rfl, ?_⟩⟩
      rw [upd_ne hda] at hd
      rw [up3 hda]
      exact q1 _ d fr hd hda
    apply wpAny_call
    refine PySem.HandSPX.call_own PySem.F.excBase_ValueError (fun Y => PySem.HandSPX.refsVE_contains Y bm hbm) (I1.kIn _ _ hC) (PySem.W.looks_findIn I1.kIn iC) (fun self => PySem.W.bind_fn I1.kIn self tI) hus2 (codeAny_mono (F.run _ X.stack _ _ _ _ _ _ _ ((hr.mono (by decide : 2 ≤ 2)).make C us []) (I2.env0.make C us []) bd r2 wish) ?_)
    intro r s' hq
    match r, hq with
    | .ok (.ret u), hq =>
      obtain ⟨v', H2, J, rv, rfl, q2⟩ := I2.after hq
      exact ⟨rv, ⟨V.ref (hp.objs.size + 1), H2, J, rfl, q2⟩⟩
end
end IK
end
section
set_option Elab.async false
set_option linter.all false
set_option maxRecDepth 100000
set_option maxHeartbeats 4000000
namespace IK
open PySem PySem.Spec PyProof.Rows L2

/-! ### try with several clauses, each with a name or without one -/
abbrev Cl := Value × Option Nat × (Addr → Value → Option Addr → TS)
/-- behind a suite the name i is none again -/
def unname (i : Nat) (D : Ends) : Ends := { nx := fun σ H => D.nx (σ.set i none) H, rt := D.rt, bk := fun σ H => D.bk (σ.set i none) H, ct := fun σ H => D.ct (σ.set i none) H }
def wCl (ts : Addr → Value → Option Addr → TS) (oi : Option Nat) (a : Addr) (cls : Value) (d : Option Addr) (D : Ends) (σ : L2.St) (H : Hp) : Prop :=
  match oi with
  | none => ts a cls d D σ H
  | some i => ts a cls d (unname i D) (σ.set i (some (.ref a))) H
def wCls (K : PySem.W.Frag) (Wout : WX) (D : Ends) : List Cl → WX
  | [] => Wout
  | (c, oi, ts) :: r => fun cls d σ H => ∃ b, PySem.W.exmOne K cls c = some b ∧ (b = true → ∀ a, H a = none → wCl ts oi a cls d D σ H) ∧ (b = false → wCls K Wout D r cls d σ H)
inductive Clauses (X : Cx) : List ExceptHandler → List Cl → Prop
  | nil : Clauses X [] []
  | plain {x : Str} {c : Value} {ts : Addr → Value → Option Addr → TS} {st : Stmt} {sts : List Stmt} {np pos' : Pos} {hds : List ExceptHandler} {l : List Cl} (hc : Names X x c)
      (hsu : ∀ (a : Addr) (oe : Obj) (cls : Value) (d : Option Addr) (pn : List (Addr × Obj)), Zc cls d oe → (∃ vs, oe.data = .fields vs) → PSs (X.suite a ((a, oe) :: pn)) (st :: sts) (ts a cls d)) (r : Clauses X hds l) :
      Clauses X (.ExceptHandler (some (.Name x np)) none (st :: sts) pos' :: hds) ((c, none, ts) :: l)
  | named {x n : Str} {i : Nat} {c : Value} {ts : Addr → Value → Option Addr → TS} {st : Stmt} {sts : List Stmt} {np pos' : Pos} {hds : List ExceptHandler} {l : List Cl} (hc : Names X x c) (hi : X.N[i]? = some n) (hn : X.env.kindOf n = some .local)
      (hsu : ∀ (a : Addr) (oe : Obj) (cls : Value) (d : Option Addr) (pn : List (Addr × Obj)), Zc cls d oe → (∃ vs, oe.data = .fields vs) → PSs (X.suite a ((a, oe) :: pn)) (st :: sts) (ts a cls d)) (r : Clauses X hds l) :
      Clauses X (.ExceptHandler (some (.Name x np)) (some n) (st :: sts) pos' :: hds) ((c, some i, ts) :: l)

section
variable {X : Cx} {pins : List (Addr × Obj)} {D : Ends} {Wout : WX}
/-- the exception a lies landed in s'; J: what stood when it was raised -/
structure Landed (X : Cx) (pins : List (Addr × Obj)) (B : Heap) (sI s' : Shared) (a : Addr) (cls : Value) (d : Option Addr) (σ : L2.St) (H : Hp) : Prop where
  J : Inv X pins σ H sI
  nb : ∀ b o, sI.heap.get? b = some o → b ∉ frs X.stack → B.get? b = some o
  fl : HandSPX.FlyingZ B (X.env :: X.outer) a (Zc cls d) s'.heap
  up : sI.heap.UpToSlots s'.heap
  os : s'.os = sI.os
  ag : AllBare s'.gens
  na : H a = none
theorem Landed.inv {B : Heap} {sI s' : Shared} {a : Addr} {cls : Value} {d : Option Addr} {σ : L2.St} {H : Hp} (L : Landed X pins B sI s' a cls d σ H) : Inv X pins σ H s' := L.J.landed L.nb L.fl.1 L.up L.os L.ag
theorem Landed.suite {B : Heap} {sI s' : Shared} {a : Addr} {cls : Value} {d : Option Addr} {σ : L2.St} {H : Hp} (L : Landed X pins B sI s' a cls d σ H) (hf : X.env.frame = some X.env.locals) :
    ∃ oe vs, s'.heap.get? a = some oe ∧ Zc cls d oe ∧ oe.data = .fields vs ∧ Inv (X.suite a ((a, oe) :: (X.pn ++ pins))) [] σ H s' := by
  obtain ⟨oe, vs, he, hz, hd⟩ := L.fl.there
  have out : a ∉ frs (X.env :: X.outer) := fun hm => by
    obtain ⟨_, o', e', hnf⟩ := L.fl.2.2.1.mem hm
    rw [he] at e'
    cases e'
    exact hnf _ hd
  have nL : a ≠ X.env.locals := fun z => out (List.mem_filterMap.mpr ⟨X.env, List.mem_cons_self, by rw [hf, z]⟩)
  have nF : a ∉ X.fs := fun hm => by
    obtain ⟨e, h1, h2⟩ := List.mem_filterMap.mp hm
    exact out (List.mem_filterMap.mpr ⟨e, List.mem_cons_of_mem _ h1, h2⟩)
  exact ⟨oe, vs, he, hz, hd, L.inv.suite he hd L.na nL nF⟩
theorem clause_go (hs : X.stack = X.env :: X.outer) (hf : X.env.frame = some X.env.locals) (hN : X.N.Nodup) (tk : Takes X Wout) {hds : List ExceptHandler} {l : List Cl} (hk : Clauses X hds l) {B : Heap} {sI s' : Shared} {a : Addr} {cls : Value} {d : Option Addr} {σ : L2.St} {H : Hp}
    (L : Landed X pins B sI s' a cls d σ H) (w : wCls X.K Wout D l cls d σ H) : wpAny (model X.prog X.w) X.A (handleBy (.ref a) X.env hds) (SP X pins D) X.xe s' := by
  have ok := L.J.ok
  induction hk with
  | nil =>
    apply wpAny_handleBy_nil
    obtain ⟨k1, k2, k3, oe, vs, T, oT, ts', he, hz, hd, h1, hr⟩ := id L.fl
    unfold PySem.passOn
    apply wpAny_bind
    apply wpAny_field he hd h1
    rw [if_neg (by simp)]
    have fin : wpAny (model X.prog X.w) X.A (setFlight (.ref a) X.env.frame) (fun _ s4 => wpAny (model X.prog X.w) X.A (throw (.ref a) : Sem Flow) (SP X pins D) X.xe s4) X.xe s' := by
      rw [hf]
      apply HandSPX.setFlight_upZ L.fl
      intro h4 hh4 up4
      apply wpAny_throw
      exact tk _ _ ⟨a, B, sI, pins, σ, H, cls, d, rfl, L.J, L.nb, L.up.trans up4, .inr (.inr (by rw [hs]; exact hh4)), L.na, L.os, L.ag, w⟩
    first
      | exact wpAny_bind (wpAny_pure (wpAny_bind fin))
      | exact wpAny_bind fin
  | @plain x c ts st sts np pos' hds2 l2 hc hsu r ih =>
    obtain ⟨b, hb1, hyes, hno⟩ := w
    obtain ⟨oe3, vs3, he3, hz3, hd3, S3⟩ := L.suite hf
    refine wpAny_handleBy_cons (codeAny_handlers_test ?_) (by intro q; cases q)
    have LM := PySem.W.exm_one (M := model X.prog X.w) L.inv.kIn (fun A Q E s k q => wpAny_typeOf_ref (k _ _ he3) (by rw [hz3.1]; exact q) : PySem.W.Looks (model X.prog X.w) s'.heap (typeOf (.ref a)) cls) hb1
    have ld : ∀ {Q : Value → Shared → Prop} {E : Value → Shared → Prop}, Q c s' → wpAny (model X.prog X.w) (X.A.mark (some (.ref a))) (eval (.Name x np) X.env) Q E s' := by
      intro Q E q
      obtain ⟨hg, hdbg, hm | ⟨hm, hv, hnn⟩⟩ := hc
      · exact ld_glob (X := X.suite a ((a, oe3) :: (X.pn ++ pins))) S3 hg hm q hdbg
      · exact ld_blt (X := X.suite a ((a, oe3) :: (X.pn ++ pins))) S3 hg hm hv q hnn hdbg
    apply ld
    apply LM.here
    cases b with
    | false => exact ih (hno rfl)
    | true =>
      apply codeAny_handlers_suite
      apply HandSPX.lands_againZ L.fl
      intro h4 fl4 up4
      obtain ⟨oe4, vs4, he4, hz4, hd4, S4⟩ := Landed.suite (s' := { s' with heap := h4 }) ⟨L.J, L.nb, fl4, L.up.trans up4, L.os, L.ag, L.na⟩ hf
      apply wpAny_mono ((hsu a oe4 cls d (X.pn ++ pins) hz4 ⟨_, hd4⟩).run [] _ _ H _ S4 (hyes rfl a L.na)) _ fun _ _ z => False.elim z
      intro f s6 hsp
      match f, hsp with
      | .next, ⟨σ6, H6, S6, q6⟩ => exact ⟨_, _, S6.unsuite ok, q6⟩
      | .brk, ⟨σ6, H6, S6, q6⟩ => exact ⟨_, _, S6.unsuite ok, q6⟩
      | .cont, ⟨σ6, H6, S6, q6⟩ => exact ⟨_, _, S6.unsuite ok, q6⟩
      | .ret u, ⟨v6, σ6, H6, S6, r6, q6⟩ => exact ⟨_, _, _, S6.unsuite ok, r6, q6⟩
  | @named x n i c ts st sts np pos' hds2 l2 hc hi hn hsu r ih =>
    obtain ⟨b, hb1, hyes, hno⟩ := w
    obtain ⟨oe3, vs3, he3, hz3, hd3, S3⟩ := L.suite hf
    refine wpAny_handleBy_cons (codeAny_handlers_test ?_) (by intro q; cases q)
    have LM := PySem.W.exm_one (M := model X.prog X.w) L.inv.kIn (fun A Q E s k q => wpAny_typeOf_ref (k _ _ he3) (by rw [hz3.1]; exact q) : PySem.W.Looks (model X.prog X.w) s'.heap (typeOf (.ref a)) cls) hb1
    have ld : ∀ {Q : Value → Shared → Prop} {E : Value → Shared → Prop}, Q c s' → wpAny (model X.prog X.w) (X.A.mark (some (.ref a))) (eval (.Name x np) X.env) Q E s' := by
      intro Q E q
      obtain ⟨hg, hdbg, hm | ⟨hm, hv, hnn⟩⟩ := hc
      · exact ld_glob (X := X.suite a ((a, oe3) :: (X.pn ++ pins))) S3 hg hm q hdbg
      · exact ld_blt (X := X.suite a ((a, oe3) :: (X.pn ++ pins))) S3 hg hm hv q hnn hdbg
    apply ld
    apply LM.here
    cases b with
    | false => exact ih (hno rfl)
    | true =>
      apply codeAny_handlers_suite_as
      apply HandSPX.lands_againZ L.fl
      intro h4 fl4 up4
      obtain ⟨oe4, vs4, he4, hz4, hd4, S4⟩ := Landed.suite (s' := { s' with heap := h4 }) ⟨L.J, L.nb, fl4, L.up.trans up4, L.os, L.ag, L.na⟩ hf
      refine store_ok (X := X.suite a ((a, oe4) :: (X.pn ++ pins))) (v := .ref a) S4 hN hi (.inl hn) rfl (fun s5 S5 => ?_) (.inr hn)
      apply wpAny_mono ((hsu a oe4 cls d (X.pn ++ pins) hz4 ⟨_, hd4⟩).run [] s5 _ H _ S5 (hyes rfl a L.na)) _ fun _ _ z => False.elim z
      intro f s6 hsp
      have end_ : ∀ {σ6 : L2.St} {H6 : Hp} {Q : Shared → Prop}, Inv (X.suite a ((a, oe4) :: (X.pn ++ pins))) [] σ6 H6 s6 → (∀ s7, Inv X pins (σ6.set i none) H6 s7 → Q s7) →
          wpAny (model X.prog X.w) X.A (do bindName X.env n .none; unbindBehindTheSuite X.env n pos') (fun _ s7 => Q s7) X.xe s6 := fun S6 hq => gone_ok (S6.unsuite ok) hN hi hn hq
      match f, hsp with
      | .next, ⟨σ6, H6, S6, q6⟩ => exact end_ S6 fun s7 J7 => ⟨_, _, J7, q6⟩
      | .brk, ⟨σ6, H6, S6, q6⟩ => exact end_ S6 fun s7 J7 => ⟨_, _, J7, q6⟩
      | .cont, ⟨σ6, H6, S6, q6⟩ => exact end_ S6 fun s7 J7 => ⟨_, _, J7, q6⟩
      | .ret u, ⟨v6, σ6, H6, S6, r6, q6⟩ => exact end_ S6 fun s7 J7 => ⟨_, _, _, J7, r6, q6⟩
theorem ps_try_cls {body : List Stmt} {h₀ : ExceptHandler} {hds : List ExceptHandler} {l : List Cl} {pos : Pos} {tb : WX → TS} (hs : X.stack = X.env :: X.outer) (hf : X.env.frame = some X.env.locals) (hN : X.N.Nodup) (tk : Takes X Wout)
    (hb : ∀ (W : WX) (pn : List (Addr × Obj)) (xe : Value → Shared → Prop), Takes (X.tr pn xe) W → PassesOwn (model X.prog X.w) X.A X.env xe → PSs (X.tr pn xe) body (tb W))
    (hh : Clauses X (h₀ :: hds) l) : PS X (.Try body (h₀ :: hds) [] [] pos) (fun D σ H => tb (wCls X.K Wout D l) D σ H) := by
  refine ⟨fun pins s σ H D I h => ?_⟩
  have ok := I.ok
  apply wpAny_Try_except
  have run := (hb (wCls X.K Wout D l) (X.pn ++ pins) (fun e s₁ => wpAny (model X.prog X.w) X.A (noteFrame e X.env) (fun _ s₂ => wpAny (model X.prog X.w) X.A (setFlight e none) (fun _ s₃ =>
    wpAny (model X.prog X.w) X.A (handleBy e X.env (h₀ :: hds)) (SP X pins D) X.xe s₃) X.xe s₂) X.xe s₁) ?_ PassesOwn.looking).run [] s σ H D (I.toTry _) h
  · apply wpAny_mono run _ fun _ _ z => z
    intro f s1 hsp
    match f, hsp with
    | .next, ⟨σ', H', J', q⟩ => exact wpAny_execs_nil ⟨σ', H', J'.ofTry ok, q⟩
    | .brk, ⟨σ', H', J', q⟩ => exact ⟨σ', H', J'.ofTry ok, q⟩
    | .cont, ⟨σ', H', J', q⟩ => exact ⟨σ', H', J'.ofTry ok, q⟩
    | .ret u, ⟨v, σ', H', J', r, q⟩ => exact ⟨v, σ', H', J'.ofTry ok, r, q⟩
  · rintro u s' ⟨a, B, sI, pins', σ', H', cls, d, rfl, J', nb, up, sky, na, os, ag, w⟩
    have J : Inv X pins σ' H' sI := J'.ofTry ok
    show wpAny _ _ (noteFrame (.ref a) X.env) _ _ _
    have sky' : Sky B (X.env :: X.outer) a (Zc cls d) X.env.locals s'.heap := by rw [← hs]; exact sky
    apply Sky.land Zc.steady (by rw [ok.frames, hs]) hf sky'
    intro h3 fl3 up3
    exact clause_go hs hf hN tk hh (s' := { s' with heap := h3 }) ⟨J, nb, fl3, up.trans up3, os, ag, na⟩ w
end
end IK
end
section
set_option Elab.async false
set_option linter.all false
set_option maxRecDepth 100000
set_option maxHeartbeats 4000000
namespace IK
open PySem PySem.Spec PyProof.Rows L2

/-! ### for a, b in zip(a text, a list) -/
def ItzS (K : PySem.W.Frag) (z : Str) (b : Addr) : It where
  go := fun i H => ∃ (ys : List V) (y : V), SqL K H b ys ∧ i < z.cps.size ∧ ys[i]? = some y
  yld := fun i H v H' => ∃ T c y, v = .ref T ∧ H T = none ∧ H' = upd H T (.tup [.str ⟨#[c]⟩, y]) ∧ z.cps[i]? = some c ∧ ∀ ys, SqL K H b ys → ys[i]? = some y
  stop := fun i H => ∃ ys : List V, SqL K H b ys ∧ i ≤ z.cps.size ∧ i ≤ ys.length ∧ (z.cps.size = i ∨ ys.length = i)
def tnS (N b : Addr) (z : Str) (t : Tok) (i : Nat) (h : Heap) : Prop :=
  IsZip h (N + 4) (N + 2) (N + 3) .none ∧ IsTupOf2 h (N + 2) (.ref N) (.ref (N + 1)) ∧ (∃ x y, IsTupOf2 h (N + 3) x y) ∧ h.IsStrIter N (strIterType z) z t i ∧ h.IsListIter (N + 1) b i
abbrev cells (N : Addr) : List Addr := [N + 4, N + 2, N + 3, N, N + 1]
theorem cells_cases {N c : Addr} (h : c ∈ cells N) : c = N + 4 ∨ c = N + 2 ∨ c = N + 3 ∨ c = N ∨ c = N + 1 := by simpa using h
theorem cells_ge {N c : Nat} (h : c ∈ cells N) : N ≤ c ∧ c ≤ N + 4 := by
  rcases cells_cases h with e | e | e | e | e <;> rw [e] <;> exact ⟨by first | exact Nat.le_refl _ | exact Nat.le_add_right _ _, by first | exact Nat.le_refl _ | exact Nat.add_le_add_left (by decide) _ | exact Nat.le_add_right _ _⟩
theorem ne_off {N : Nat} {i j : Nat} (h : i ≠ j) : (N + i : Nat) ≠ N + j := by omega
theorem turn_zipS {P : Program} {w : World} {K : PySem.W.Frag} {elts : List Expr} {kk : Nat} {tpos : Pos} {N b : Addr} {z : Str} {t : Tok} (hb : b < N) : Turn P w K (.Tuple elts kk tpos) (ItzS K z b) (cells N) (N + 4) (tnS N b z t) where
  mem := by simp [cells]
  obj := fun i h st c hc => by
    obtain ⟨hz, hTI, ⟨x, y, hTO⟩, ⟨o1, e1, _, d1⟩, ⟨o2, e2, _, d2⟩⟩ := st
    rcases cells_cases hc with q | q | q | q | q <;> subst q
    · exact ⟨_, hz, fun v q => nomatch q⟩
    · exact ⟨_, hTI, fun v q => nomatch q⟩
    · exact ⟨_, hTO, fun v q => nomatch q⟩
    · exact ⟨o1, e1, fun v q => by rw [d1] at q; cases q⟩
    · exact ⟨o2, e2, fun v q => by rw [d2] at q; cases q⟩
  keep := fun i h h' st k => by
    obtain ⟨hz, hTI, ⟨x, y, hTO⟩, h1, h2⟩ := st
    exact ⟨k (N + 4) (by simp [cells]) _ hz, k (N + 2) (by simp [cells]) _ hTI, ⟨x, y, k (N + 3) (by simp [cells]) _ hTO⟩, (by obtain ⟨o1, e1, r1⟩ := h1; exact ⟨o1, k N (by simp [cells]) o1 e1, r1⟩), h2.at fun o q => k (N + 1) (by simp [cells]) o q⟩
  item := by
    intro X hP hw hK hc i pins s σ H E I hf st hg
    subst hP hw hK
    obtain ⟨hz, hTI, ⟨x0, y0, hTO⟩, h1, h2⟩ := st
    obtain ⟨ys, y, hq, hi, hy⟩ := hg
    obtain ⟨its, rv, p, _⟩ := I.list hq
    obtain ⟨u, hu, ru⟩ := rv.get hy
    have hil : i < its.toArray.size := by simpa using (List.getElem?_eq_some_iff.mp hu).1
    have S : ZipSep2 (N + 4) (N + 2) (N + 3) N (N + 1) [N] [N + 1, b] := zip_sep2 (fp1 := []) (fp2 := [b]) (fun _ z => by cases z) (fun c z => by rcases List.mem_singleton.mp z with rfl; exact hb)
    have D1 := Draws.text (prog := X.prog) (w := X.w) (A := X.A.in1) (I.ok.hd hc) N z t
    have D2 := Draws.list (prog := X.prog) (w := X.w) (A := X.A.in1) (I.ok.hd hc) (N + 1) b (Nat.ne_of_lt (Nat.lt_succ_of_lt hb)) its.toArray
    have hzl : N + 4 < s.heap.objs.size := Heap.lt_size hz
    refine wpAny_pyNext_zipD2_item S D1 D2 hz hTI hTO h1 ⟨h2, p.isList⟩ hi hil fun v1 v2 h' tk p1 p2 z' TO' h1' h2' hT hsz hk => ?_
    obtain ⟨c, uc, hcc, rfl⟩ := p1
    have e2 : v2 = u := by
      have e : its.toArray[i]? = some u := by simpa using hu
      rw [e] at p2
      exact (Option.some.inj p2).symm
    subst e2
    refine ⟨_, rfl, wpAny_letOwnedTupleGo_zip (s := { s with heap := h', toks := tk }) z' fun h'' z'' sb => ?_⟩
    have hT2 : h''.get? s.heap.objs.size = some { cls := .type "tuple", data := .seq #[.str ⟨#[c]⟩ uc, v2] } := (sb.2 _ (Nat.ne_of_gt hzl)).trans hT
    have new : ObjOk X.prog X.w (upd H s.heap.objs.size (.tup [.str ⟨#[c]⟩, y])) h'' s.heap.objs.size (.tup [.str ⟨#[c]⟩, y]) :=
      ⟨by show 2 ≤ sizeLine; decide, [.str ⟨#[c]⟩ uc, v2], .cons ⟨uc, rfl⟩ (.cons ru .nil), ⟨_, hT2, rfl, _, rfl⟩⟩
    have far : ∀ c' : Addr, c' ∉ cells N → c' ≠ N + 4 ∧ c' ≠ N + 3 ∧ c' ≠ N ∧ c' ≠ N + 1 := fun c' hn => ⟨fun q => hn (by simp [q, cells]), fun q => hn (by simp [q, cells]), fun q => hn (by simp [q, cells]), fun q => hn (by simp [q, cells])⟩
    have I1 := I.turnedNew (t' := tk) (ch := cells N) (fun c' o hn q => (sb.2 c' (far c' hn).1).trans (hk c' o (far c' hn).1 (far c' hn).2.1 (far c' hn).2.2.1 (far c' hn).2.2.2 q)) hf (Nat.le_refl _) new
    refine ⟨.ref s.heap.objs.size, _, I1, rfl, ⟨_, c, y, rfl, I.hok.fresh (Nat.le_refl _), rfl, hcc, fun l hl => by rw [I.list_inj hl hq]; exact hy⟩, ⟨z'', ?_, ⟨.str ⟨#[c]⟩ uc, v2, ?_⟩, ?_, ?_⟩, fun c' hm => ?_⟩
    · exact (sb.2 _ (ne_off (by decide))).trans (hk _ _ (ne_off (by decide)) (ne_off (by decide)) (ne_off (i := 2) (j := 0) (by decide)) (ne_off (by decide)) hTI)
    · exact (sb.2 _ (ne_off (by decide))).trans TO'
    · obtain ⟨o1, e1, r1⟩ := h1'
      exact ⟨o1, (sb.2 _ (ne_off (i := 0) (by decide))).trans e1, r1⟩
    · exact h2'.1.at fun o q => (sb.2 _ (ne_off (by decide))).trans q
    · have hlt : c' < s.heap.objs.size := Nat.lt_of_le_of_lt (cells_ge hm).2 hzl
      rw [upd_ne (Nat.ne_of_lt hlt)]
      exact (hf c' hm).1
  done := by
    intro X hP hw hK hc i pins s σ H E I hf st hg
    subst hP hw hK
    obtain ⟨hz, hTI, ⟨x0, y0, hTO⟩, h1, h2⟩ := st
    obtain ⟨ys, hq, hi1, hi2, hend⟩ := hg
    obtain ⟨its, rv, p, _⟩ := I.list hq
    have l2 : ys.length = its.toArray.size := by simpa using rv.length
    have S : ZipSep2 (N + 4) (N + 2) (N + 3) N (N + 1) [N] [N + 1, b] := zip_sep2 (fp1 := []) (fp2 := [b]) (fun _ z => by cases z) (fun c z => by rcases List.mem_singleton.mp z with rfl; exact hb)
    have D1 := Draws.text (prog := X.prog) (w := X.w) (A := X.A.in1) (I.ok.hd hc) N z t
    have D2 := Draws.list (prog := X.prog) (w := X.w) (A := X.A.in1) (I.ok.hd hc) (N + 1) b (Nat.ne_of_lt (Nat.lt_succ_of_lt hb)) its.toArray
    refine wpAny_pyNext_zipD2_end S D1 D2 hz hTI hTO h1 ⟨h2, p.isList⟩ hi1 (by omega) (by rcases hend with q | q; exact .inl q.symm; exact .inr (by omega)) fun h' tk hk => ⟨rfl, ?_⟩
    have far : ∀ c' : Addr, c' ∉ cells N → c' ≠ N + 4 ∧ c' ≠ N + 3 ∧ c' ≠ N ∧ c' ≠ N + 1 := fun c' hn => ⟨fun q => hn (by simp [q, cells]), fun q => hn (by simp [q, cells]), fun q => hn (by simp [q, cells]), fun q => hn (by simp [q, cells])⟩
    exact I.turnedL (t' := tk) (ch := cells N) (fun c' o hn q => hk c' o (far c' hn).1 (far c' hn).2.1 (far c' hn).2.2.1 (far c' hn).2.2.2 q) hf
  self := fun A i s Q E st h => wpAny_pyIter_zip st.1 h
def iZipS (K : PySem.W.Frag) (ta : TA) : TI := fun σ H R => ta σ H fun vs H1 => ∃ z b ys, vs = [.str z, .ref b] ∧ SqL K H1 b ys ∧ R (ItzS K z b) H1
theorem pi_zipS {X : Cx} {e e2 : Expr} {ta : TA} {p pos tpos : Pos} {elts : List Expr} {kk : Nat} (hg : Gl X "zip") (hm : X.mg "zip" = none) (ha : PA X [e, e2] ta)
    (hs : starEach [e, e2] X.env = (false, eval e X.env) :: starEach [e2] X.env := by rfl) (hpl : (backTo pos (starEach [e2] X.env)).any (·.1) = false := by rfl) :
    PI X (.Tuple elts kk tpos) (.Call (.Name "zip" p) [e, e2] [] pos) (iZipS X.K ta) where
  run := fun pins s σ H R I h => by
    refine Call_ (ld_blt I hg hm PyProof.Rows.boot_zip (PyProof.Rows.callWith_type1 (wpAny_mono (ha.run pos pins s σ H _ I h) ?_ fun _ _ z => z) hs hpl))
    rintro us s1 ⟨vs, H1, I1, r1, z, b, ys, rfl, hq, q⟩
    obtain ⟨u1, u2, rfl, r, r'⟩ := vals2 r1
    cases r'
    obtain ⟨t, rfl⟩ := r
    obtain ⟨its, rv, p1, _⟩ := I1.list hq
    have lb : b < s1.heap.objs.size := p1.lt
    refine zip_begins2 (begins_text z t) (begins_list b its.toArray) trivial p1.isList fun h' hz hTI hTO h1 h2 hsz hk => wpAny_pyIter_zip hz ?_
    have I2 : Inv X pins σ H1 { s1 with heap := h' } := I1.kept (t' := s1.toks) hk
    refine ⟨s1.heap.objs.size + 4, cells s1.heap.objs.size, _, _, H1, rfl, I2, turn_zipS (t := t) lb, ⟨hz, hTI, ⟨_, _, hTO⟩, ⟨_, h1, rfl, rfl⟩, ⟨_, h2, rfl, rfl⟩⟩, fun c hcm => ?_, q⟩
    have hle : s1.heap.objs.size ≤ c := (cells_ge hcm).1
    exact I1.fpOk hle (I1.hok.fresh hle)
/-- as many turns as the text has signs -/
theorem walk_zipS {K : PySem.W.Frag} {z : Str} {b : Addr} {ys : List V} (hl : ys.length = z.cps.size) : Walk (ItzS K z b) ys.length (fun H => SqL K H b ys)
    (fun i H v H' => ∃ T c y, v = .ref T ∧ H T = none ∧ H' = upd H T (.tup [.str ⟨#[c]⟩, y]) ∧ z.cps[i]? = some c ∧ ys[i]? = some y) where
  goes := fun i H hi q => ⟨ys, ys[i], q, by omega, by simp [hi]⟩
  stops := fun H q => ⟨ys, q, by omega, Nat.le_refl _, .inr rfl⟩
  yields := fun i H x H' hi q ⟨T, c, y, h1, h2, h3, h4, h5⟩ => ⟨T, c, y, h1, h2, h3, h4, h5 ys q⟩
end IK
end
section
set_option Elab.async false
set_option linter.all false
set_option maxRecDepth 100000
set_option maxHeartbeats 4000000
namespace IK
open PySem PySem.Spec PyProof.Rows L2

/-! ### a dict of the module, asked by get -/
/-- the written dict at a: f tells what is behind each text -/
def KDic (K : PySem.W.Frag) (w : World) (a : Addr) (f : Str → Option V) : Prop := ∃ es n, K.lookup a = some ⟨.type "dict", none, .dict es n, #[]⟩ ∧ PySem.W.KeysLit w.params es.toList ∧ (a == sysModules) = false ∧ ∀ x, RelO (f x) (findBy Value.isStrOf es x)
def tKGet (K : PySem.W.Frag) (w : World) (to te : TE) : TE := fun σ H Q => to σ H fun x H1 => ∃ a f, x = .ref a ∧ KDic K w a f ∧ te σ H1 fun y H2 => ∃ k, y = .str k ∧ Q ((f k).getD .non) H2
section
variable {X : Cx} {o e : Expr} {to te : TE} {apos cpos pos : Pos}
theorem pe_kget (ho : PE X o to) (he : PE X e te) (hs : starEach [e] X.env = [(false, eval e X.env)] := by rfl) (hbase : attributeBase o "get" X.env (eval o X.env) = eval o X.env := by rfl) (hline : (apos.endLine == cpos.line) = true := by rfl) :
    PE X (.Call (.Attribute o "get" apos) [e] [] cpos) (tKGet X.K X.w to te) where
  run := fun pins s σ H Q I h => by
    refine PySem.Call_method1 hbase hs hline (wpAny_mono (ho.run pins s σ H _ I h) ?_ fun _ _ z => z)
    rintro v s1 ⟨x, H1, I1, r1, a, f, rfl, ⟨es, n, hl, hk, low, hf⟩, q1⟩
    cases r1
    have hm := PySem.W.mapOf_K (prog := X.prog) (w := X.w) I1.kIn hl hk
    refine ⟨"dict", _, PySem.F.plainAttrs_dict, PySem.F.slot_dict_get, PySem.F.type_dict_get, hm.typeIs, fun b q => ?_, Calls.callWith_builtin rfl (Calls.evalArgs_plain (Calls.spliced_cons (wpAny_mono (he.run pins s1 σ H1 _ I1 q1) ?_ fun _ _ z => z)))⟩
    · cases q
      exact ⟨_, I1.kIn _ _ hl, rfl⟩
    · rintro u s2 ⟨y, H2, I2, r2, k, rfl, q2⟩
      obtain ⟨t, rfl⟩ := r2
      have hm2 := PySem.W.mapOf_K (prog := X.prog) (w := X.w) I2.kIn hl hk
      apply Calls.spliced_nil
      refine call_meetsIn PySem.F.slot_dict_get hm2.typeIs PySem.F.entry_dict_get (PySem.F.args_dict_get_2 _ _) (meets_dict_get (strKind X.prog X.w) a (strKind_is X.prog X.w k t) low) ⟨_, hm2, ?_⟩
      have rel := hf k
      refine ⟨(f k).getD .non, H2, I2.tok _, ?_, q2⟩
      cases e1 : f k with
      | none =>
        cases e2 : findBy Value.isStrOf es k with
        | none => exact rfl
        | some u => rw [e1, e2] at rel; exact rel.elim
      | some v =>
        cases e2 : findBy Value.isStrOf es k with
        | none => rw [e1, e2] at rel; exact rel.elim
        | some u => rw [e1, e2] at rel; exact rel

/-! ### x.partition(a written text): behind it a token is out -/
theorem pss_part {n : Nat} {g : TGs} {es : List Expr} {kk : Nat} {tpos p1 : Pos} {c : Str} {j : Nat} {rest : List Stmt} {u : TS} (hc : X.calm = true) (ho : PE X o to) (hg : PGs X es g) (h2 : PSsT X rest u)
    (hs : starEach [.Constant (.str c) j p1] X.env = [(false, eval (.Constant (.str c) j p1) X.env)] := by rfl) (hbase : attributeBase o "partition" X.env (eval o X.env) = eval o X.env := by rfl) (hline : (apos.endLine == cpos.line) = true := by rfl)
    (hw1 : swapsWithSole [.Tuple es kk tpos] (.Call (.Attribute o "partition" apos) [.Constant (.str c) j p1] [] cpos) pos.line X.env = pure false := by rfl)
    (hw2 : swappedStores [.Tuple es kk tpos] (.Call (.Attribute o "partition" apos) [.Constant (.str c) j p1] [] cpos) X.env = pure none := by rfl)
    (hx : (assignEach [.Tuple es kk tpos] X.env).map (·.2) = [assign (.Tuple es kk tpos) X.env] := by rfl)
    (hn : (assignEach es X.env).length = n := by rfl) (hst : (assignEach es X.env).findIdx? (·.1) = none := by rfl) :
    PSs X (.Assign [.Tuple es kk tpos] (.Call (.Attribute o "partition" apos) [.Constant (.str c) j p1] [] cpos) pos :: rest)
      (tSeq (fun D σ H => to σ H fun x H1 => ∃ a, x = .str a ∧ (c.length == 0) = false ∧ a.length ≤ sizeLine ∧ ∀ p, H1 p = none → gTup X.K n g (.ref p) σ (upd H1 p (.tup [.str (Txt.partition a c).1, .str (Txt.partition a c).2.1, .str (Txt.partition a c).2.2])) D.nx) u) where
  run := fun pins s σ H D I h => by
    have one : wpAny (model X.prog X.w) X.A (eval (.Call (.Attribute o "partition" apos) [.Constant (.str c) j p1] [] cpos) X.env) (fun v s1 => 1 ≤ s1.toks ∧ EP X pins σ (fun v H1 => gTup X.K n g v σ H1 (u D)) v s1) X.xe s := by
      refine PySem.Call_method1 hbase hs hline (wpAny_mono (ho.run pins s σ H _ I h) ?_ fun _ _ z => z)
      rintro v s1 ⟨x, H1, I1, r1, a, rfl, h1, h2, q⟩
      obtain ⟨t, rfl⟩ := r1
      refine ⟨"str", _, PySem.F.plainAttrs_str, PySem.F.slot_str_partition, PySem.F.type_str_partition, typeIs_str _ _ _, (fun _ e => nomatch e), Calls.callWith_builtin rfl (Calls.evalArgs_plain (Calls.spliced_cons (Calls.Constant_str (Calls.spliced_nil ?_))))⟩
      have m := mt_partition (X := X) pins { s1 with toks := s1.toks + 1 } σ H1 (.str a) [.str c] _ _ (fun v H1 => gTup X.K n g v σ H1 (u D)) (I1.tok _) ⟨t, rfl⟩ (.cons ⟨s1.toks, rfl⟩ .nil) ⟨a, c, rfl, rfl, h1, h2, q⟩
      apply wpAny_mono (PySem.wpAny_toks m) _ fun _ _ z => z.2
      rintro v' s2 ⟨k, q'⟩
      exact ⟨Nat.le_trans (Nat.succ_le_succ (Nat.zero_le _)) k, q'⟩
    apply wpAny_execs_cons
    refine wpAny_Assign_stores (wpAny_mono one ?_ fun _ _ z => z) hw1 hw2
    rintro v s1 ⟨k, x, H1, I1, r1, q1⟩
    rw [hx]
    apply wpAny_mono (PySem.wpAny_toks ((pg_tup (pos := tpos) (k := kk) hc hg hn hst).run pins s1 σ H1 x v _ I1 r1 q1)) _ fun _ _ z => z.2
    rintro _ s2 ⟨k2, σ2, H2, I2, q2⟩
    exact h2 pins s2 σ2 H2 D (Nat.le_trans k k2) I2 q2
end
end IK
end
section
set_option Elab.async false
set_option linter.all false
set_option maxRecDepth 100000
set_option maxHeartbeats 4000000
namespace IK
open PySem PySem.Spec PyProof.Rows L2

/-! ### defs of the module under their names -/
section
variable (P : Program) (w : World) (K : PySem.W.Frag) (mg : Str → Option Value) (base : Heap) (CX : CXT)
structure Dn (k : Nat) (x : Str) (ps : List Str) (sp : Sp) : Prop where
  ex : ∃ f fd, mg x = some (.ref f) ∧ PySem.W.keepIn K (.ref f) = true ∧ Binds K fd ps [] ∧ FnOk P w K mg base CX k f fd ps sp
structure DnG (k : Nat) (x : Str) (ps : List Str) (sp : Sp) : Prop where
  ex : ∃ f fd, mg x = some (.ref f) ∧ PySem.W.keepIn K (.ref f) = true ∧ Binds K fd ps [] ∧ FnG P w K mg base CX k f fd ps sp
end
section
variable {X : Cx} {CX : CXT} {k : Nat} {x : Str} {ps : List Str} {sp : Sp} {E : XK} {p pos : Pos} {e : Expr} {es : List Expr} {t : TA}
/-- f(e, ..) -/
def tD (sp : Sp) (E : XK) (t : TA) : TE := fun σ H Q => t σ H fun vs H1 => sp vs H1 Q E
theorem pe_d (D : Dn X.prog X.w X.K X.mg X.base CX k x ps sp) (hr : Room k X.A) (hg : Gl X x) (hx : Passes CX X E) (ha : PA X (e :: es) t) (hdb : (x == ("__debug__" : Str)) = false := by decide)
    (he : starEach (e :: es) X.env = (false, eval e X.env) :: starEach es X.env := by rfl) (hpl : (backTo pos (starEach es X.env)).any (·.1) = false := by rfl) : PE X (.Call (.Name x p) (e :: es) [] pos) (tD sp E t) where
  run := fun pins s σ H Q I h => by
    obtain ⟨f, fd, hm, hk, hb, F⟩ := D.ex
    refine (pe_call F hr hg hm hk hb .nil hx ha hdb he hpl).run pins s σ H Q I ?_
    refine (?_ : t σ H fun vs H1 => sp (vs ++ []) H1 Q E)
    have z : (fun (vs : List V) (H1 : Hp) => sp (vs ++ []) H1 Q E) = fun vs H1 => sp vs H1 Q E := by
      funext vs H1
      rw [List.append_nil]
    rw [z]
    exact h
theorem pe_dG (D : DnG X.prog X.w X.K X.mg X.base CX k x ps sp) (hr : Room k X.A) (gd : X.A.guards = some []) (hg : Gl X x) (hx : Passes CX X E) (ha : PA X (e :: es) t) (hdb : (x == ("__debug__" : Str)) = false := by decide)
    (he : starEach (e :: es) X.env = (false, eval e X.env) :: starEach es X.env := by rfl) (hpl : (backTo pos (starEach es X.env)).any (·.1) = false := by rfl) : PE X (.Call (.Name x p) (e :: es) [] pos) (tD sp E t) where
  run := fun pins s σ H Q I h => by
    obtain ⟨f, fd, hm, hk, hb, F⟩ := D.ex
    exact (pe_callG F hr gd hg hm hk hb hx ha hdb he hpl).run pins s σ H Q I h
end
/-- x in a text, x a text -/
theorem nil_ne : ([] : List V) = [] := rfl
end IK
end
section
set_option Elab.async false
set_option linter.all false
set_option maxRecDepth 100000
set_option maxHeartbeats 4000000
namespace IK
open PySem PySem.Spec PyProof.Rows L2
/-! ### code that is not reached -/
theorem pss_dead {X : Cx} {l : List Stmt} : PSs X l (fun _ _ _ => False) := ⟨fun _ _ _ _ _ _ h => h.elim⟩
theorem ps_dead {X : Cx} {st : Stmt} : PS X st (fun _ _ _ => False) := ⟨fun _ _ _ _ _ _ h => h.elim⟩
theorem pe_dead {X : Cx} {e : Expr} : PE X e (fun _ _ _ => False) := ⟨fun _ _ _ _ _ _ h => h.elim⟩
/-! ### C.m(self, ..), m a def of the class C -/
/-- what is read of the class at C, named x, and its def m at f -/
structure CFn (K : PySem.W.Frag) (mg : Str → Option Value) (x : Str) (C : Addr) (m : Str) (f : Addr) : Prop where
  at_ : mg x = some (.ref C)
  sp : PySem.W.specialIn K (.ref C) "__getattribute__" = some (some (.builtin "type.__getattribute__"))
  rd : PySem.W.readsIn K C (.type "type") = true
  fi : PySem.W.findCls K (.ref C) (.type "type") m = some (.val (.ref f))
  kp : PySem.W.keepIn K (.ref f) = true
section
variable {X : Cx} {CX : CXT} {k : Nat} {x m : Str} {C f : Addr} {fd : FuncData} {ps : List Str} {sp : Sp} {E : XK} {p1 p2 pos : Pos} {e : Expr} {es : List Expr} {ta : TA}
theorem pe_cfn {pl : Sem Bool} (T : CFn X.K X.mg x C m f) (F : FnOk X.prog X.w X.K X.mg X.base CX k f fd ps sp) (hr : Room k X.A) (hb : Binds X.K fd ps []) (hx : Passes CX X E) (hg : Gl X x) (ha : PA X (e :: es) ta) (hdb : (x == ("__debug__" : Str)) = false := by decide)
    (hc : eval (.Call (.Attribute (.Name x p1) m p2) (e :: es) [] pos) X.env = (do
      let ov ← eval (.Name x p1) X.env
      standAt p2.atName
      let (f, first) ← holding [ov] (getMethod ov m pl)
      callWith pos f first (backTo pos (starEach (e :: es) X.env)) (backToKw pos (keywordEach [] X.env))) := by rfl)
    (he : starEach (e :: es) X.env = (false, eval e X.env) :: starEach es X.env := by rfl) (hpl : (backTo pos (starEach es X.env)).any (·.1) = false := by rfl) :
    PE X (.Call (.Attribute (.Name x p1) m p2) (e :: es) [] pos) (tD sp E ta) where
  run := fun pins s σ H Q I h => by
    apply PySem.W.methodCall_KW (ld_glob I hg T.at_ _ hdb) hc
    apply getcls_ok I T.sp T.rd T.fi (by rfl)
    intro s' I'
    show wpAny _ _ (callWith pos (Value.ref f) [] (backTo pos (starEach (e :: es) X.env)) []) _ _ _
    refine PySem.W.callWith_K (h₀ := X.base) I'.ok.mod.kin T.kp (wpAny_mono (ha.run pos pins _ σ H _ I' h) ?_ fun _ _ z => z) he hpl
    rintro us s1 ⟨vs, H1, I1, r, q⟩
    refine ⟨I1.kIn, ?_⟩
    exact run_fn F hr hb .nil hx I1 r (by rw [List.append_nil]; exact q)
end
end IK
end
section
set_option Elab.async false
set_option linter.all false
set_option maxRecDepth 100000
set_option maxHeartbeats 4000000
namespace IK
open PySem PySem.Spec PyProof.Rows L2
/-! ### methods and makers under their names -/
section
variable (P : Program) (w : World) (K : PySem.W.Frag) (mg : Str → Option Value) (base : Heap) (CX : CXT)
/-- m of the class at C keeps its promise -/
structure Me (k : Nat) (C : Addr) (m : Str) (ps : List Str) (sp : Sp) : Prop where
  ex : ∃ f fd, Meth K C m f ∧ Binds K fd ps [] ∧ FnOk P w K mg base CX k f fd ps sp
/-- the class named x, made by its own __init__ -/
structure Ma (k : Nat) (x : Str) (C : Addr) (ps : List Str) (sp : Sp) : Prop where
  ex : ∃ f fd, mg x = some (.ref C) ∧ Mk K C f ∧ Binds K fd ps [] ∧ FnOk P w K mg base CX k f fd ps sp
/-- m of the class at C, called by the class's name x -/
structure Cm (k : Nat) (x : Str) (C : Addr) (m : Str) (ps : List Str) (sp : Sp) : Prop where
  ex : ∃ f fd, CFn K mg x C m f ∧ Binds K fd ps [] ∧ FnOk P w K mg base CX k f fd ps sp
end
section
variable {X : Cx} {CX : CXT} {k : Nat} {C : Addr} {x m : Str} {ps : List Str} {sp : Sp} {E : XK} {p p1 p2 pos apos : Pos} {o e : Expr} {es : List Expr} {t ta : TA} {to : TE}
theorem pe_me {pl : Sem Bool} (D : Me X.prog X.w X.K X.mg X.base CX k C m ps sp) (c : Cls X.K C) (hr : Room k X.A) (hx : Passes CX X E) (he : PE X o to) (ha : PA X (e :: es) t)
    (hst : starEach (e :: es) X.env = (false, eval e X.env) :: starEach es X.env := by rfl) (hpl : (backTo pos (starEach es X.env)).any (·.1) = false := by rfl)
    (ht : eval (.Call (.Attribute o m apos) (e :: es) [] pos) X.env = (do
      let ov ← eval o X.env
      standAt apos.atName
      let (f, first) ← holding [ov] (getMethod ov m pl)
      callWith pos f first (backTo pos (starEach (e :: es) X.env)) (backToKw pos (keywordEach [] X.env))) := by rfl) :
    PE X (.Call (.Attribute o m apos) (e :: es) [] pos) (tMeth C m sp [] E to t) where
  run := fun pins s σ H Q I h => by
    obtain ⟨f, fd, hm, hb, F⟩ := D.ex
    exact (pe_meth he c hm F hr hb .nil hx ha hst hpl ht).run pins s σ H Q I h
theorem pe_me0 {pl : Sem Bool} (D : Me X.prog X.w X.K X.mg X.base CX k C m ps sp) (c : Cls X.K C) (hr : Room k X.A) (hx : Passes CX X E) (he : PE X o to)
    (ht : eval (.Call (.Attribute o m apos) [] [] pos) X.env = (do
      let ov ← eval o X.env
      standAt apos.atName
      let (f, first) ← holding [ov] (getMethod ov m pl)
      callWith pos f first (backTo pos (starEach [] X.env)) (backToKw pos (keywordEach [] X.env))) := by rfl) :
    PE X (.Call (.Attribute o m apos) [] [] pos) (tMeth C m sp [] E to tNil) where
  run := fun pins s σ H Q I h => by
    obtain ⟨f, fd, hm, hb, F⟩ := D.ex
    exact (pe_meth0 he c hm F hr hb .nil hx ht).run pins s σ H Q I h
theorem pe_ma (D : Ma X.prog X.w X.K X.mg X.base CX k x C ps sp) (hr : Room (k + 1) X.A) (hg : Gl X x) (hx : Passes CX X E) (ha : PA X (e :: es) t) (hdb : (x == ("__debug__" : Str)) = false := by decide)
    (he : starEach (e :: es) X.env = (false, eval e X.env) :: starEach es X.env := by rfl) (hpl : (backTo pos (starEach es X.env)).any (·.1) = false := by rfl) :
    PE X (.Call (.Name x p) (e :: es) [] pos) (tMake C sp [] E t) where
  run := fun pins s σ H Q I h => by
    obtain ⟨f, fd, hm, M, hb, F⟩ := D.ex
    exact (pe_make M F hr hg hm hb .nil hx ha hdb he hpl).run pins s σ H Q I h
theorem pe_cm {pl : Sem Bool} (D : Cm X.prog X.w X.K X.mg X.base CX k x C m ps sp) (hr : Room k X.A) (hg : Gl X x) (hx : Passes CX X E) (ha : PA X (e :: es) ta) (hdb : (x == ("__debug__" : Str)) = false := by decide)
    (hc : eval (.Call (.Attribute (.Name x p1) m p2) (e :: es) [] pos) X.env = (do
      let ov ← eval (.Name x p1) X.env
      standAt p2.atName
      let (f, first) ← holding [ov] (getMethod ov m pl)
      callWith pos f first (backTo pos (starEach (e :: es) X.env)) (backToKw pos (keywordEach [] X.env))) := by rfl)
    (he : starEach (e :: es) X.env = (false, eval e X.env) :: starEach es X.env := by rfl) (hpl : (backTo pos (starEach es X.env)).any (·.1) = false := by rfl) :
    PE X (.Call (.Attribute (.Name x p1) m p2) (e :: es) [] pos) (tD sp E ta) where
  run := fun pins s σ H Q I h => by
    obtain ⟨f, fd, T, hb, F⟩ := D.ex
    exact (pe_cfn T F hr hb hx hg ha hdb hc he hpl).run pins s σ H Q I h
end
/-! ### fields by a list of their names -/
theorem put_app {k : Str} {v : V} : ∀ {l : List (Str × V)}, k ∉ l.map (·.1) → putF k v l = l ++ [(k, v)]
  | [], _ => rfl
  | (g, x) :: r, h => by
    have h1 : ¬ g = k := fun z => h (by simp [z])
    have h2 : k ∉ r.map (·.1) := fun z => h (List.mem_cons_of_mem _ z)
    show (if g = k then (g, v) :: r else (g, x) :: putF k v r) = _
    rw [if_neg h1, put_app h2]
    rfl
theorem put_zip {ks : List Str} {vs : List V} {k : Str} {v : V} (hl : ks.length = vs.length) (hk : k ∉ ks) : putF k v (ks.zip vs) = (ks ++ [k]).zip (vs ++ [v]) := by
  rw [put_app (by rw [List.map_fst_zip (Nat.le_of_eq hl)]; exact hk), List.zip_append hl]
  rfl
theorem put_same {k : Str} {v : V} : ∀ {ks : List Str} {vs : List V} {i : Nat}, ks.length = vs.length → ks.Nodup → ks[i]? = some k → putF k v (ks.zip vs) = ks.zip (vs.set i v)
  | [], _, i, _, _, hi => by simp at hi
  | g :: ks, [], i, hl, _, _ => by simp at hl
  | g :: ks, x :: vs, 0, hl, hn, hi => by
    have : g = k := by simpa using hi
    subst this
    show (if g = g then (g, v) :: ks.zip vs else _) = _
    rw [if_pos rfl]
    rfl
  | g :: ks, x :: vs, i + 1, hl, hn, hi => by
    have hi' : ks[i]? = some k := by simpa using hi
    obtain ⟨hg, hn'⟩ := List.nodup_cons.mp hn
    have h1 : ¬ g = k := fun z => hg (z ▸ List.mem_of_getElem? hi')
    show (if g = k then _ else (g, x) :: putF k v (ks.zip vs)) = _
    rw [if_neg h1, put_same (by simpa using hl) hn' hi']
    rfl
theorem look_zip : ∀ {ks : List Str} {vs : List V} {k : Str} {v : V} {i : Nat}, ks.Nodup → ks[i]? = some k → vs[i]? = some v → (ks.zip vs).lookup k = some v
  | [], _, _, _, i, _, hi, _ => by simp at hi
  | g :: ks, [], _, _, i, _, _, hv => by simp at hv
  | g :: ks, x :: vs, k, v, 0, _, hi, hv => by
    have h1 : g = k := by simpa using hi
    have h2 : x = v := by simpa using hv
    subst h1 h2
    show (match g == g with | true => some x | false => _) = _
    rw [beq_self_eq_true]
  | g :: ks, x :: vs, k, v, i + 1, hn, hi, hv => by
    have hi' : ks[i]? = some k := by simpa using hi
    have hv' : vs[i]? = some v := by simpa using hv
    obtain ⟨hg, hn'⟩ := List.nodup_cons.mp hn
    have h1 : (k == g) = false := by
      cases e : k == g with
      | false => rfl
      | true => exact absurd (List.mem_of_getElem? hi') (by rw [eq_of_beq e]; exact hg)
    show (match k == g with | true => some x | false => (ks.zip vs).lookup k) = _
    rw [h1]
    exact look_zip hn' hi' hv'
theorem look_no {k : Str} : ∀ {ks : List Str} {vs : List V}, k ∉ ks → (ks.zip vs).lookup k = none
  | [], _, _ => rfl
  | g :: ks, [], _ => rfl
  | g :: ks, x :: vs, h => by
    have h1 : (k == g) = false := by
      cases e : k == g with
      | false => rfl
      | true => exact absurd (by rw [eq_of_beq e]; exact List.mem_cons_self) h
    show (match k == g with | true => some x | false => (ks.zip vs).lookup k) = _
    rw [h1]
    exact look_no fun z => h (List.mem_cons_of_mem _ z)
end IK
end
section
set_option Elab.async false
set_option linter.all false
set_option maxRecDepth 100000
set_option maxHeartbeats 4000000
namespace IK
open PySem PySem.Spec PyProof.Rows L2
/-! ### repr of a dict: its keys ints and texts, its values data without dicts -/
def keyD : Key → PyData
  | .inl i => .int i
  | .inr x => .str x
def dictD (kvs : List (Key × V)) (ds : List PyData) : PyData := .dict ((kvs.map fun p => keyD p.1).zip ds)
def rReprM (K : PySem.W.Frag) : List V → Hp → VK → Prop := fun xs H Q => ∃ (a : Addr) (kvs : List (Key × V)) (ds : List PyData), xs = [.ref a] ∧ H a = some (.dK kvs) ∧ DpAll K H (kvs.map (·.2)) ds ∧ (dictD kvs ds).showable = true ∧
  PyData.hasDictAll ds = false ∧ (dictD kvs ds).depth ≤ 40 ∧ (dictD kvs ds).shown.length ≤ sizeLine ∧ Q (.str (dictD kvs ds).shown) H
theorem dpAll_len {K : PySem.W.Frag} {H : Hp} : ∀ {vs : List V} {ds : List PyData}, DpAll K H vs ds → vs.length = ds.length
  | [], _, h => by cases h; rfl
  | v :: vs, _, h => by
    cases h with
    | cons h1 h2 => simp [dpAll_len h2]
theorem keys_read {P : Program} {w : World} {h : Heap} : ∀ {es : List DictEntry} {vs : List (Key × Value)} {kvs : List (Key × V)}, PySem.Pairs (mixKind P w) es vs → KV kvs vs → (∃ as, ReadsAll h (es.map (·.key)) (kvs.map fun p => keyD p.1) as) ∧ Vals (kvs.map (·.2)) (es.map (·.val))
  | _, _, _, .nil, .nil => ⟨⟨_, .nil⟩, .nil⟩
  | _, _, _, .cons h1 h2 hr, .cons r1 rr => by
    obtain ⟨⟨as, q1⟩, q2⟩ := keys_read hr rr
    obtain ⟨e1, e2⟩ := r1
    refine ⟨?_, .cons (by show RelV _ _; dsimp only; rw [h2]; exact e2) q2⟩
    rcases keyIs_shape h1 with ⟨i, t, k1, k2⟩ | ⟨x, t, k1, k2⟩
    · refine ⟨_, ReadsAll.cons (as := []) ?_ q1⟩
      dsimp only
      rw [k2, e1, k1]
      exact .int i t
    · refine ⟨_, ReadsAll.cons (as := []) ?_ q1⟩
      dsimp only
      rw [k2, e1, k1]
      exact .str x t
theorem keysD_no : ∀ kvs : List (Key × V), PyData.hasDictAll (kvs.map fun p => keyD p.1) = false
  | [] => by simp [PyData.hasDictAll]
  | (.inl i, v) :: r => by
    rw [List.map_cons, PyData.hasDictAll, keysD_no r]
    simp [keyD, PyData.hasDict]
  | (.inr x, v) :: r => by
    rw [List.map_cons, PyData.hasDictAll, keysD_no r]
    simp [keyD, PyData.hasDict]
theorem call_reprM {X : Cx} (gd : X.A.guards = some []) (hu : X.A.units + 64 < cLine) : CallR X (.builtin "repr") (rReprM X.K) := by
  intro pins s σ H xs us Q I r h
  obtain ⟨a, kvs, ds, rfl, ha, hd, sh, nd, dp, sz, q⟩ := h
  cases r with
  | cons r1 r2 =>
  cases r2
  cases r1
  obtain ⟨_, hsys, vs, kv, o, es, ep, ho, ex, hdat, _, prs, _⟩ := dk_of I.hok ha
  obtain ⟨⟨as, rk⟩, hv⟩ := keys_read (h := s.heap) prs kv
  obtain ⟨bs, rv⟩ := Dp.readsAll I ds _ _ hd hv
  have hl : (kvs.map fun p => keyD p.1).length = ds.length := by rw [← dpAll_len hd]; simp
  have e1 : ((kvs.map fun p => keyD p.1).zip ds).map (·.1) = kvs.map fun p => keyD p.1 := List.map_fst_zip (Nat.le_of_eq hl)
  have e2 : ((kvs.map fun p => keyD p.1).zip ds).map (·.2) = ds := List.map_snd_zip (Nat.le_of_eq hl.symm)
  unfold dictD at sh dp sz q
  rw [← e1] at rk
  rw [← e2] at rv nd
  have nk0 := keysD_no kvs
  rw [← e1] at nk0
  generalize (kvs.map fun p => keyD p.1).zip ds = zs at rk rv nd sh dp sz q nk0
  have nk : PyData.hasDictAll (zs.map (·.1)) = false := nk0
  obtain ⟨sh1, sh2⟩ := PyData.showableKv_split zs (by simpa [PyData.showable] using sh)
  have hz : (dictText (PyData.shownKv zs)).length ≤ sizeLine := by simpa only [PyData.shown] using sz
  obtain ⟨b1, hb1, k1⟩ := ReprAllK.of_readsAll (prog := X.prog) (w := X.w) rk sh1 (fun z => by rw [nk] at z; cases z) fun t ht => by
    obtain ⟨p, hp, hl⟩ := PyData.shownKv_key_le zs t ht
    exact Nat.le_trans hl (Nat.le_trans (dictText_mem_le hp) hz)
  obtain ⟨b2, hb2, k2⟩ := ReprAllK.of_readsAll (prog := X.prog) (w := X.w) rv sh2 (fun z => by rw [nd] at z; cases z) fun t ht => by
    obtain ⟨p, hp, hl⟩ := PyData.shownKv_val_le zs t ht
    exact Nat.le_trans hl (Nat.le_trans (dictText_mem_le hp) hz)
  have R : Reads s.heap (.ref a) (.dict zs) _ := .dict ho ex.1 hdat rk rv
  have hn : a ∉ b1 ++ b2 := not_mem_of_deeper (n := PyData.depthKv zs) R (by simp only [PyData.depth]; omega)
    ((hb1.mono (PyData.depthAll_keys_le zs)).append (hb2.mono (PyData.depthAll_vals_le zs)))
  have dp' : PyData.depthKv zs + 1 ≤ 40 := by simpa only [PyData.depth] using dp
  have E := ReprEntriesK.of_two (as := b1 ++ b2) (d := PyData.depthKv zs) es.toList _ _
    (k1.more_le (fun b hb => List.mem_append_left _ hb) (PyData.depthAll_keys_le zs)) (k2.more_le (fun b hb => List.mem_append_right _ hb) (PyData.depthAll_vals_le zs))
  have q' : Q (.str (dictText (PyData.shownKv zs))) H := by simpa only [PyData.shown] using q
  rw [PyData.shownKv_eq] at q' hz
  refine call_repr_slot (by omega) (⟨o, ho, ex.1⟩ : s.TypeIs (.ref a) "dict") F.slot_dict_repr ?_
  refine call_dict_reprK ho ex.1 hdat hsys hn E gd (fun b _ => Clear.nil b) (by show X.A.units + 1 + (_ + 1) < cLine; omega) (fun b o e => e) (fun h' u tk hk => ?_) hz
  exact ⟨_, _, rfl, .str _, H, I.kept (t' := tk) hk, ⟨u, rfl⟩, q'⟩
end IK
end
section
set_option Elab.async false
set_option linter.all false
set_option maxRecDepth 100000
set_option maxHeartbeats 4000000
namespace IK
open PySem PySem.Spec PyProof.Rows L2
/-! ### a list or a tuple -/
def SqA (K : PySem.W.Frag) (H : Hp) (a : Addr) (xs : List V) : Prop := SqL K H a xs ∨ SqT K H a xs
theorem SqA.l {K : PySem.W.Frag} {H : Hp} {a : Addr} {xs : List V} (h : H a = some (.lst xs)) : SqA K H a xs := .inl (.inl (.inl h))
theorem SqA.t {K : PySem.W.Frag} {H : Hp} {a : Addr} {xs : List V} (h : H a = some (.tup xs)) : SqA K H a xs := .inr (.inl (.inl h))
theorem rd_same {H H' : Hp} {a : Addr} {u : HO} (s : Same H H') (h : Rd H a u) : Rd H' a u := by
  rcases h with h | ⟨o, h⟩
  · exact .inl (s _ _ h)
  · exact .inr ⟨o, s _ _ h⟩
theorem sqT_same {K : PySem.W.Frag} {H H' : Hp} {a : Addr} {xs : List V} (s : Same H H') (h : SqT K H a xs) : SqT K H' a xs := by
  rcases h with h | h
  · exact .inl (rd_same s h)
  · exact .inr h
theorem sqL_same {K : PySem.W.Frag} {H H' : Hp} {a : Addr} {xs : List V} (s : Same H H') (h : SqL K H a xs) : SqL K H' a xs := by
  rcases h with h | h
  · exact .inl (rd_same s h)
  · exact .inr h
theorem SqA.same {K : PySem.W.Frag} {H H' : Hp} {a : Addr} {xs : List V} (h : SqA K H a xs) (s : Same H H') : SqA K H' a xs := by
  rcases h with h | h
  · exact .inl (sqL_same s h)
  · exact .inr (sqT_same s h)
def iSeq (K : PySem.W.Frag) (tl : TE) : TI := fun σ H R => tl σ H fun x H1 => ∃ a, x = .ref a ∧ (((∃ xs, SqL K H1 a xs) ∧ R (Itl K a) H1) ∨ ((∃ xs, SqT K H1 a xs) ∧ R (Itt K a) H1))
theorem pi_seq {X : Cx} {tg l : Expr} {tl : TE} (hl : PE X l tl) : PI X tg l (iSeq X.K tl) := ⟨fun pins s σ H R I h => by
  refine thn (hl.run pins s σ H _ I h) fun v s2 z => ?_
  obtain ⟨x, H2, I2, r2, a, rfl, q⟩ := z
  cases r2
  have I3 : Inv X pins σ H2 _ := I2
  rcases q with ⟨⟨xs, hq⟩, q⟩ | ⟨⟨xs, hq⟩, q⟩
  · obtain ⟨its, _, p, _⟩ := I2.list hq
    refine wpAny_pyIter_list p.isList ⟨_, [s2.heap.objs.size], _, _, H2, rfl, I2.kept (t' := s2.toks) fun b o e => Heap.get?_push_of_some _ e, turn_list a _, ⟨_, Heap.get?_push_size _ rfl, rfl, rfl⟩, fun b hb => ?_, q⟩
    obtain rfl := List.mem_singleton.mp hb
    exact I3.fpOk (Nat.le_refl _) (I3.hok.fresh (Nat.le_refl _))
  · obtain ⟨its, _, p, _⟩ := I2.tuple hq
    refine wpAny_pyIter_tuple (show s2.heap.IsTuple a its.toArray from p) ⟨_, [s2.heap.objs.size], _, _, H2, rfl, I2.kept (t' := s2.toks) fun b o e => Heap.get?_push_of_some _ e, turn_tuple a _, ⟨_, Heap.get?_push_size _ rfl, rfl, rfl⟩, fun b hb => ?_, q⟩
    obtain rfl := List.mem_singleton.mp hb
    exact I3.fpOk (Nat.le_refl _) (I3.hok.fresh (Nat.le_refl _))⟩
/-- what stands at a is as it was -/
def Kp (K : PySem.W.Frag) (a : Addr) (H H' : Hp) : Prop := ∀ xs, (SqL K H a xs → SqL K H' a xs) ∧ (SqT K H a xs → SqT K H' a xs)
theorem Same.kp {K : PySem.W.Frag} {a : Addr} {H H' : Hp} (s : Same H H') : Kp K a H H' := fun xs => ⟨sqL_same s, sqT_same s⟩
section
variable {K : PySem.W.Frag} {a : Addr} {xs : List V}
theorem for_seq {g : TG} {tb : TS} {D : Ends} {σ : L2.St} {H : Hp} (hq : SqA K H a xs) (Pv : Nat → L2.St → Hp → Prop) (h0 : Pv 0 σ H) (hG : ∀ i σ H', Pv i σ H' → Kp K a H H')
    (hs : ∀ i x σ H, xs[i]? = some x → Pv i σ H → g x σ H fun σ2 H2 => tb { D with nx := Pv (i + 1), ct := Pv (i + 1), bk := D.nx } σ2 H2) (hd : ∀ σ H, Pv xs.length σ H → D.nx σ H) :
    ((∃ xs, SqL K H a xs) ∧ ∃ W : Nat → Nat → L2.St → Hp → Prop, (∃ m, W 0 m σ H) ∧ ∀ i m σ H, W i m σ H →
      (((Itl K a)).stop i H ∧ D.nx σ H) ∨ ((Itl K a).go i H ∧ ∃ N : L2.St → Hp → Prop, (∀ σ' H', N σ' H' → ∃ m', m' < m ∧ W (i + 1) m' σ' H') ∧ ∀ x H', (Itl K a).yld i H x H' → g x σ H' fun σ2 H2 => tb { D with nx := N, ct := N, bk := D.nx } σ2 H2)) ∨
    ((∃ xs, SqT K H a xs) ∧ ∃ W : Nat → Nat → L2.St → Hp → Prop, (∃ m, W 0 m σ H) ∧ ∀ i m σ H, W i m σ H →
      (((Itt K a)).stop i H ∧ D.nx σ H) ∨ ((Itt K a).go i H ∧ ∃ N : L2.St → Hp → Prop, (∀ σ' H', N σ' H' → ∃ m', m' < m ∧ W (i + 1) m' σ' H') ∧ ∀ x H', (Itt K a).yld i H x H' → g x σ H' fun σ2 H2 => tb { D with nx := N, ct := N, bk := D.nx } σ2 H2)) := by
  rcases hq with hq | hq
  · refine .inl ⟨⟨xs, hq⟩, for_it (walk_list (xs := xs)) Pv h0 (fun i σ H' _ p => (hG i σ H' p xs).1 hq) (fun i x σ H1 H2 hi p y => ?_) hd⟩
    obtain ⟨e, y⟩ := y
    exact e ▸ hs i x σ _ y p
  · refine .inr ⟨⟨xs, hq⟩, for_it (walk_tup (xs := xs)) Pv h0 (fun i σ H' _ p => (hG i σ H' p xs).2 hq) (fun i x σ H1 H2 hi p y => ?_) hd⟩
    obtain ⟨e, y⟩ := y
    exact e ▸ hs i x σ _ y p
theorem lc_seq {g : TG} {tt : TT} {te : TE} {vs : List Nat} {σ : L2.St} {H1 : Hp} {Qd : Addr → Hp → Prop} (hq : SqA K H1 a xs) (Pv : Addr → Nat → Hp → Prop)
    (h : ∀ D, H1 D = none → Pv D 0 (upd H1 D (.lst [])) ∧ (∀ i H, Pv D i H → Kp K a H1 H) ∧
    (∀ i x H, xs[i]? = some x → Pv D i H → g x (wipe σ vs) H fun σ2 H2 => wipe σ2 vs = wipe σ vs ∧ tt σ2 H2 fun b H3 =>
      if b = true then te σ2 H3 fun y H4 => ∃ acc, H4 D = some (.lst acc) ∧ acc.length < sizeLine ∧ Pv D (i + 1) (upd H4 D (.lst (acc ++ [y]))) else Pv D (i + 1) H3) ∧ (∀ H, Pv D xs.length H → Qd D H)) :
    ((∃ xs, SqL K H1 a xs) ∧ ∀ D, H1 D = none → ∃ W : Nat → Nat → Hp → Prop, (∃ m, W 0 m (upd H1 D (.lst []))) ∧ ∀ i m H, W i m H →
      ((Itl K a).stop i H ∧ Qd D H) ∨ ((Itl K a).go i H ∧ ∃ Nx : Hp → Prop, (∀ H', Nx H' → ∃ m', m' < m ∧ W (i + 1) m' H') ∧ ∀ x H', (Itl K a).yld i H x H' → g x (wipe σ vs) H' fun σ2 H2 => wipe σ2 vs = wipe σ vs ∧ tt σ2 H2 fun b H3 =>
        if b = true then te σ2 H3 fun y H4 => ∃ acc, H4 D = some (.lst acc) ∧ acc.length < sizeLine ∧ Nx (upd H4 D (.lst (acc ++ [y]))) else Nx H3)) ∨
    ((∃ xs, SqT K H1 a xs) ∧ ∀ D, H1 D = none → ∃ W : Nat → Nat → Hp → Prop, (∃ m, W 0 m (upd H1 D (.lst []))) ∧ ∀ i m H, W i m H →
      ((Itt K a).stop i H ∧ Qd D H) ∨ ((Itt K a).go i H ∧ ∃ Nx : Hp → Prop, (∀ H', Nx H' → ∃ m', m' < m ∧ W (i + 1) m' H') ∧ ∀ x H', (Itt K a).yld i H x H' → g x (wipe σ vs) H' fun σ2 H2 => wipe σ2 vs = wipe σ vs ∧ tt σ2 H2 fun b H3 =>
        if b = true then te σ2 H3 fun y H4 => ∃ acc, H4 D = some (.lst acc) ∧ acc.length < sizeLine ∧ Nx (upd H4 D (.lst (acc ++ [y]))) else Nx H3)) := by
  rcases hq with hq | hq
  · refine .inl ⟨⟨xs, hq⟩, fun D hD => ?_⟩
    obtain ⟨h0, hG, hs, hd⟩ := h D hD
    exact lc_it (walk_list (xs := xs)) (Pv D) h0 (fun i H' _ p => (hG i H' p xs).1 hq) (fun i x H1 H2 hi p ⟨e, y⟩ => e ▸ hs i x _ y p) hd
  · refine .inr ⟨⟨xs, hq⟩, fun D hD => ?_⟩
    obtain ⟨h0, hG, hs, hd⟩ := h D hD
    exact lc_it (walk_tup (xs := xs)) (Pv D) h0 (fun i H' _ p => (hG i H' p xs).2 hq) (fun i x H1 H2 hi p ⟨e, y⟩ => e ▸ hs i x _ y p) hd
end
end IK
end
section
set_option Elab.async false
set_option linter.all false
set_option maxRecDepth 100000
set_option maxHeartbeats 4000000
/-! ### len(set(texts)) -/
namespace SS
open PySem PySem.Spec PyProof.Rows
theorem texts_at : ∀ {us : List Value} {xs : List Str}, StrsAre us xs → ∀ (i : Nat) (v : Value), us[i]? = some v → ∃ t, v = .str (xs.getD i Str.empty) t
  | _, _, .nil, i, v, h => by simp at h
  | _, _, .cons n t hr, 0, v, h => by simp at h; exact ⟨t, by rw [← h] <;> rfl⟩
  | _, _, .cons n t hr, i + 1, v, h => by
    simp only [List.getElem?_cons_succ] at h
    obtain ⟨t', e⟩ := texts_at hr i v h
    exact ⟨t', by rw [e] <;> rfl⟩
/-- how many unlike ones the first i are -/
def cnt (xs : List Str) : Nat → Nat
  | 0 => 0
  | i + 1 => if (xs.take i).any (· == xs.getD i Str.empty) = true then cnt xs i else cnt xs i + 1
theorem cnt_le (xs : List Str) : ∀ i, cnt xs i ≤ i
  | 0 => Nat.le_refl _
  | i + 1 => by
    have := cnt_le xs i
    unfold cnt
    split <;> omega
theorem cnt_nd {xs : List Str} : ∀ i, i ≤ xs.length → (cnt xs i = i ↔ (xs.take i).Nodup)
  | 0, _ => by simp [cnt]
  | i + 1, h => by
    have ih := cnt_nd (xs := xs) i (by omega)
    have hi : i < xs.length := by omega
    have e : xs.take (i + 1) = xs.take i ++ [xs[i]] := by rw [List.take_add_one, List.getElem?_eq_getElem hi]; rfl
    have e2 : xs.getD i Str.empty = xs[i] := by rw [List.getD_eq_getElem?_getD, List.getElem?_eq_getElem hi]; rfl
    have le := cnt_le xs i
    unfold cnt
    rw [e, e2, List.nodup_append]
    by_cases hb : (xs.take i).any (· == xs[i]) = true
    · rw [if_pos hb]
      constructor
      · intro z; omega
      · rintro ⟨_, _, z⟩
        obtain ⟨y, hy, ey⟩ := List.any_eq_true.mp hb
        exact absurd (eq_of_beq ey) (z y hy _ (List.mem_singleton.mpr rfl))
    · rw [if_neg hb]
      constructor
      · intro z
        refine ⟨ih.mp (by omega), by simp, fun a ha b hb2 e => ?_⟩
        rw [List.mem_singleton] at hb2
        exact hb (List.any_eq_true.mpr ⟨a, ha, by rw [e, hb2]; exact beq_self_eq_true _⟩)
      · rintro ⟨z, _⟩
        have := ih.mpr z
        omega
theorem cnt_all {xs : List Str} : cnt xs xs.length = xs.length ↔ xs.Nodup := by
  rw [cnt_nd xs.length (Nat.le_refl _), List.take_length]
section
variable {prog : Program} {w : World} {A : Around} {R : Result → Shared → Prop} {I : Addr} {fp wr : List Addr} {G : Array GenState → Array GenState → Prop} {n : Nat} {P : Nat → Value → Prop} {St : Nat → Shared → Prop}
theorem loopStrN (W : WalksS prog w A.in1 I fp wr G n P St) (S : Addr) (hSf : S ∉ fp) (xs : List Str) (hsz : xs.length = n) (hn1 : n ≤ 1000)
    (hval : ∀ i v, P i v → ∃ t, v = .str (xs.getD i Str.empty) t) :
    ∀ (k i : Nat) (s : Shared), n - i = k → i ≤ n → St i s →
      s.heap.SetOf (PySem.strKind prog w) S (fun k' => (xs.take i).any (· == k')) (cnt xs i) →
      (∀ s', Moved (S :: wr) G s s' → s'.heap.SetOf (PySem.strKind prog w) S (fun k' => (xs.take n).any (· == k')) (cnt xs n) → R (.ok (.ret .none)) s') →
      codeAny (model prog w) A (.builtin "set.update.loop" ⟨[.ref S, .ref I], []⟩) R s := by
  have hSw : S ∉ wr := fun h => hSf (W.sub _ h)
  have hsub : ∀ b ∈ wr, b ∈ S :: wr := fun b hb => List.mem_cons_of_mem _ hb
  intro k
  induction k with
  | zero =>
    intro i s hk hi hst hS hR
    have hin : i = n := by omega
    subst hin
    refine codeAny_builtin PyProof.Rows.F.entry_set_update_loop ?_
    rw [Around.under_plainId PyProof.Rows.F.plain_set_update_loop _]
    show wpAny _ A.in1 (pyNext (.ref I) >>= _) _ _ s
    refine wpAny_bind (W.done s _ _ hst fun s' hm => ?_)
    show wpAny _ A.in1 (ret Value.none) _ _ s'
    exact wpAny_pure (hR s' (hm.mono hsub) (by
      obtain ⟨o, es, ep, t, ho, rest⟩ := hS
      exact ⟨o, es, ep, t, hm.heap S _ hSw ho, rest⟩))
  | succ k ih =>
    intro i s hk hi hst hS hR
    have hlt : i < n := by omega
    refine codeAny_builtin PyProof.Rows.F.entry_set_update_loop ?_
    rw [Around.under_plainId PyProof.Rows.F.plain_set_update_loop _]
    show wpAny _ A.in1 (pyNext (.ref I) >>= _) _ _ s
    refine wpAny_bind (W.item i s _ _ hlt hst fun v s' hP hst' hm => ?_)
    obtain ⟨t, rfl⟩ := hval i v hP
    have hS' : s'.heap.SetOf (PySem.strKind prog w) S (fun k' => (xs.take i).any (· == k')) (cnt xs i) := by
      obtain ⟨o, es, ep, tb, ho, rest⟩ := hS
      exact ⟨o, es, ep, tb, hm.heap S _ hSw ho, rest⟩
    show wpAny _ A.in1 (holding [Value.str (xs.getD i Str.empty) t] (setAdd S (.str (xs.getD i Str.empty) t)) >>= _) _ _ s'
    refine wpAny_bind (wpAny_holding ?_)
    unfold setAdd
    refine wpAny_holding ?_
    refine wpAny_bind ((PySem.strKind prog w).pyHash (k := xs.getD i Str.empty) (strKind_is _ _ _ _) ?_)
    have cl := cnt_le xs i
    refine wpAny_setAddHashed_of (knd := PySem.strKind prog w) (s := { s' with toks := s'.toks + 1 }) (strKind_is _ _ _ _) rfl hS' (by unfold scanBound; omega) fun h' hsb hS2 => ?_
    have hSi : h'.SetOf (PySem.strKind prog w) S (fun k' => (xs.take (i + 1)).any (· == k')) (cnt xs (i + 1)) := by
      have hi2 : i < xs.length := by omega
      have e : xs.take (i + 1) = xs.take i ++ [xs[i]] := by rw [List.take_add_one, List.getElem?_eq_getElem hi2]; rfl
      have e2 : xs.getD i Str.empty = xs[i] := by rw [List.getD_eq_getElem?_getD, List.getElem?_eq_getElem hi2]; rfl
      refine SetOf_congr hS2 (fun k' => ?_) (by rfl)
      show ((xs.take i).any (· == k') || decide (k' = xs.getD i Str.empty)) = (xs.take (i + 1)).any (· == k')
      rw [e, e2, List.any_append]
      congr 1
      show decide (k' = xs[i]) = ([xs[i]].any (· == k'))
      by_cases e : k' = xs[i]
      · rw [e]; simp
      · have hb : (xs[i] == k') = false := by simpa [beq_iff_eq] using (fun h' : xs[i] = k' => e h'.symm)
        simp [hb, e]
    refine wpAny_pure ⟨plainId_quiet PyProof.Rows.F.plain_set_update_loop _, ih (i + 1) _ (by omega) hlt (W.frame _ s' _ _ hst' (Nat.le_succ _) fun b hb o e => ?_) hSi fun s'' hm'' hS'' => ?_⟩
    · rw [hsb.2 b (fun h : b = S => hSf (by rw [← h]; exact hb))]; exact e
    · refine hR s'' (Moved.trans W.gtrans ((hm.mono hsub).then_heap (Nat.le_succ _) fun b o hb e => ?_) hm'') hS''
      rw [hsb.2 b (fun h : b = S => hb (by rw [h]; exact List.mem_cons_self))]; exact e
end
section
variable {prog : Program} {w : World} {A : Around} {E : Value → Shared → Prop} {s : Shared}
set_option maxHeartbeats 3200000 in
theorem call_set_listN {l : Addr} {items : Array Value} {xs : List Str} {Q : Value → Shared → Prop}
    (hh : A.handled = none) (hl : s.heap.IsList l items) (hi : PyProof.Rows.StrsAre items.toList xs) (hn1 : xs.length ≤ 1000)
    (h : ∀ (h' : Heap) (tk : Nat), h'.SetOf (PySem.strKind prog w) s.heap.objs.size (fun k' => (xs.take items.size).any (· == k')) (cnt xs items.size) →
      (∀ b o, b < s.heap.objs.size → s.heap.get? b = some o → h'.get? b = some o) → Q (.ref s.heap.objs.size) { s with heap := h', toks := tk }) :
    wpAny (model prog w) A (call (.type "set") [.ref l]) Q E s := by
  obtain ⟨c, tl, hmro⟩ := PySem.F.called_set.mro
  have hmade := PySem.F.called_set.made
  have hsub := PySem.F.called_set.sub
  refine wpAny_call (codeAny_of_tree ?_)
  show wpAny _ _ (callAny (.type "set") _) _ _ _
  refine wpAny_pure ⟨Code.quiet_builtin _ (by decide +kernel), codeAny_builtin PySem.F.entry_type_call ?_⟩
  rw [Around.under_plain (weight_type_call_type "set" [.ref l] []) rfl]
  have h1 := PySem.F.called_set.notType
  have h2 := PySem.F.called_set.canCreate
  have hct := PySem.F.typeCall_set_1 (.ref l)
  repeat (any_goals (first | assumption | wp_step))

  refine codeAny_mono (code_set_new_1 (.ref l) (E := E) (Q₁ := fun obj s₁ => ∃ led : Bool, obj = .ref s.heap.objs.size ∧ s₁ = { s with heap := s.heap.push { cls := .type "set", dict := none, data := .set #[] 0 (.fresh 0 0 led) } }) fun led => ⟨led, rfl, rfl⟩) fun r s₁ hr => ?_
  cases r with
  | error e => exact hr
  | ok fl =>
    cases fl with
    | ret obj =>
      obtain ⟨led, rfl, rfl⟩ := hr
      have hS : (s.heap.push { cls := .type "set", dict := none, data := .set #[] 0 (.fresh 0 0 led) }).get? s.heap.objs.size = some { cls := .type "set", dict := none, data := .set #[] 0 (.fresh 0 0 led) } := Heap.get?_push_size _ rfl
      have hT : Shared.TypeIs { s with heap := s.heap.push { cls := .type "set", dict := none, data := .set #[] 0 (.fresh 0 0 led) } } (.ref s.heap.objs.size) "set" := ⟨_, hS, rfl⟩
      have hli := PySem.F.called_set.init.lookup
      have hbi := PySem.F.called_set.init.bind (.ref s.heap.objs.size)
      repeat (any_goals (first | assumption | wp_step))

      refine codeAny_mono (codeAny_call_builtin (R := wants (fun r s₂ => r = .none ∧ ∃ h' tk, s₂ = { s with heap := h', toks := tk } ∧
          h'.SetOf (PySem.strKind prog w) s.heap.objs.size (fun k' => (xs.take items.size).any (· == k')) (cnt xs items.size) ∧
          (∀ b o, b < s.heap.objs.size → s.heap.get? b = some o → h'.get? b = some o)) E) PySem.F.called_set.init.plain PySem.F.entry_set_init (check_set_init_1 hT ?_)) fun r₂ s₂ hr₂ => ?_
      · obtain ⟨ol, hol, hcl, nl, hdl⟩ := hl
        obtain ⟨ocls, odict, odata, oslots⟩ := ol
        simp only at hcl hdl
        subst hcl; subst hdl
        have hol' : (s.heap.push { cls := .type "set", dict := none, data := .set #[] 0 (.fresh 0 0 led) }).get? l = some { cls := .type "list", dict := odict, data := .seq items nl, slots := oslots } := Heap.get?_push_of_some _ hol
        have hsls := PySem.F.sub_list_set
        have hslf := PySem.F.sub_list_frozenset
        have hne : (Value.type "list" == Value.type "dict") = false := by decide
        have hl1 : (s.heap.push { cls := .type "set", dict := none, data := .set #[] 0 (.fresh 0 0 led) }).IsList l items := ⟨_, hol', rfl, nl, rfl⟩
        unfold Builtin.«set.__init__» noKeywords Builtin.Frozenset.updateFrom
        generalize hPI : pyIter = PI
        wp_walk
        subst hPI

        refine wpAny_pyIter_list hl1 ?_
        refine wpAny_bind (wpAny_runValue ?_)
        have hlS : l < s.heap.objs.size := Heap.lt_size hol
        have hh3 : A.in1.in1.in1.handled = none := by simp [hh]
        have hneI : l ≠ (s.heap.push { cls := .type "set", dict := none, data := .set #[] 0 (.fresh 0 0 led) }).objs.size := by
          rw [Heap.size_push]; exact Nat.ne_of_lt (Nat.lt_succ_of_lt hlS)
        have hSf : s.heap.objs.size ∉ [(s.heap.push { cls := .type "set", dict := none, data := .set #[] 0 (.fresh 0 0 led) }).objs.size, l] := by
          rw [Heap.size_push]; simp only [List.mem_cons, List.mem_singleton, List.not_mem_nil, or_false, not_or]
          exact ⟨Nat.ne_of_lt (Nat.lt_succ_self _), Nat.ne_of_gt hlS⟩
        have hsz : xs.length = items.size := by rw [← StrsAre.len_eq hi, Array.length_toList]
        have hval : ∀ (i : Nat) (v : Value), items[i]? = some v → ∃ t, v = .str (xs.getD i Str.empty) t := fun i v hv => texts_at hi i v (by rw [Array.getElem?_toList]; exact hv)
        refine loopStrN ((Walks.list hh3 _ l hneI items).toS) s.heap.objs.size
          hSf xs hsz (by rw [← hsz]; exact hn1) hval (items.size - 0) 0 _ (by omega) (Nat.zero_le _)
          ⟨⟨_, Heap.get?_push_size _ rfl, rfl, rfl⟩, (hl1.push _)⟩ ?hS0 ?hR
        case hS0 =>
          have hget : ((s.heap.push { cls := .type "set", dict := none, data := .set #[] 0 (.fresh 0 0 led) }).push { cls := .type "list_iterator", data := .fields #[.ref l, .int 0 0] }).get? s.heap.objs.size
              = some { cls := .type "set", dict := none, data := .set #[] 0 (.fresh 0 0 led) } := Heap.get?_push_of_some _ hS
          exact PyProof.Rows.SetOf_congr ((PyProof.Rows.setObjOf_fresh (knd := PySem.strKind prog w) led).setOf hget (by unfold scanBound; omega)) (fun _ => rfl) rfl
        case hR =>
          intro s' hm hS'
          obtain ⟨h', g', d', tk', os'⟩ := s'
          have eg : g' = s.gens := hm.gens
          have ed : d' = s.drawn := hm.drawn
          have eo : os' = s.os := hm.os
          subst eg; subst ed; subst eo
          show wpAny _ _ _ _ _ _
          refine wpAny_pure ?_
          show wpAny _ _ (ret Value.none) _ _ _
          refine wpAny_pure ⟨rfl, h', tk', rfl, hS', fun b o hb e => ?_⟩
          have hb1 : b ≠ s.heap.objs.size := Nat.ne_of_lt hb
          have hb2 : b ≠ (s.heap.push { cls := .type "set", dict := none, data := .set #[] 0 (.fresh 0 0 led) }).objs.size := by
            rw [Heap.size_push]; exact Nat.ne_of_lt (Nat.lt_succ_of_lt hb)
          exact hm.heap b o (by simp only [List.mem_cons, List.mem_singleton, List.not_mem_nil, or_false, not_or]; exact ⟨hb1, hb2⟩) (Heap.get?_push_of_some _ (Heap.get?_push_of_some _ e))

      · cases r₂ with
        | error e => exact hr₂
        | ok fl₂ =>
          cases fl₂ with
          | ret r =>
            obtain ⟨rfl, h', tk, rfl, hS', hk'⟩ := hr₂
            repeat (any_goals (first | assumption | wp_step))
            exact h _ _ hS' hk'
          | _ => exact hr₂.elim
    | _ => exact hr.elim
end
end SS
namespace IK
open PySem PySem.Spec PyProof.Rows L2
theorem texts_of : ∀ {ys : List Str} {us : List Value}, Vals (ys.map V.str) us → StrsAre us ys
  | [], _, .nil => .nil
  | y :: ys, _, .cons r t => by
    obtain ⟨k, rfl⟩ := r
    exact .cons y k (texts_of t)
def tLenSetN (K : PySem.W.Frag) (ta : TE) : TE := fun σ H Q => ta σ H fun x H1 => ∃ l, ∃ xs : List Str, x = .ref l ∧ SqL K H1 l (xs.map V.str) ∧ xs.length ≤ 1000 ∧ Q (.int (SS.cnt xs xs.length : Nat)) H1
theorem pe_lenSetN {X : Cx} {a : Expr} {ta : TE} {p p2 q pos : Pos} (hc : X.calm = true) (hg : Gl X "len") (hm : X.mg "len" = none) (hg2 : Gl X "set") (hm2 : X.mg "set" = none) (ha : PE X a ta)
    (na : starEach [a] X.env = (false, eval a X.env) :: starEach [] X.env := by rfl) : PE X (.Call (.Name "len" p) [.Call (.Name "set" p2) [a] [] q] [] pos) (tLenSetN X.K ta) := by
  refine ⟨fun pins s σ H Q I h => ?_⟩
  refine Call_ (ld_blt I hg hm boot_len ?_)
  refine PyProof.Rows.callWith_builtin1 (PyProof.Rows.args_cons ?_ rfl) rfl rfl
  refine Call_ (ld_blt I hg2 hm2 boot_set ?_)
  refine PyProof.Rows.callWith_type1 (PyProof.Rows.args_cons (thn (ha.run pins s σ H _ I h) fun v s1 ⟨x, H1, I1, r1, q1⟩ => PyProof.Rows.args_nil ?_) na) na rfl
  obtain ⟨l, xs, rfl, hq, h1, q1⟩ := q1
  cases r1
  obtain ⟨its, r, pl, hz⟩ := I1.list hq
  refine SS.call_set_listN (I1.ok.hd hc) pl.isList (by simpa using texts_of r) h1 fun h' tk hS hk => ?_
  refine PyProof.Rows.args_nil ?_
  have hl : its.toArray.size = xs.length := by rw [List.size_toArray, ← r.length, List.length_map]
  rw [hl] at hS
  obtain ⟨o, es, ep, t, ho, hex, hd, _, _, _, hf, hn⟩ := hS
  have cl := SS.cnt_le xs xs.length
  have I2 : Inv X pins σ H1 { s1 with heap := h', toks := tk } := I1.kept fun b o e => hk b o (Heap.lt_size e) e
  exact call_len_set ho hex hd hf (by rw [hn] <;> omega) ⟨.int (SS.cnt xs xs.length : Nat), H1, I2.tok _, ⟨_, by rw [hn]⟩, q1⟩
end IK
end
section
set_option Elab.async false
set_option linter.all false
set_option maxRecDepth 100000
set_option maxHeartbeats 4000000
namespace IK
open PySem PySem.Spec PyProof.Rows L2
/-! ### repr of lists and dicts that hold dicts -/
inductive All2 {α β : Type} (R : α → β → Prop) : List α → List β → Prop
  | nil : All2 R [] []
  | cons {a : α} {b : β} {as : List α} {bs : List β} : R a b → All2 R as bs → All2 R (a :: as) (b :: bs)
theorem All2.imp {α β : Type} {R R' : α → β → Prop} (h : ∀ a b, R a b → R' a b) : ∀ {as : List α} {bs : List β}, All2 R as bs → All2 R' as bs
  | _, _, .nil => .nil
  | _, _, .cons x y => .cons (h _ _ x) (y.imp h)
theorem All2.len {α β : Type} {R : α → β → Prop} : ∀ {as : List α} {bs : List β}, All2 R as bs → as.length = bs.length
  | _, _, .nil => rfl
  | _, _, .cons x y => by simp [y.len]
/-- v is the data d, with dicts in n levels -/
def DpM (K : PySem.W.Frag) (H : Hp) : Nat → V → PyData → Prop
  | 0, v, d => Dp K H v d ∧ d.hasDict = false
  | n + 1, v, d => (Dp K H v d ∧ d.hasDict = false) ∨ (∃ a xs ds, v = .ref a ∧ d = .list ds ∧ SqL K H a xs ∧ All2 (DpM K H n) xs ds) ∨
    ∃ a kvs ds, v = .ref a ∧ d = dictD kvs ds ∧ H a = some (.dK kvs) ∧ All2 (DpM K H n) (kvs.map (·.2)) ds
theorem all2_same {K : PySem.W.Frag} {H H' : Hp} {n : Nat} (ih : ∀ v d, DpM K H n v d → DpM K H' n v d) {xs : List V} {ds : List PyData} (h : All2 (DpM K H n) xs ds) : All2 (DpM K H' n) xs ds := h.imp ih
section
variable {X : Cx} {pins : List (Addr × Obj)} {σ : L2.St} {H : Hp} {s : Shared}
/-- what repr of it needs -/
def RepM (X : Cx) (s : Shared) (u : Value) (d : PyData) : Prop := (∃ as, Reads s.heap u d as) ∧ ∃ bs, ReadAtMost s.heap d.depth bs ∧ ReprK X.prog X.w bs s.heap d.depth u d.shown
theorem repM_all {n : Nat} (ih : ∀ (v : V) (u : Value) (d : PyData), DpM X.K H n v d → RelV v u → d.showable = true → d.shown.length ≤ sizeLine → RepM X s u d) :
    ∀ {xs : List V} {us : List Value} {ds : List PyData}, All2 (DpM X.K H n) xs ds → Vals xs us → PyData.showableAll ds = true → (∀ t ∈ PyData.shownAll ds, t.length ≤ sizeLine) →
    (∃ as, ReadsAll s.heap us ds as) ∧ ∃ bs, ReadAtMost s.heap (PyData.depthAll ds) bs ∧ ReprAllK X.prog X.w bs s.heap (PyData.depthAll ds) us (PyData.shownAll ds)
  | _, _, _, .nil, .nil, _, _ => ⟨⟨_, .nil⟩, [], (fun _ h => nomatch h), by simp only [PyData.shownAll]; exact .nil⟩
  | _, _, _, .cons (b := d) (bs := ds) h1 h2, .cons r1 r2, hs, hz => by
    have hs' : d.showable = true ∧ PyData.showableAll ds = true := by simpa [PyData.showableAll] using hs
    obtain ⟨⟨a1, q1⟩, b1, hb1, k1⟩ := ih _ _ _ h1 r1 hs'.1 (hz _ (by simp only [PyData.shownAll]; exact List.mem_cons_self ..))
    obtain ⟨⟨a2, q2⟩, b2, hb2, k2⟩ := repM_all ih h2 r2 hs'.2 (fun t ht => hz t (by simp only [PyData.shownAll]; exact List.mem_cons_of_mem _ ht))
    refine ⟨⟨_, .cons q1 q2⟩, b1 ++ b2, ?_, ?_⟩
    · intro b hm
      simp only [PyData.depthAll]
      rcases List.mem_append.mp hm with hm | hm
      · obtain ⟨d', as', r', hd'⟩ := hb1 b hm
        exact ⟨d', as', r', Nat.le_trans hd' (Nat.le_max_left _ _)⟩
      · obtain ⟨d', as', r', hd'⟩ := hb2 b hm
        exact ⟨d', as', r', Nat.le_trans hd' (Nat.le_max_right _ _)⟩
    · simp only [PyData.depthAll, PyData.shownAll]
      exact .cons ((k1.more fun b hb => List.mem_append_left _ hb).level_le (Nat.le_max_left _ _)) (k2.more_le (fun b hb => List.mem_append_right _ hb) (Nat.le_max_right _ _))
theorem repM_of (I : Inv X pins σ H s) {v : V} {u : Value} {d : PyData} (h : Dp X.K H v d) (nd : d.hasDict = false) (r : RelV v u) (sh : d.showable = true) (sz : d.shown.length ≤ sizeLine) : RepM X s u d := by
  obtain ⟨as, q⟩ := Dp.reads I d v u h r
  exact ⟨⟨as, q⟩, ReprK.of_reads q sh (fun z => by rw [nd] at z; cases z) sz⟩
/-- the parts of a dict -/
theorem repM_dict {n : Nat} (I : Inv X pins σ H s) (ih : ∀ (v : V) (u : Value) (d : PyData), DpM X.K H n v d → RelV v u → d.showable = true → d.shown.length ≤ sizeLine → RepM X s u d)
    {a : Addr} {kvs : List (Key × V)} {ds : List PyData} (ha : H a = some (.dK kvs)) (h : All2 (DpM X.K H n) (kvs.map (·.2)) ds) (sh : (dictD kvs ds).showable = true) (sz : (dictD kvs ds).shown.length ≤ sizeLine) : RepM X s (.ref a) (dictD kvs ds) := by
  obtain ⟨_, hsys, vs, kv, o, es, ep, ho, ex, hdat, _, prs, _⟩ := dk_of I.hok ha
  obtain ⟨⟨as, rk⟩, hv⟩ := keys_read (h := s.heap) prs kv
  have hl : (kvs.map fun p => keyD p.1).length = ds.length := by rw [← h.len]; simp
  have e1 : ((kvs.map fun p => keyD p.1).zip ds).map (·.1) = kvs.map fun p => keyD p.1 := List.map_fst_zip (Nat.le_of_eq hl)
  have e2 : ((kvs.map fun p => keyD p.1).zip ds).map (·.2) = ds := List.map_snd_zip (Nat.le_of_eq hl.symm)
  unfold dictD at sh sz ⊢
  have nk0 := keysD_no kvs
  rw [← e1] at rk nk0
  rw [← e2] at h
  generalize (kvs.map fun p => keyD p.1).zip ds = zs at rk h sh sz nk0 ⊢
  have nk : PyData.hasDictAll (zs.map (·.1)) = false := nk0
  obtain ⟨sh1, sh2⟩ := PyData.showableKv_split zs (by simpa [PyData.showable] using sh)
  have hz : (dictText (PyData.shownKv zs)).length ≤ sizeLine := by simpa only [PyData.shown] using sz
  obtain ⟨b1, hb1, k1⟩ := ReprAllK.of_readsAll (prog := X.prog) (w := X.w) rk sh1 (fun z => by rw [nk] at z; cases z) fun t ht => by
    obtain ⟨p, hp, hl⟩ := PyData.shownKv_key_le zs t ht
    exact Nat.le_trans hl (Nat.le_trans (dictText_mem_le hp) hz)
  obtain ⟨⟨a2, rv⟩, b2, hb2, k2⟩ := repM_all ih h hv sh2 fun t ht => by
    obtain ⟨p, hp, hl⟩ := PyData.shownKv_val_le zs t ht
    exact Nat.le_trans hl (Nat.le_trans (dictText_mem_le hp) hz)
  have R : Reads s.heap (.ref a) (.dict zs) _ := .dict ho ex.1 hdat rk rv
  have hb : ReadAtMost s.heap (PyData.depthKv zs) (b1 ++ b2) := (hb1.mono (PyData.depthAll_keys_le zs)).append (hb2.mono (PyData.depthAll_vals_le zs))
  have hna : a ∉ b1 ++ b2 := not_mem_of_deeper R (by simp only [PyData.depth]; omega) hb
  refine ⟨⟨_, R⟩, a :: (b1 ++ b2), ReadAtMost.cons R (by simp only [PyData.depth]; omega) hb, ?_⟩
  simp only [PyData.depth, PyData.shown, PyData.shownKv_eq]
  exact ReprK.dict ho ex.1 hdat hsys hna (ReprEntriesK.of_two es.toList _ _
    (k1.more_le (fun b hb => List.mem_append_left _ hb) (PyData.depthAll_keys_le zs)) (k2.more_le (fun b hb => List.mem_append_right _ hb) (PyData.depthAll_vals_le zs)))
theorem repM (I : Inv X pins σ H s) : ∀ (n : Nat) (v : V) (u : Value) (d : PyData), DpM X.K H n v d → RelV v u → d.showable = true → d.shown.length ≤ sizeLine → RepM X s u d
  | 0, v, u, d, h, r, sh, sz => repM_of I h.1 h.2 r sh sz
  | n + 1, v, u, d, h, r, sh, sz => by
    rcases h with h | ⟨a, xs, ds, rfl, rfl, hq, h⟩ | ⟨a, kvs, ds, rfl, rfl, ha, h⟩
    · exact repM_of I h.1 h.2 r sh sz
    · cases r
      obtain ⟨its, rv, ⟨o, n', ho, hc, _, hd⟩, _⟩ := I.list hq
      have hz' : (listText (PyData.shownAll ds)).length ≤ sizeLine := by simpa only [PyData.shown] using sz
      obtain ⟨⟨as, q⟩, bs, hb, hk⟩ := repM_all (repM I n) h rv (by simpa [PyData.showable] using sh) (fun t ht => Nat.le_trans (listText_mem_le ht) hz')
      have R : Reads s.heap (.ref a) (.list ds) _ := .list ho hc hd q
      have hna : a ∉ bs := not_mem_of_deeper R (by simp only [PyData.depth]; omega) hb
      refine ⟨⟨_, R⟩, a :: bs, ReadAtMost.cons R (by simp only [PyData.depth]; omega) hb, ?_⟩
      simp only [PyData.depth, PyData.shown]
      cases its with
      | nil =>
        cases q
        simp only [PyData.shownAll, listText_nil]
        exact ReprK.listEmpty ho hc hd
      | cons x l => exact ReprK.list ho hc hd hna (by simpa using hk.length_eq) (fun i y e => hk.item i y (by simpa using e))
    · cases r
      exact repM_dict I (repM I n) ha h sh sz
end
/-- repr of a list of two or more -/
def rReprN (K : PySem.W.Frag) : List V → Hp → VK → Prop := fun xs H Q => ∃ (a : Addr) (vs : List V) (ds : List PyData), xs = [.ref a] ∧ SqL K H a vs ∧ vs ≠ [] ∧ All2 (DpM K H 4) vs ds ∧ PyData.showableAll ds = true ∧
  PyData.depthAll ds ≤ 40 ∧ (PyData.list ds).shown.length ≤ sizeLine ∧ Q (.str (PyData.list ds).shown) H
theorem call_reprN {X : Cx} (gd : X.A.guards = some []) (hu : X.A.units + 64 < cLine) : CallR X (.builtin "repr") (rReprN X.K) := by
  intro pins s σ H xs us Q I r h
  obtain ⟨a, vs, ds, rfl, hq, ne, h, sh, dp, sz, q⟩ := h
  cases r with
  | cons r1 r2 =>
  cases r2
  cases r1
  obtain ⟨its, rv, ⟨o, n', ho, hc, _, hd⟩, _⟩ := I.list hq
  have hz' : (listText (PyData.shownAll ds)).length ≤ sizeLine := by simpa only [PyData.shown] using sz
  obtain ⟨⟨as, qq⟩, bs, hb, hk⟩ := repM_all (repM I 4) h rv sh (fun t ht => Nat.le_trans (listText_mem_le ht) hz')
  have R : Reads s.heap (.ref a) (.list ds) _ := .list ho hc hd qq
  have hna : a ∉ bs := not_mem_of_deeper R (by simp only [PyData.depth]; omega) hb
  have q' : Q (.str (listText (PyData.shownAll ds))) H := by simpa only [PyData.shown] using q
  cases its with
  | nil =>
    cases rv
    exact absurd rfl ne
  | cons x l =>
    refine call_repr_slot (by omega) (⟨o, ho, hc⟩ : s.TypeIs (.ref a) "list") F.slot_list_repr.toG ?_
    refine call_list_reprK ho hc hd hna (by simpa using hk.length_eq) (fun i y e => hk.item i y (by simpa using e)) gd (fun b _ => Clear.nil b) (by show X.A.units + 1 + (_ + 1) < cLine; omega) (fun b o e => e) (fun h' u tk hk => ?_) hz'
    exact ⟨_, _, rfl, .str _, H, I.kept (t' := tk) hk, ⟨u, rfl⟩, q'⟩
end IK
end
section
set_option Elab.async false
set_option linter.all false
set_option maxRecDepth 100000
set_option maxHeartbeats 4000000
/-! ### list(zip(texts, ys)) -/
namespace IK
open PySem PySem.Spec PyProof.Rows L2
theorem zip_no_len : typeLookup (.type "zip") "__len__" = pure none := am_miss_of_fast (by decide +kernel)
theorem zip_no_hint : typeLookup (.type "zip") "__length_hint__" = pure none := am_miss_of_fast (by decide +kernel)
def ZSt (S z TI TO i1 i2 l1 l2 : Addr) (xs ys : Array Value) (i : Nat) (h : Heap) : Prop :=
  IsPair h TI (.ref i1) (.ref i2) ∧ h.IsListIter i1 l1 i ∧ h.IsListIter i2 l2 i ∧ h.IsList l1 xs ∧ h.IsList l2 ys ∧
    ((IsZip h z TI TO .none ∧ ∃ a b, IsPair h TO a b) ∨ ∃ T f oT, IsZipHeld h z TI TO T f ∧ h.get? T = some oT ∧ T ≠ z ∧ T ≠ i1 ∧ T ≠ i2 ∧ T ≠ S)
structure ZOff (S z TI TO i1 i2 l1 l2 : Addr) : Prop where
  z : z ≠ S
  TI : TI ≠ S
  TO : TO ≠ S
  i1 : i1 ≠ S
  i2 : i2 ≠ S
  l1 : l1 ≠ S
  l2 : l2 ≠ S
theorem ZSt.frame {S z TI TO i1 i2 l1 l2 : Addr} {xs ys : Array Value} {i : Nat} {h h' : Heap} (o : ZOff S z TI TO i1 i2 l1 l2) (st : ZSt S z TI TO i1 i2 l1 l2 xs ys i h) (hk : ∀ b u, b ≠ S → h.get? b = some u → h'.get? b = some u) : ZSt S z TI TO i1 i2 l1 l2 xs ys i h' := by
  obtain ⟨hTI, h1, h2, hl1, hl2, hz⟩ := st
  refine ⟨hk _ _ o.TI hTI, h1.at fun u e => hk _ u o.i1 e, h2.at fun u e => hk _ u o.i2 e, hl1.at fun u e => hk _ u o.l1 e, hl2.at fun u e => hk _ u o.l2 e, ?_⟩
  rcases hz with ⟨hz, a, b, hTO⟩ | ⟨T, f, oT, hz, hT, r1, r2, r3, r4⟩
  · exact .inl ⟨hk _ _ o.z hz, a, b, hk _ _ o.TO hTO⟩
  · exact .inr ⟨T, f, oT, hk _ _ o.z hz, hk _ _ r4 hT, r1, r2, r3, r4⟩
structure ZG (xs ys : Array Value) (N : Addr) (h : Heap) (as : List Addr) : Prop where
  rise : as.Pairwise (· < ·)
  above : ∀ a ∈ as, N ≤ a
  pairs : ∀ (j : Nat) (a : Addr), as[j]? = some a → ∃ x y, xs[j]? = some x ∧ ys[j]? = some y ∧ IsPair h a x y
theorem ZG.there {xs ys : Array Value} {N : Addr} {h : Heap} {as : List Addr} (g : ZG xs ys N h as) {a : Addr} (ha : a ∈ as) : a < h.objs.size := by
  obtain ⟨j, hj⟩ := List.mem_iff_getElem?.mp ha
  obtain ⟨_, _, _, _, e⟩ := g.pairs j a hj
  exact Heap.lt_size e
section
variable {prog : Program} {w : World} {A : Around} {E : Value → Shared → Prop} {s : Shared} {S z TI TO i1 i2 l1 l2 : Addr} {xs ys : Array Value}
theorem zst_item {i : Nat} {x y : Value} {Q : Option Value → Shared → Prop} (D : ZipApart z TI TO i1 i2 l1 l2) (st : ZSt S z TI TO i1 i2 l1 l2 xs ys i s.heap) (hS : S < s.heap.objs.size) (ex : xs[i]? = some x) (ey : ys[i]? = some y)
    (hQ : ∀ h', ZSt S z TI TO i1 i2 l1 l2 xs ys (i + 1) h' → IsPair h' s.heap.objs.size x y → (∀ b o, b ∉ [z, TO, i1, i2] → s.heap.get? b = some o → h'.get? b = some o) → Q (some (.ref s.heap.objs.size)) { s with heap := h' }) :
    wpAny (model prog w) A (pyNext (.ref z)) Q E s := by
  obtain ⟨hTI, h1, h2, hl1, hl2, hz⟩ := st
  have lt : ∀ {c o}, s.heap.get? c = some o → s.heap.objs.size ≠ c := fun e => Nat.ne_of_gt (Heap.lt_size e)
  have n1 : s.heap.objs.size ≠ i1 := let ⟨_, e, _⟩ := h1; lt e
  have n2 : s.heap.objs.size ≠ i2 := let ⟨_, e, _⟩ := h2; lt e
  rcases hz with ⟨hz, a, b, hTO⟩ | ⟨T, f, oT, hz, hT, r1, r2, r3, r4⟩
  · refine wpAny_pyNext_zip_item D hz hTI hTO h1 h2 hl1 hl2 ex ey fun h' a1 a2 a3 a4 a5 a6 hk => ?_
    exact hQ h' ⟨hk _ _ D.TIz D.TITO D.TIi1 D.TIi2 hTI, a3, a4, hl1.at fun o e => hk _ o D.l1z D.l1TO D.l1i1 D.l1i2 e, hl2.at fun o e => hk _ o D.l2z D.l2TO D.l2i1 D.l2i2 e,
        .inr ⟨s.heap.objs.size, false, _, a1, a5, lt hz, n1, n2, Nat.ne_of_gt hS⟩⟩ a5
      fun c o hc e => hk c o (fun x => hc (by simp [x])) (fun x => hc (by simp [x])) (fun x => hc (by simp [x])) (fun x => hc (by simp [x])) e
  · refine wpAny_pyNext_zip_item_held D hz hT hTI h1 h2 hl1 hl2 ex ey fun h' a1 a3 a4 a5 a6 hk => ?_
    exact hQ h' ⟨hk _ _ D.TIz D.TIi1 D.TIi2 hTI, a3, a4, hl1.at fun o e => hk _ o D.l1z D.l1i1 D.l1i2 e, hl2.at fun o e => hk _ o D.l2z D.l2i1 D.l2i2 e,
        .inr ⟨T, true, oT, a1, hk _ _ r1 r2 r3 hT, r1, r2, r3, r4⟩⟩ a5
      fun c o hc e => hk c o (fun x => hc (by simp [x])) (fun x => hc (by simp [x])) (fun x => hc (by simp [x])) e
theorem zst_done {i : Nat} {Q : Option Value → Shared → Prop} (hh : A.handled = none) (D : ZipApart z TI TO i1 i2 l1 l2) (st : ZSt S z TI TO i1 i2 l1 l2 xs ys i s.heap) (hend : xs[i]? = none ∨ ys[i]? = none)
    (hQ : ∀ h', (∀ b o, b ∉ [z, TO, i1, i2] → s.heap.get? b = some o → h'.get? b = some o) → Q none { s with heap := h' }) : wpAny (model prog w) A (pyNext (.ref z)) Q E s := by
  obtain ⟨hTI, h1, h2, hl1, hl2, hz⟩ := st
  rcases hz with ⟨hz, a, b, hTO⟩ | ⟨T, f, oT, hz, hT, r1, r2, r3, r4⟩
  · exact wpAny_pyNext_zip_end hh D hz hTI hTO h1 h2 hl1 hl2 hend fun h' hk => hQ h' fun c o hc e => hk c o (fun x => hc (by simp [x])) (fun x => hc (by simp [x])) (fun x => hc (by simp [x])) (fun x => hc (by simp [x])) e
  · exact wpAny_pyNext_zip_end_held hh D hz hT hTI h1 h2 hl1 hl2 hend fun h' hk => hQ h' fun c o hc e => hk c o (fun x => hc (by simp [x])) (fun x => hc (by simp [x])) (fun x => hc (by simp [x])) e
theorem z_loop {R : Result → Shared → Prop} (hh : A.handled = none) (D : ZipApart z TI TO i1 i2 l1 l2) (off : ZOff S z TI TO i1 i2 l1 l2) {N : Addr} (hSN : S < N) (hw : ∀ b ∈ [z, TO, i1, i2], b < N) (hsz : xs.size = ys.size) (hn : xs.size ≤ sizeLine) (res : Value) {h₁ : Heap}
    (hR : ∀ h' tk acc c as, (∀ b o, b ≠ S → b ∉ [z, TO, i1, i2] → h₁.get? b = some o → h'.get? b = some o) → h'.get? S = some { cls := .type "list", dict := none, data := .seq acc c, slots := #[] } → as.length = xs.size → ZG xs ys N h' as →
      acc.toList = as.map Value.ref → R (.ok (.ret res)) { s with heap := h', toks := tk }) :
    ∀ (k i : Nat) (h : Heap) (tk c : Nat) (acc : Array Value) (as : List Addr), xs.size - i = k → i ≤ xs.size → ZSt S z TI TO i1 i2 l1 l2 xs ys i h → (∀ b o, b ≠ S → b ∉ [z, TO, i1, i2] → h₁.get? b = some o → h.get? b = some o) →
      h.get? S = some { cls := .type "list", dict := none, data := .seq acc c, slots := #[] } → acc.toList = as.map Value.ref → as.length = i → ZG xs ys N h as → N ≤ h.objs.size →
      codeAny (model prog w) A (.builtin "list.extend.loop" ⟨[.ref S, .ref z, res], []⟩) R { s with heap := h, toks := tk } := by
  have hSw : S ∉ [z, TO, i1, i2] := fun hm => by
    simp only [List.mem_cons, List.not_mem_nil, or_false] at hm
    rcases hm with e | e | e | e
    · exact off.z e.symm
    · exact off.TO e.symm
    · exact off.i1 e.symm
    · exact off.i2 e.symm
  have aw : ∀ a, N ≤ a → a ∉ [z, TO, i1, i2] := fun a ha hm => Nat.lt_irrefl _ (Nat.lt_of_lt_of_le (hw a hm) ha)
  intro k
  induction k with
  | zero =>
    intro i h tk c acc as hk hi hst hkeep hS hacc hal hG hN
    have hin : i = xs.size := by omega
    refine codeAny_builtin PySem.F.entry_extend_loop ?_
    rw [Around.under_plainId PySem.F.plain_extend_loop _]
    show wpAny _ A.in1 (pyNext (.ref z) >>= _) _ _ _
    refine wpAny_bind (zst_done (s := { s with heap := h, toks := tk }) (A := A.in1) hh D hst (.inl (Array.getElem?_eq_none (by omega))) fun h' he => ?_)
    refine wpAny_pure (hR h' tk acc c as (fun b o h1 h2 e => he b o h2 (hkeep b o h1 h2 e)) (he S _ hSw hS) (by omega) ⟨hG.rise, hG.above, fun j a hj => ?_⟩ hacc)
    obtain ⟨x, y, e1, e2, e3⟩ := hG.pairs j a hj
    exact ⟨x, y, e1, e2, he a _ (aw a (hG.above a (List.mem_of_getElem? hj))) e3⟩
  | succ k ih =>
    intro i h tk c acc as hk hi hst hkeep hS hacc hal hG hN
    have hlt : i < xs.size := by omega
    have ex := Array.getElem?_eq_getElem hlt
    have ey := Array.getElem?_eq_getElem (show i < ys.size by omega)
    have hsa : acc.size = i := by rw [← Array.length_toList, hacc, List.length_map, hal]
    refine codeAny_builtin PySem.F.entry_extend_loop ?_
    rw [Around.under_plainId PySem.F.plain_extend_loop _]
    show wpAny _ A.in1 (pyNext (.ref z) >>= _) _ _ _
    refine wpAny_bind (zst_item (s := { s with heap := h, toks := tk }) (S := S) D hst (Heap.lt_size hS) ex ey fun h' hst' ht hkp => ?_)
    dsimp only at ht hkp ⊢
    have hS' := hkp S _ hSw hS
    have up : ∀ b o, b ≠ S → h'.get? b = some o → (h'.update S (Obj.mapSeq (·.push (Value.ref h.objs.size)))).get? b = some o := fun b o hb e => (Heap.get?_update_other _ _ (Ne.symm hb)).trans e
    have hSl : S < h.objs.size := Heap.lt_size hS
    show wpAny _ A.in1 (updateSeq S (·.push (Value.ref h.objs.size)) >>= _) _ _ _
    refine wpAny_bind ?_
    refine wpAny_updateSeq hS' rfl (wpAny_pure ⟨plainId_quiet PySem.F.plain_extend_loop _, ih (i + 1) _ tk _ (acc.push (Value.ref h.objs.size)) (as ++ [h.objs.size]) (by omega) hlt (hst'.frame off up)
      (fun b o h1 h2 e => up b o h1 (hkp b o h2 (hkeep b o h1 h2 e))) (Heap.get?_update_self _ hS' rfl) (by rw [Array.toList_push, hacc, List.map_append]; rfl) (by rw [List.length_append, hal]; rfl) ⟨?_, ?_, ?_⟩ ?_⟩) (by rw [hsa]; omega) (by show (acc.push (Value.ref h.objs.size)).size ≤ sizeLine + 1; rw [Array.size_push, hsa]; omega)
    · refine List.pairwise_append.mpr ⟨hG.rise, List.pairwise_singleton _ _, fun a ha b hb => ?_⟩
      rw [List.mem_singleton.mp hb]
      exact hG.there ha
    · intro a ha
      rcases List.mem_append.mp ha with ha | ha
      · exact hG.above a ha
      · rw [List.mem_singleton.mp ha]; exact hN
    · intro j b hj
      rcases Nat.lt_trichotomy j as.length with h1 | h1 | h1
      · rw [List.getElem?_append_left h1] at hj
        obtain ⟨x', y', e1, e2, e3⟩ := hG.pairs j b hj
        have hb := hG.above b (List.mem_of_getElem? hj)
        exact ⟨x', y', e1, e2, up b _ (Nat.ne_of_gt (Nat.lt_of_lt_of_le hSN hb)) (hkp b _ (aw b hb) e3)⟩
      · subst h1
        have hb : h.objs.size = b := by simpa using hj
        subst hb
        exact ⟨_, _, by rw [hal]; exact ex, by rw [hal]; exact ey, up _ _ (Nat.ne_of_gt hSl) ht⟩
      · have hnone : (as ++ [h.objs.size])[j]? = none := List.getElem?_eq_none (by rw [List.length_append, List.length_singleton]; omega)
        rw [hnone] at hj; cases hj
    · have e : (h'.update S (Obj.mapSeq (·.push (Value.ref h.objs.size)))).get? h.objs.size = _ := up _ _ (Nat.ne_of_gt hSl) ht
      exact Nat.le_of_lt (Nat.lt_of_le_of_lt hN (Heap.lt_size e))
theorem z_extend {R : Result → Shared → Prop} (hh : A.handled = none) (D : ZipApart z TI TO i1 i2 l1 l2) (off : ZOff S z TI TO i1 i2 l1 l2) (hw : ∀ b ∈ [z, TO, i1, i2], b < s.heap.objs.size) (hsz : xs.size = ys.size) (hn : xs.size ≤ sizeLine) (res : Value) (c₀ : Nat)
    (hst : ZSt S z TI TO i1 i2 l1 l2 xs ys 0 s.heap) (hzz : ∃ f0, IsZip s.heap z TI TO f0) (hS : s.heap.get? S = some { cls := .type "list", data := .seq #[] c₀ })
    (hR : ∀ h' tk acc c as, (∀ b o, b ≠ S → b ∉ [z, TO, i1, i2] → s.heap.get? b = some o → h'.get? b = some o) → h'.get? S = some { cls := .type "list", dict := none, data := .seq acc c, slots := #[] } → as.length = xs.size → ZG xs ys s.heap.objs.size h' as →
      acc.toList = as.map Value.ref → R (.ok (.ret res)) { s with heap := h', toks := tk }) :
    wpAny (model prog w) A.in1 (Builtin.List.listExtendWith (.ref S) (.ref z) res)
      (fun fin s' => match fin with | .done f => R (.ok f) s' | .again c' => c'.quiet = true ∧ codeAny (model prog w) A c' R s') (fun e s' => R (.error e) s') s := by
  obtain ⟨f0, hzz⟩ := hzz
  have hT : s.TypeIs (.ref z) "zip" := ⟨_, hzz, rfl⟩
  unfold Builtin.List.listExtendWith
  refine wpAny_bind (wpAny_typeOf hT ?_)
  have h1 : Builtin.List.listSameRef (.ref S) (.ref z) = false := by simp [Builtin.List.listSameRef, Ne.symm off.z]
  have h2 : (Value.type "zip" == Value.type "list") = false := by decide
  have h3 : (Value.type "zip" == Value.type "tuple") = false := by decide
  simp only [h1, h2, h3, Bool.or_false, Bool.false_eq_true, if_false]
  refine wpAny_bind (wpAny_pyIter_zip hzz ?_)
  refine wpAny_bind (wpAny_holding ?_)
  unfold Builtin.List.listLengthHint
  refine wpAny_bind (wpAny_specialOf hT zip_no_len ?_)
  show wpAny _ A.in1 (specialOf (Value.ref z) (Str.ofString "__length_hint__") >>= _) _ _ _
  refine wpAny_bind (wpAny_specialOf hT zip_no_hint ?_)
  refine wpAny_pure ?_
  show wpAny _ A.in1 (rule "list.extend.makes-room" >>= fun _ => Builtin.List.listTouch (.ref S) >>= fun _ => again (.builtin "list.extend.loop" ⟨[.ref S, .ref z, res], []⟩)) _ _ _
  refine wpAny_bind (wpAny_rule ?_)
  refine wpAny_bind ?_
  show wpAny _ _ (updateSeq S (·.push .none) >>= fun _ => updateSeq S (·.pop)) _ _ _
  refine wpAny_bind (wpAny_updateSeq hS rfl ?_)
  have hS₂ := Heap.get?_update_self (Obj.mapSeq (·.push Value.none)) hS rfl
  refine wpAny_updateSeq (hz := by seq_fits) hS₂ rfl ?_
  have hS₃ := Heap.get?_update_self (Obj.mapSeq (·.pop)) hS₂ rfl
  have oth : ∀ b o, b ≠ S → s.heap.get? b = some o → ((s.heap.update S (Obj.mapSeq (·.push Value.none))).update S (Obj.mapSeq (·.pop))).get? b = some o :=
    fun b o hb e => (Heap.get?_update_other _ _ (Ne.symm hb)).trans ((Heap.get?_update_other _ _ (Ne.symm hb)).trans e)
  have hN : s.heap.objs.size ≤ ((s.heap.update S (Obj.mapSeq (·.push Value.none))).update S (Obj.mapSeq (·.pop))).objs.size := by
    rw [Heap.size_update, Heap.size_update]
    exact Nat.le_refl _
  exact wpAny_pure ⟨plainId_quiet PySem.F.plain_extend_loop _, z_loop (s := s) (h₁ := s.heap) hh D off (Heap.lt_size hS) hw hsz hn res hR xs.size 0 _ _ _ #[] [] (Nat.sub_zero _) (Nat.zero_le _) (hst.frame off oth) (fun b o h1 _ e => oth b o h1 e) hS₃ rfl rfl
    ⟨List.Pairwise.nil, (fun _ ha => nomatch ha), (fun j a hj => by simp at hj)⟩ hN⟩
theorem z_init {R : Result → Shared → Prop} (hh : A.handled = none) (D : ZipApart z TI TO i1 i2 l1 l2) (off : ZOff S z TI TO i1 i2 l1 l2) (hw : ∀ b ∈ [z, TO, i1, i2], b < s.heap.objs.size) (hsz : xs.size = ys.size) (hn : xs.size ≤ sizeLine)
    (hst : ZSt S z TI TO i1 i2 l1 l2 xs ys 0 s.heap) (hzz : ∃ f0, IsZip s.heap z TI TO f0) (hS : s.heap.get? S = some { cls := .type "list", data := .seq #[] })
    (hR : ∀ h' tk acc c as, (∀ b o, b ≠ S → b ∉ [z, TO, i1, i2] → s.heap.get? b = some o → h'.get? b = some o) → h'.get? S = some { cls := .type "list", dict := none, data := .seq acc c, slots := #[] } → as.length = xs.size → ZG xs ys s.heap.objs.size h' as →
      acc.toList = as.map Value.ref → R (.ok (.ret .none)) { s with heap := h', toks := tk }) :
    wpAny (model prog w) A.in1 (Builtin.«list.__init__» ⟨[.ref S, .ref z], []⟩)
      (fun fin s' => match fin with | .done f => R (.ok f) s' | .again c' => c'.quiet = true ∧ codeAny (model prog w) A c' R s') (fun e s' => R (.error e) s') s := by
  show wpAny _ _ (do let old ← Builtin.List.listItems (.ref S); Builtin.List.listUpdate (.ref S) (fun _ => #[]); letGo old.toList.reverse; Builtin.List.listExtendWith (.ref S) (.ref z) .none) _ _ s
  refine wpAny_bind ?_
  unfold Builtin.List.listItems
  refine wpAny_bind (wpAny_seqItems hS rfl (wpAny_pure ?_))
  show wpAny _ _ (updateSeq S (fun _ => #[]) >>= fun _ => letGo (#[] : Array Value).toList.reverse >>= fun _ => Builtin.List.listExtendWith (.ref S) (.ref z) .none) _ _ s
  refine wpAny_bind (wpAny_updateSeq hS rfl ?_)
  have hS₂ := Heap.get?_update_self (Obj.mapSeq (fun _ => (#[] : Array Value))) hS rfl
  have oth : ∀ b o, b ≠ S → s.heap.get? b = some o → (s.heap.update S (Obj.mapSeq (fun _ => (#[] : Array Value)))).get? b = some o :=
    fun b o hb e => (Heap.get?_update_other _ _ (Ne.symm hb)).trans e
  have hz2 : (s.heap.update S (Obj.mapSeq (fun _ => (#[] : Array Value)))).objs.size = s.heap.objs.size := Heap.size_update ..
  obtain ⟨f0, hzz⟩ := hzz
  refine wpAny_bind (wpAny_letGo ?_)
  refine z_extend (s := { s with heap := s.heap.update S (Obj.mapSeq (fun _ => (#[] : Array Value))) }) hh D off (fun b hb => by rw [hz2]; exact hw b hb) hsz hn .none _ (hst.frame off oth) ⟨f0, oth _ _ off.z hzz⟩ hS₂ (fun h' tk acc c as hk hS' hl hG hacc => ?_)
  exact hR h' tk acc c as (fun b o hb h2 e => hk b o hb h2 (oth b o hb e)) hS' hl (by rw [hz2] at hG; exact hG) hacc
theorem z_call {Q : Value → Shared → Prop} (hh : A.handled = none) (D : ZipApart z TI TO i1 i2 l1 l2) (hsz : xs.size = ys.size) (hn : xs.size ≤ sizeLine) (hzz : IsZip s.heap z TI TO .none) (hTI : IsPair s.heap TI (.ref i1) (.ref i2)) (hTO : ∃ a b, IsPair s.heap TO a b) (h1 : s.heap.IsListIter i1 l1 0) (h2 : s.heap.IsListIter i2 l2 0) (hl1 : s.heap.IsList l1 xs) (hl2 : s.heap.IsList l2 ys)
    (hQ : ∀ h' tk acc c as, (∀ b o, b ∉ [z, TO, i1, i2] → s.heap.get? b = some o → h'.get? b = some o) → h'.get? s.heap.objs.size = some { cls := .type "list", dict := none, data := .seq acc c, slots := #[] } → as.length = xs.size → ZG xs ys (s.heap.objs.size + 1) h' as →
      acc.toList = as.map Value.ref → Q (.ref s.heap.objs.size) { s with heap := h', toks := tk }) :
    wpAny (model prog w) A (call (.type "list") [.ref z]) Q E s := by
  refine callType_codes (Q₁ := fun obj s₁ => obj = .ref s.heap.objs.size ∧ s₁ = { s with heap := s.heap.push { cls := .type "list", data := .seq #[] } }) PySem.F.called_list (PySem.F.typeCall_list_1 _) PySem.F.entry_list_init
    (code_list_new _ ⟨rfl, rfl⟩) fun obj s₁ h₁ => ?_
  obtain ⟨rfl, rfl⟩ := h₁
  have hS : (s.heap.push { cls := .type "list", data := .seq #[] }).get? s.heap.objs.size = some { cls := .type "list", data := .seq #[] } := Heap.get?_push_size _ rfl
  have up : ∀ b o, s.heap.get? b = some o → (s.heap.push { cls := .type "list", data := .seq #[] }).get? b = some o := fun b o e => Heap.get?_push_of_some _ e
  have lt : ∀ {c o}, s.heap.get? c = some o → c ≠ s.heap.objs.size := fun e => Nat.ne_of_lt (Heap.lt_size e)
  have ltw : ∀ {c o}, s.heap.get? c = some o → c < s.heap.objs.size + 1 := fun e => Nat.lt_succ_of_lt (Heap.lt_size e)
  obtain ⟨a0, b0, hTO⟩ := hTO
  have e1 : ∃ o, s.heap.get? i1 = some o := let ⟨o, e, _⟩ := h1; ⟨o, e⟩
  have e2 : ∃ o, s.heap.get? i2 = some o := let ⟨o, e, _⟩ := h2; ⟨o, e⟩
  have e3 : ∃ o, s.heap.get? l1 = some o := let ⟨o, e, _⟩ := hl1; ⟨o, e⟩
  have e4 : ∃ o, s.heap.get? l2 = some o := let ⟨o, e, _⟩ := hl2; ⟨o, e⟩
  obtain ⟨o1, e1⟩ := e1
  obtain ⟨o2, e2⟩ := e2
  obtain ⟨o3, e3⟩ := e3
  obtain ⟨o4, e4⟩ := e4
  have hz1 : (s.heap.push { cls := .type "list", data := .seq #[] }).objs.size = s.heap.objs.size + 1 := Heap.size_push ..
  refine ⟨⟨_, hS, rfl⟩, PySem.F.args_list_init_2 _ _, z_init (A := A.in1) (s := { s with heap := s.heap.push { cls := .type "list", data := .seq #[] } }) hh D ⟨lt hzz, lt hTI, lt hTO, lt e1, lt e2, lt e3, lt e4⟩ (fun b hb => ?_) hsz hn
    ⟨up _ _ hTI, h1.at fun o e => up _ o e, h2.at fun o e => up _ o e, hl1.at fun o e => up _ o e, hl2.at fun o e => up _ o e, .inl ⟨up _ _ hzz, a0, b0, up _ _ hTO⟩⟩ ⟨_, up _ _ hzz⟩ hS (fun h' tk acc c as hk hS' hl hG hacc => ?_)⟩
  · rw [hz1]
    simp only [List.mem_cons, List.not_mem_nil, or_false] at hb
    rcases hb with rfl | rfl | rfl | rfl
    · exact ltw hzz
    · exact ltw hTO
    · exact ltw e1
    · exact ltw e2
  · refine ⟨rfl, hQ h' tk acc c as (fun b o hb e => hk b o (lt e) hb (up _ _ e)) hS' hl ?_ hacc⟩
    rw [hz1] at hG
    exact hG
end
theorem zip_laid {X : Cx} {pins : List (Addr × Obj)} {σ : L2.St} {H : Hp} {s : Shared} {h' : Heap} {tk : Nat} {S : Addr} {kvs : List (Key × V)} {vs : List (Key × Value)} {acc : Array Value} {c : Nat} {as : List Addr} (I : Inv X pins σ H s) (hz : kvs.length ≤ sizeLine) (kv : KV kvs vs) (lo : s.heap.objs.size ≤ S)
    (hk : ∀ b o, s.heap.get? b = some o → h'.get? b = some o) (hS : h'.get? S = some { cls := .type "list", dict := none, data := .seq acc c, slots := #[] }) (hl : as.length = vs.length) (hG : PySem.W.KdxG (mixKind X.prog X.w) vs S h' as) (hacc : acc.toList = as.map Value.ref) :
    ∃ H' : Hp, (∀ b o, H b = some o → H' b = some o) ∧ H S = none ∧ (∀ t ∈ as, H t = none) ∧ S ∉ as ∧ H' S = some (.lst (as.map V.ref)) ∧ Paired (fun (t : Addr) (q : Key × V) => H' t = some (.tup [kV q.1, q.2])) as kvs ∧ Inv X pins σ H' { s with heap := h', toks := tk } := by
  have lk : kvs.length = vs.length := Paired.length kv
  have hSn : S ∉ as := fun z => Nat.lt_irrefl _ (hG.above _ z)
  have nd : as.Nodup := List.Pairwise.imp (fun {a b} (h : a < b) => Nat.ne_of_lt h) hG.rise
  have new : ∀ t ∈ as, H t = none := fun t ht => I.hok.fresh (Nat.le_of_lt (Nat.lt_of_le_of_lt lo (hG.above t ht)))
  have newS : H S = none := I.hok.fresh lo
  have atP := LiI.putT_at as kvs (upd H S (.lst (as.map V.ref))) (by omega) nd
  have off : ∀ b, b ∉ as → b ≠ S → LiI.putT (upd H S (.lst (as.map V.ref))) as kvs b = H b := fun b h1 h2 => by rw [LiI.putT_off as kvs _ h1, upd_ne h2]
  have low : ∀ b o, s.heap.get? b = some o → b ∉ as ∧ b ≠ S := fun b o e => ⟨fun z => absurd (Heap.lt_size e) (Nat.not_lt.mpr (Nat.le_trans lo (Nat.le_of_lt (hG.above b z)))), Nat.ne_of_lt (Nat.lt_of_lt_of_le (Heap.lt_size e) lo)⟩
  have kp : ∀ b u, H b = some u → (LiI.putT (upd H S (.lst (as.map V.ref))) as kvs) b = some u := fun b u e => by
    rw [off b (fun z => by rw [new b z] at e; cases e) (fun z => by rw [z, newS] at e; cases e)]
    exact e
  have eS : LiI.putT (upd H S (.lst (as.map V.ref))) as kvs S = some (.lst (as.map V.ref)) := by rw [LiI.putT_off as kvs _ hSn, upd_same]
  refine ⟨LiI.putT (upd H S (.lst (as.map V.ref))) as kvs, kp, newS, new, hSn, eS, atP, ?_⟩
  refine I.call' (ch := []) rfl ⟨fun b o q _ _ _ => hk b o q, fun b o q _ _ _ => ⟨o.slots, hk b o q⟩, fun b o q n _ => ?_, fun b o q _ => ⟨o, hk b o q⟩, fun b xs q => kp b _ q, fun b o u q => kp b _ q, fun b ps q => ⟨#[], by rw [kp b _ q]; simp⟩⟩ (fun b u q => ?_) I.bare fun b z => by simp at z
  · obtain ⟨z1, z2⟩ := low b o q
    rw [off b z1 z2]
    exact n
  · by_cases hb : b ∈ as
    · obtain ⟨j, pk, e1, e2, e3⟩ := LiI.paired_ix atP hb
      rw [e3] at q
      cases q
      obtain ⟨key, k, x, f1, f2, f3⟩ := hG.pairs j b e1
      obtain ⟨qv, g1, g2, g3⟩ := LiI.paired_get kv e2
      rw [f1] at g1
      cases g1
      have rk : RelV (kV pk.1) key := by
        rw [g2]
        exact relV_key (show keyIs k key = true from f2)
      exact ⟨by show 2 ≤ sizeLine; decide, [key, x], .cons rk (.cons g3 .nil), ⟨_, f3, rfl, _, rfl⟩⟩
    · by_cases hb2 : b = S
      · rw [hb2] at q ⊢
        rw [eS] at q
        cases q
        refine ⟨by rw [List.length_map]; omega, acc.toList, c, by rw [hacc]; exact LiI.vals_refs as, ?_⟩
        rw [Array.toArray_toList]
        exact hS
      · rw [off b hb hb2] at q
        exact (I.hok b u q).stay (fun d v _ y => hk d v y) (fun d y => kp d _ y) fun d xs y => kp d _ y
/-- list(zip(ns, ys)), ns texts, as many -/
def tListZip (K : PySem.W.Frag) (ta : TA) : TE := fun σ H Q => ta σ H fun vs H1 => ∃ (a b : Addr) (ns : List Str) (ys : List V), vs = [.ref a, .ref b] ∧ SqL K H1 a (ns.map V.str) ∧ SqL K H1 b ys ∧ ns.length = ys.length ∧
  ∀ (H' : Hp) (p : Addr) (ts : List Addr), (∀ b o, H1 b = some o → H' b = some o) → H1 p = none → (∀ t ∈ ts, H1 t = none) → p ∉ ts → H' p = some (.lst (ts.map V.ref)) → Paired (fun (t : Addr) (q : Key × V) => H' t = some (.tup [kV q.1, q.2])) ts ((ns.map Sum.inr).zip ys) → Q (.ref p) H'
theorem kv_zip : ∀ {ns : List Str} {ys : List V} {us : List Value}, Vals ys us → ns.length = ys.length → KV ((ns.map Sum.inr : List Key).zip ys) ((ns.map Sum.inr : List Key).zip us)
  | [], _, _, r, h => .nil
  | n :: ns, [], _, r, h => by cases h
  | n :: ns, y :: ys, _, .cons r1 r2, h => .cons ⟨rfl, r1⟩ (kv_zip r2 (Nat.succ.inj h))
theorem pe_listZip {X : Cx} {e e2 : Expr} {ta : TA} {p p2 pos2 pos : Pos} (hc : X.calm = true) (hgl : Gl X "list") (hml : X.mg "list" = none) (hg : Gl X "zip") (hm : X.mg "zip" = none) (ha : PA X [e, e2] ta)
    (hs : starEach [e, e2] X.env = (false, eval e X.env) :: starEach [e2] X.env := by rfl) (hpl : (backTo pos2 (starEach [e2] X.env)).any (·.1) = false := by rfl) :
    PE X (.Call (.Name "list" p) [.Call (.Name "zip" p2) [e, e2] [] pos2] [] pos) (tListZip X.K ta) := by
  refine ⟨fun pins s σ H Q I h => ?_⟩
  refine Call_ (ld_blt I hgl hml PyProof.Rows.boot_list ?_)
  refine PyProof.Rows.callWith_type1 (PyProof.Rows.args_cons ?_ rfl) rfl rfl
  refine Call_ (ld_blt I hg hm PyProof.Rows.boot_zip (PyProof.Rows.callWith_type1 (thn (ha.run pos2 pins s σ H _ I h) fun us s1 ⟨vs, H1, I1, r1, q1⟩ => ?_) hs hpl))
  obtain ⟨a, b, ns, ys, ex, hqx, hqy, hlen, q⟩ := q1
  subst ex
  cases r1 with
  | cons r rr =>
    cases rr with
    | cons r' rr =>
      cases rr
      cases r
      cases r'
      obtain ⟨its, rv, p1, hz1⟩ := I1.list hqx
      obtain ⟨its2, rv2, p2, hz2⟩ := I1.list hqy
      refine call_zip_2 p1.isList p2.isList fun h' hz hTI hTO h1 h2 hsz hk => ?_
      refine PyProof.Rows.args_nil ?_
      have ll1 : its.length = ns.length := by rw [← rv.length, List.length_map]
      have ll2 : its2.length = ns.length := by rw [← rv2.length, hlen]
      have I2 : Inv X pins σ H1 { s1 with heap := h' } := I1.kept (t' := s1.toks) hk
      refine z_call (s := { s1 with heap := h' }) (xs := its.toArray) (ys := its2.toArray) (I2.ok.hd hc) (PySem.W.ktu_apart s1.heap.objs.size a b p1.lt p2.lt) (by rw [List.size_toArray, List.size_toArray, ll1, ll2]) (by rw [List.size_toArray, ll1]; rw [List.length_map] at hz1; exact hz1) hz hTI ⟨_, _, hTO⟩ h1 h2
        (p1.isList.at fun o e => hk _ o e) (p2.isList.at fun o e => hk _ o e) fun h'' tk acc c as hk2 hS hl hG hacc => ?_
      have hz' : h'.objs.size = s1.heap.objs.size + 5 := hsz
      have old : ∀ b o, s1.heap.get? b = some o → h''.get? b = some o := fun b o e => hk2 b o (fun hm => by
        have lt := Heap.lt_size e
        simp only [List.mem_cons, List.not_mem_nil, or_false] at hm
        rcases hm with e | e | e | e
        · rw [e] at lt; exact absurd lt (Nat.not_lt.mpr (Nat.le_add_right _ _))
        · rw [e] at lt; exact absurd lt (Nat.not_lt.mpr (Nat.le_add_right _ _))
        · rw [e] at lt; exact Nat.lt_irrefl _ lt
        · rw [e] at lt; exact absurd lt (Nat.not_lt.mpr (Nat.le_add_right _ _))) (hk b o e)
      have kv := kv_zip (ns := ns) rv2 hlen
      have lz : ((ns.map Sum.inr : List Key).zip its2).length = ns.length := by rw [List.length_zip, List.length_map, ll2, Nat.min_self]
      have lzv : ((ns.map Sum.inr : List Key).zip ys).length = ns.length := by rw [List.length_zip, List.length_map, ← hlen, Nat.min_self]
      have hG2 : PySem.W.KdxG (mixKind X.prog X.w) ((ns.map Sum.inr : List Key).zip its2) h'.objs.size h'' as := by
        refine ⟨hG.rise, fun a ha => hG.above a ha, fun j a hj => ?_⟩
        obtain ⟨x, y, e1, e2, e3⟩ := hG.pairs j a hj
        have e1 : its[j]? = some x := by simpa using e1
        have e2 : its2[j]? = some y := by simpa using e2
        have hj2 : j < ns.length := by rw [← ll1]; exact (List.getElem?_eq_some_iff.mp e1).1
        refine ⟨x, Sum.inr ns[j], y, ?_, ?_, e3⟩
        · rw [List.getElem?_zip_eq_some]
          exact ⟨by rw [List.getElem?_map, List.getElem?_eq_getElem hj2]; rfl, e2⟩
        · obtain ⟨u, hu, ru⟩ := rv.get (i := j) (x := .str ns[j]) (by rw [List.getElem?_map, List.getElem?_eq_getElem hj2]; rfl)
          rw [e1] at hu
          cases hu
          obtain ⟨t, rfl⟩ := ru
          exact strKind_is X.prog X.w ns[j] t
      obtain ⟨H', k1, k2, k3, k4, k5, k6, J⟩ := zip_laid (tk := tk) I1 (by rw [lzv]; rw [List.length_map] at hz1; exact hz1) kv (show s1.heap.objs.size ≤ h'.objs.size by rw [hz']; exact Nat.le_add_right _ _) old hS (by rw [hl, lz, List.size_toArray, ll1]) hG2 hacc
      exact ⟨.ref _, H', J, rfl, q H' _ as k1 k2 k3 k4 k5 k6⟩
end IK
end
section
set_option Elab.async false
set_option linter.all false
set_option maxRecDepth 100000
set_option maxHeartbeats 4000000
/-! ### list(d.values()); a != b of nested lists -/
namespace IK
open PySem PySem.Spec PyProof.Rows L2
theorem kv_at {κ : Type} {kvs : List (κ × V)} {vs : List (κ × Value)} (r : KV kvs vs) {i : Nat} {k : κ} {v : Value} (h : vs[i]? = some (k, v)) : ∃ x, kvs[i]? = some (k, x) ∧ RelV x v := KV.at' r h
def tListVals (te : TE) : TE := fun σ H Q => te σ H fun x H1 => ∃ (d : Addr) (kvs : List (Key × V)), x = .ref d ∧ H1 d = some (.dK kvs) ∧ ∀ q, H1 q = none → Q (.ref q) (upd H1 q (.lst (kvs.map (·.2))))
theorem pe_listVals {X : Cx} {e : Expr} {te : TE} {p apos cpos pos : Pos} (hc : X.calm = true) (he : PE X e te) (hg : Gl X "list") (hm : X.mg "list" = none) (hbase : attributeBase e "values" X.env (eval e X.env) = eval e X.env := by rfl) (hline : (apos.endLine == cpos.line) = true := by rfl)
    (hs : starEach [.Call (.Attribute e "values" apos) [] [] cpos] X.env = (false, eval (.Call (.Attribute e "values" apos) [] [] cpos) X.env) :: starEach [] X.env := by rfl) :
    PE X (.Call (.Name "list" p) [.Call (.Attribute e "values" apos) [] [] cpos] [] pos) (tListVals te) := by
  refine ⟨fun pins s σ H Q I hq => ?_⟩
  refine wpAny_Call_Name_kw (ld_blt I hg hm PyProof.Rows.boot_list ?_)
  refine PyProof.Rows.callWith_type1 ?_ hs rfl
  rw [hs]
  show wpAny _ _ (spliced ((false, eval (.Call (.Attribute e "values" apos) [] [] cpos) X.env) :: backTo pos (starEach [] X.env))) _ _ s
  refine Calls.spliced_cons ?_
  refine wpAny_Call_method (T := "dict") (id := "dict.values") hbase rfl hline F.plainAttrs_dict F.slot_dict_values F.type_dict_values (thn (he.run pins s σ H _ I hq) fun u s1 ⟨x, H1, I1, rx, d, kvs, ex, hd, q⟩ => ?_)
  subst ex
  obtain rfl : u = Value.ref d := rx
  obtain ⟨hz, hs0, vs, kv, hdo⟩ := I1.hok d _ hd
  obtain ⟨ep, hat⟩ := hdo.dictAt
  have lk : kvs.length = vs.length := Paired.length kv
  have I2 : Inv X pins σ H1 { s1 with heap := s1.heap.push { cls := .type "dict_values", data := .fields #[.ref d] } } := I1.kept (t' := s1.toks) fun b ob q => Heap.get?_push_of_some _ q
  refine ⟨hdo.typeIs, hdo.mapOf.noDict, ?_⟩
  show wpAny _ _ (callWith cpos (.builtin "dict.values") [.ref d] [] []) _ X.xe s1
  refine method_meetsIn F.slot_dict_values F.entry_dict_values rfl (PySem.evalArgs_none ⟨rfl, hdo.typeIs, F.args_dict_values_1 _, _, meets_dict_values (mixKind X.prog X.w) d hs0, ⟨vs, hdo⟩, ?_⟩)
  refine Calls.spliced_nil ?_
  refine PySem.W.kdl_call (PySem.W.kdl_values (knd := mixKind X.prog X.w) (kvs := vs) (ep := ep)) (I1.ok.hd hc) ⟨⟨_, Heap.get?_push_size _ rfl, rfl, rfl⟩, hat.push _⟩ (by rw [← lk]; exact hz) fun h' tk acc' c' hkeep hS hacc => ?_
  refine ⟨.ref _, upd H1 _ (.lst (kvs.map (·.2))), I2.laid hkeep (Nat.le_refl _) (show ObjOk X.prog X.w _ _ _ (.lst (kvs.map (·.2))) from ⟨?_, acc'.toList, c', ?_, ?_⟩), rfl, q _ (I2.hok.fresh (Nat.le_refl _))⟩
  · rw [List.length_map]; exact hz
  · have el : acc'.toList.length = acc'.size := by simp
    refine vals_of_at (by rw [List.length_map, el, hacc.1, lk]) fun j x w h1 h2 => ?_
    obtain ⟨k, hky⟩ := hacc.2 j w (by rw [← Array.getElem?_toList]; exact h2)
    obtain ⟨y, e1, e2⟩ := kv_at kv hky
    rw [List.getElem?_map, e1] at h1
    obtain rfl := Option.some.inj h1
    exact e2
  · rw [Array.toArray_toList]
    exact hS
end IK
namespace PySem.SeqAt
open AutoSeq1 (wpAny_loadPart')
open MeetsSeq MeetsSeq2 MeetsSeq3 SeqRoads2
section
variable {prog : Program} {w : World}
theorem ik_ne_loopIn (l b : Addr) (items items2 : Array Value) (n n2 : Nat) (dd dd2 : Option Addr) (sl sl2 : Array (Option Value)) (hsz : items.size = items2.size) (e : Nat → Bool) (k : Nat) :
    ∀ i : Nat, items.size - i = k → MeetsIn prog w (Builtin.«list.__eq__.loop» ⟨[.ref l, .ref b, rawInt i, rawInt 3], []⟩)
      (fun A R s => s.heap.get? l = some { cls := .type "list", dict := dd, data := .seq items n, slots := sl } ∧ s.heap.get? b = some { cls := .type "list", dict := dd2, data := .seq items2 n2, slots := sl2 } ∧
        (∀ j (h1 : j < items.size) (h2 : j < items2.size), EqP prog w A.in1 s items[j] items2[j] (e j)) ∧
        R (.ok (.ret (.bool (!((List.range items.size).drop i).all e)))) s) := by
  induction k with
  | zero =>
    intro i hk A R s h
    obtain ⟨hp, g, d, tk, os⟩ := s; obtain ⟨hl, hb, he, h⟩ := h
    wp_walk using wpAny_loadPart' hl, wpAny_loadPart' hb
    have hi1 : items[((i : Nat) : Int).toNat]? = none := by simp; omega
    have hi2 : items2[((i : Nat) : Int).toNat]? = none := by simp; omega
    have hd : (List.range items.size).drop i = [] := by simp; omega
    rw [hd] at h
    rw [hi1, hi2]
    wp_walk using wpAny_loadPart' hl, wpAny_loadPart' hb
    show R (.ok (.ret (.bool (items.size != items2.size)))) _
    rw [hsz]
    simpa using h
  | succ k ih =>
    intro i hk A R s h
    obtain ⟨hp, g, d, tk, os⟩ := s; obtain ⟨hl, hb, he, h⟩ := h
    wp_walk using wpAny_loadPart' hl, wpAny_loadPart' hb
    have hlt : i < items.size := by omega
    have hlt2 : i < items2.size := by omega
    have hi1 : items[((i : Nat) : Int).toNat]? = some items[i] := by simp [hlt]
    have hi2 : items2[((i : Nat) : Int).toNat]? = some items2[i] := by simp [hlt2]
    have hd : (List.range items.size).drop i = i :: (List.range items.size).drop (i + 1) := by simp [List.drop_eq_getElem_cons, hlt]
    have hc : ((i : Int) + 1) = ((i + 1 : Nat) : Int) := by push_cast; rfl
    rw [hd, List.all_cons] at h
    rw [hi1, hi2]
    refine wpAny_bind (he i hlt hlt2 _ _ ?_)
    cases hb' : e i with
    | true =>
      rw [hb'] at h
      wp_walk
      rw [hc]
      exact ⟨plainId_quiet plain_eq_loop _, codeAny_builtin entry_eq_loop (by
        rw [Around.under_plainId plain_eq_loop _]
        exact ih (i + 1) (by omega) A R _ ⟨hl, hb, he, by simpa using h⟩)⟩
    | false =>
      rw [hb'] at h
      wp_walk using wpAny_loadPart' hl, wpAny_loadPart' hb
      rw [hi1, hi2]
      wp_walk
      simpa using h
theorem ik_list_neIn (l b : Addr) (items items2 : Array Value) (n n2 : Nat) (dd dd2 : Option Addr) (sl sl2 : Array (Option Value)) (hsz : items.size = items2.size) (e : Nat → Bool) :
    MeetsIn prog w (Builtin.«list.__ne__» ⟨[.ref l, .ref b], []⟩)
      (fun A R s => s.heap.get? l = some { cls := .type "list", dict := dd, data := .seq items n, slots := sl } ∧ s.heap.get? b = some { cls := .type "list", dict := dd2, data := .seq items2 n2, slots := sl2 } ∧
        (∀ j (h1 : j < items.size) (h2 : j < items2.size), EqP prog w A.in1 s items[j] items2[j] (e j)) ∧
        R (.ok (.ret (.bool (!(List.range items.size).all e)))) s) := by
  intro A R s h
  obtain ⟨hp, g, d, tk, os⟩ := s; obtain ⟨hl, hb, he, h⟩ := h
  have f3 := AutoSeq1.sub_list_list
  have hne : ¬ (items.size != items2.size) = true := by simp [hsz]
  wp_walk using wpAny_loadPart' hl, wpAny_loadPart' hb
  exact ⟨plainId_quiet plain_eq_loop _, codeAny_builtin entry_eq_loop (by
    rw [Around.under_plainId plain_eq_loop _]
    exact ik_ne_loopIn l b items items2 n n2 dd dd2 sl sl2 hsz e _ 0 rfl A R _ ⟨hl, hb, he, by simpa using h⟩)⟩
theorem ik_neP_lists {A : Around} {s : Shared} {l b : Addr} {items items2 : Array Value} {e : Nat → Bool} (hl : s.heap.IsList l items) (hb : s.heap.IsList b items2) (hsz : items.size = items2.size) (hu : A.units < cLine)
    (he : ∀ j (h1 : j < items.size) (h2 : j < items2.size), EqP prog w A.in1 s items[j] items2[j] (e j)) (E Q : Value → Shared → Prop) (h : Q (.bool (!(List.range items.size).all e)) s) : wpAny (model prog w) A (richCompare .NotEq (.ref l) (.ref b)) Q E s := by
  obtain ⟨⟨cls, dd, data, sl⟩, ho, hc, n, hd⟩ := id hl
  obtain ⟨⟨cls2, dd2, data2, sl2⟩, ho2, hc2, n2, hd2⟩ := id hb
  simp only at hc hd hc2 hd2
  subst hc hd hc2 hd2
  have ta : s.TypeIs (.ref l) "list" := ⟨_, ho, rfl⟩
  have tb : s.TypeIs (.ref b) "list" := ⟨_, ho2, rfl⟩
  exact wpAny_richCompare_same_room (op := .NotEq) ta tb F.slot_list_ne (call_meetsIn F.slot_list_ne ta F.entry_list_ne (F.args_list_ne_2 _ _) (ik_list_neIn l b items items2 n n2 dd dd2 sl sl2 hsz e)
    ⟨ho, ho2, he, show Value.bool (!(List.range items.size).all e) ≠ Value.notImplemented ∧ Q (.bool (!(List.range items.size).all e)) s from ⟨(fun x => nomatch x), h⟩⟩) hu
end
end PySem.SeqAt
namespace IK
open PySem PySem.Spec PyProof.Rows L2
/-- a != b, two lists of equal items -/
def rNeV (K : PySem.W.Frag) : R2 := fun x y H Q => ∃ n a b xs ys, n ≤ 60 ∧ x = .ref a ∧ y = .ref b ∧ SqL K H a xs ∧ SqL K H b ys ∧ Paired (EqV K H n) xs ys ∧ Q (.bl false) H
theorem op_neV {X : Cx} (hu : X.A.units + 64 < cLine) : OpR X (compareOp .NotEq) (rNeV X.K) := by
  intro pins s σ H x y v u Q I rx ry h
  obtain ⟨n, a, b, xs, ys, hn, rfl, rfl, ha, hb, hp, q⟩ := h
  cases (show v = Value.ref a from rx)
  cases (show u = Value.ref b from ry)
  obtain ⟨us, r1, p1, _⟩ := I.list ha
  obtain ⟨ws, r2, p2, _⟩ := I.list hb
  have hsz : us.toArray.size = ws.toArray.size := by
    rw [List.size_toArray, List.size_toArray, ← r1.length, ← r2.length]
    exact Paired.length hp
  refine SeqAt.ik_neP_lists (A := X.A) (e := fun _ => true) p1.isList p2.isList hsz (by omega) (fun j h1 h2 => ?_) _ _ ?_
  · have k := items_run (eqV_run I n X.A.in1 (by show X.A.units + 1 + n < cLine; omega)) hp r1 r2 j (by simpa using h1) (by simpa using h2)
    simpa using k
  · rw [show ((List.range us.toArray.size).all fun _ => true) = true from List.all_eq_true.mpr fun _ _ => rfl]
    exact ⟨.bl false, H, I, rfl, q⟩
end IK
end
section
set_option Elab.async false
set_option linter.all false
set_option maxRecDepth 100000
set_option maxHeartbeats 4000000
namespace Law
open PySem PySem.Spec PyProof.Rows L2 IK
/-! ### the text by places -/
def topS (i : Nat) : Stmt := PySem.Challenge.pw_iceopened_k74_renamed.main.body.getD i (.Pass ⟨0, 0, 0, 0⟩)
abbrev s__wall : Stmt := topS 0
theorem sc__wall : FnScope ["k"] ["k"] (defScope s__wall) := ⟨rfl, rfl, rfl, by decide +kernel, rfl, by decide +kernel, by decide +kernel⟩
-- k:0
abbrev s_NoName___init__ : Stmt := inClass (topS 3) 0
theorem sc_NoName___init__ : FnScope ["self", "found"] ["self", "found"] (defScope s_NoName___init__) := ⟨rfl, rfl, rfl, by decide +kernel, rfl, by decide +kernel, by decide +kernel⟩
-- self:0 found:1
abbrev s_NoNumber___init__ : Stmt := inClass (topS 4) 0
theorem sc_NoNumber___init__ : FnScope ["self", "found"] ["self", "found"] (defScope s_NoNumber___init__) := ⟨rfl, rfl, rfl, by decide +kernel, rfl, by decide +kernel, by decide +kernel⟩
-- self:0 found:1
abbrev s_NoPort___init__ : Stmt := inClass (topS 5) 0
theorem sc_NoPort___init__ : FnScope ["self", "found"] ["self", "found"] (defScope s_NoPort___init__) := ⟨rfl, rfl, rfl, by decide +kernel, rfl, by decide +kernel, by decide +kernel⟩
-- self:0 found:1
abbrev s_NoChannel___init__ : Stmt := inClass (topS 6) 0
theorem sc_NoChannel___init__ : FnScope ["self", "found"] ["self", "found"] (defScope s_NoChannel___init__) := ⟨rfl, rfl, rfl, by decide +kernel, rfl, by decide +kernel, by decide +kernel⟩
-- self:0 found:1
abbrev s_NoVessel___init__ : Stmt := inClass (topS 7) 0
theorem sc_NoVessel___init__ : FnScope ["self", "found"] ["self", "found"] (defScope s_NoVessel___init__) := ⟨rfl, rfl, rfl, by decide +kernel, rfl, by decide +kernel, by decide +kernel⟩
-- self:0 found:1
abbrev s_NoWorld___init__ : Stmt := inClass (topS 8) 0
theorem sc_NoWorld___init__ : FnScope ["self", "found"] ["self", "found"] (defScope s_NoWorld___init__) := ⟨rfl, rfl, rfl, by decide +kernel, rfl, by decide +kernel, by decide +kernel⟩
-- self:0 found:1
abbrev s_NoTable___init__ : Stmt := inClass (topS 9) 0
theorem sc_NoTable___init__ : FnScope ["self", "found"] ["self", "found"] (defScope s_NoTable___init__) := ⟨rfl, rfl, rfl, by decide +kernel, rfl, by decide +kernel, by decide +kernel⟩
-- self:0 found:1
abbrev s_NoNames___init__ : Stmt := inClass (topS 10) 0
theorem sc_NoNames___init__ : FnScope ["self", "found"] ["self", "found"] (defScope s_NoNames___init__) := ⟨rfl, rfl, rfl, by decide +kernel, rfl, by decide +kernel, by decide +kernel⟩
-- self:0 found:1
abbrev s_Doubled___init__ : Stmt := inClass (topS 11) 0
theorem sc_Doubled___init__ : FnScope ["self", "name"] ["self", "name"] (defScope s_Doubled___init__) := ⟨rfl, rfl, rfl, by decide +kernel, rfl, by decide +kernel, by decide +kernel⟩
-- self:0 name:1
abbrev s_is_whole : Stmt := topS 15
theorem sc_is_whole : FnScope ["thing"] ["thing"] (defScope s_is_whole) := ⟨rfl, rfl, rfl, by decide +kernel, rfl, by decide +kernel, by decide +kernel⟩
-- thing:0
abbrev s_is_within : Stmt := topS 16
theorem sc_is_within : FnScope ["thing", "low", "high"] ["thing", "low", "high"] (defScope s_is_within) := ⟨rfl, rfl, rfl, by decide +kernel, rfl, by decide +kernel, by decide +kernel⟩
-- thing:0 low:1 high:2
abbrev s_is_name : Stmt := topS 17
theorem sc_is_name : FnScope ["thing", "sign"] ["thing"] (defScope s_is_name) := ⟨rfl, rfl, rfl, by decide +kernel, rfl, by decide +kernel, by decide +kernel⟩
-- thing:0 sign:1
abbrev s_is_entry : Stmt := topS 20
theorem sc_is_entry : FnScope ["begin", "channels", "thing"] ["begin", "channels", "thing"] (defScope s_is_entry) := ⟨rfl, rfl, rfl, by decide +kernel, rfl, by decide +kernel, by decide +kernel⟩
-- begin:0 channels:1 thing:2
abbrev s_are_entries : Stmt := topS 21
theorem sc_are_entries : FnScope ["begin", "channels", "thing", "ahead", "entry"] ["begin", "channels", "thing"] (defScope s_are_entries) := ⟨rfl, rfl, rfl, by decide +kernel, rfl, by decide +kernel, by decide +kernel⟩
-- begin:0 channels:1 thing:2 ahead:3 entry:4
abbrev s_is_table : Stmt := topS 22
theorem sc_is_table : FnScope ["world", "thing", "names", "channels", "name", "entries", "vessel", "channel"] ["world", "thing"] (defScope s_is_table) := ⟨rfl, rfl, rfl, by decide +kernel, rfl, by decide +kernel, by decide +kernel⟩
-- world:0 thing:1 names:2 channels:3 name:4 entries:5 vessel:6 channel:7
abbrev s_table_told : Stmt := topS 23
theorem sc_table_told : FnScope ["world", "table", "found", "vessel", "entries"] ["world", "table"] (defScope s_table_told) := ⟨rfl, rfl, rfl, by decide +kernel, rfl, by decide +kernel, by decide +kernel⟩
-- world:0 table:1 found:2 vessel:3 entries:4
abbrev s_need_names : Stmt := topS 30
theorem sc_need_names : FnScope ["things", "thing"] ["things"] (defScope s_need_names) := ⟨rfl, rfl, rfl, by decide +kernel, rfl, by decide +kernel, by decide +kernel⟩
-- things:0 thing:1
abbrev s_need_numbers : Stmt := topS 31
theorem sc_need_numbers : FnScope ["rows", "thing", "low", "high"] ["rows"] (defScope s_need_numbers) := ⟨rfl, rfl, rfl, by decide +kernel, rfl, by decide +kernel, by decide +kernel⟩
-- rows:0 thing:1 low:2 high:3
abbrev s_Channel___init__ : Stmt := inClass (topS 32) 0
theorem sc_Channel___init__ : FnScope ["self", "name", "one", "other", "hours", "depth", "first", "growth", "most"] ["self", "name", "one", "other", "hours", "depth", "first", "growth", "most"] (defScope s_Channel___init__) := ⟨rfl, rfl, rfl, by decide +kernel, rfl, by decide +kernel, by decide +kernel⟩
-- self:0 name:1 one:2 other:3 hours:4 depth:5 first:6 growth:7 most:8
abbrev s_Channel_ends : Stmt := inClass (topS 32) 1
theorem sc_Channel_ends : FnScope ["self"] ["self"] (defScope s_Channel_ends) := ⟨rfl, rfl, rfl, by decide +kernel, rfl, by decide +kernel, by decide +kernel⟩
-- self:0
abbrev s_Channel_beyond : Stmt := inClass (topS 32) 2
theorem sc_Channel_beyond : FnScope ["self", "port"] ["self", "port"] (defScope s_Channel_beyond) := ⟨rfl, rfl, rfl, by decide +kernel, rfl, by decide +kernel, by decide +kernel⟩
-- self:0 port:1
abbrev s_Channel_row : Stmt := inClass (topS 32) 3
theorem sc_Channel_row : FnScope ["self"] ["self"] (defScope s_Channel_row) := ⟨rfl, rfl, rfl, by decide +kernel, rfl, by decide +kernel, by decide +kernel⟩
-- self:0
abbrev s_Vessel___init__ : Stmt := inClass (topS 33) 0
theorem sc_Vessel___init__ : FnScope ["self", "name", "port", "hour", "strength", "draught"] ["self", "name", "port", "hour", "strength", "draught"] (defScope s_Vessel___init__) := ⟨rfl, rfl, rfl, by decide +kernel, rfl, by decide +kernel, by decide +kernel⟩
-- self:0 name:1 port:2 hour:3 strength:4 draught:5
abbrev s_Vessel_settle : Stmt := inClass (topS 33) 1
theorem sc_Vessel_settle : FnScope ["self", "name", "port", "hour", "strength", "draught"] ["self", "name", "port", "hour", "strength", "draught"] (defScope s_Vessel_settle) := ⟨rfl, rfl, rfl, by decide +kernel, rfl, by decide +kernel, by decide +kernel⟩
-- self:0 name:1 port:2 hour:3 strength:4 draught:5
abbrev s_Vessel_kind : Stmt := inClass (topS 33) 2
theorem sc_Vessel_kind : FnScope ["self"] ["self"] (defScope s_Vessel_kind) := ⟨rfl, rfl, rfl, by decide +kernel, rfl, by decide +kernel, by decide +kernel⟩
-- self:0
abbrev s_Vessel_thins : Stmt := inClass (topS 33) 3
theorem sc_Vessel_thins : FnScope ["self"] ["self"] (defScope s_Vessel_thins) := ⟨rfl, rfl, rfl, by decide +kernel, rfl, by decide +kernel, by decide +kernel⟩
-- self:0
abbrev s_Vessel_lets : Stmt := inClass (topS 33) 4
theorem sc_Vessel_lets : FnScope ["self", "channel"] ["self", "channel"] (defScope s_Vessel_lets) := ⟨rfl, rfl, rfl, by decide +kernel, rfl, by decide +kernel, by decide +kernel⟩
-- self:0 channel:1
abbrev s_Vessel_row : Stmt := inClass (topS 33) 5
theorem sc_Vessel_row : FnScope ["self"] ["self"] (defScope s_Vessel_row) := ⟨rfl, rfl, rfl, by decide +kernel, rfl, by decide +kernel, by decide +kernel⟩
-- self:0
abbrev s_Breaker___init__ : Stmt := inClass (topS 34) 0
theorem sc_Breaker___init__ : FnScope ["self", "name", "port", "hour", "strength", "draught", "cut"] ["self", "name", "port", "hour", "strength", "draught", "cut"] (defScope s_Breaker___init__) := ⟨rfl, rfl, rfl, by decide +kernel, rfl, by decide +kernel, by decide +kernel⟩
-- self:0 name:1 port:2 hour:3 strength:4 draught:5 cut:6
abbrev s_Breaker_kind : Stmt := inClass (topS 34) 1
theorem sc_Breaker_kind : FnScope ["self"] ["self"] (defScope s_Breaker_kind) := ⟨rfl, rfl, rfl, by decide +kernel, rfl, by decide +kernel, by decide +kernel⟩
-- self:0
abbrev s_Breaker_thins : Stmt := inClass (topS 34) 2
theorem sc_Breaker_thins : FnScope ["self"] ["self"] (defScope s_Breaker_thins) := ⟨rfl, rfl, rfl, by decide +kernel, rfl, by decide +kernel, by decide +kernel⟩
-- self:0
abbrev s_Breaker_row : Stmt := inClass (topS 34) 3
theorem sc_Breaker_row : FnScope ["self"] ["self"] (defScope s_Breaker_row) := ⟨rfl, rfl, rfl, by decide +kernel, rfl, by decide +kernel, by decide +kernel⟩
-- self:0
abbrev s_Ship___init__ : Stmt := inClass (topS 35) 0
theorem sc_Ship___init__ : FnScope ["self", "name", "port", "goal", "hour", "strength", "draught"] ["self", "name", "port", "goal", "hour", "strength", "draught"] (defScope s_Ship___init__) := ⟨rfl, rfl, rfl, by decide +kernel, rfl, by decide +kernel, by decide +kernel⟩
-- self:0 name:1 port:2 goal:3 hour:4 strength:5 draught:6
abbrev s_Ship_kind : Stmt := inClass (topS 35) 1
theorem sc_Ship_kind : FnScope ["self"] ["self"] (defScope s_Ship_kind) := ⟨rfl, rfl, rfl, by decide +kernel, rfl, by decide +kernel, by decide +kernel⟩
-- self:0
abbrev s_Ship_row : Stmt := inClass (topS 35) 2
theorem sc_Ship_row : FnScope ["self"] ["self"] (defScope s_Ship_row) := ⟨rfl, rfl, rfl, by decide +kernel, rfl, by decide +kernel, by decide +kernel⟩
-- self:0
abbrev s_is_list : Stmt := topS 42
theorem sc_is_list : FnScope ["thing", "low", "high"] ["thing", "low", "high"] (defScope s_is_list) := ⟨rfl, rfl, rfl, by decide +kernel, rfl, by decide +kernel, by decide +kernel⟩
-- thing:0 low:1 high:2
abbrev s_need_kinds : Stmt := topS 43
theorem sc_need_kinds : FnScope ["ports", "channels", "breakers", "ships", "port", "one"] ["ports", "channels", "breakers", "ships"] (defScope s_need_kinds) := ⟨rfl, rfl, rfl, by decide +kernel, rfl, by decide +kernel, by decide +kernel⟩
-- ports:0 channels:1 breakers:2 ships:3 port:4 one:5
abbrev s_need_unlike : Stmt := topS 44
theorem sc_need_unlike : FnScope ["names", "known", "name"] ["names"] (defScope s_need_unlike) := ⟨rfl, rfl, rfl, by decide +kernel, rfl, by decide +kernel, by decide +kernel⟩
-- names:0 known:1 name:2
abbrev s_need_ports : Stmt := topS 45
theorem sc_need_ports : FnScope ["names", "ports", "name"] ["names", "ports"] (defScope s_need_ports) := ⟨rfl, rfl, rfl, by decide +kernel, rfl, by decide +kernel, by decide +kernel⟩
-- names:0 ports:1 name:2
abbrev s_World___init__ : Stmt := inClass (topS 46) 0
theorem sc_World___init__ : FnScope ["self", "begin", "ports", "channels", "breakers", "ships", "channel", "ship", "vessel", "breaker"] ["self", "begin", "ports", "channels", "breakers", "ships"] (defScope s_World___init__) := ⟨rfl, rfl, rfl, by decide +kernel, rfl, by decide +kernel, by decide +kernel⟩
-- self:0 begin:1 ports:2 channels:3 breakers:4 ships:5 channel:6 ship:7 vessel:8 breaker:9
abbrev s_World_begin_hour : Stmt := inClass (topS 46) 1
theorem sc_World_begin_hour : FnScope ["self"] ["self"] (defScope s_World_begin_hour) := ⟨rfl, rfl, rfl, by decide +kernel, rfl, by decide +kernel, by decide +kernel⟩
-- self:0
abbrev s_World_ports : Stmt := inClass (topS 46) 2
theorem sc_World_ports : FnScope ["self"] ["self"] (defScope s_World_ports) := ⟨rfl, rfl, rfl, by decide +kernel, rfl, by decide +kernel, by decide +kernel⟩
-- self:0
abbrev s_World_channels : Stmt := inClass (topS 46) 3
theorem sc_World_channels : FnScope ["self"] ["self"] (defScope s_World_channels) := ⟨rfl, rfl, rfl, by decide +kernel, rfl, by decide +kernel, by decide +kernel⟩
-- self:0
abbrev s_World_breakers : Stmt := inClass (topS 46) 4
theorem sc_World_breakers : FnScope ["self"] ["self"] (defScope s_World_breakers) := ⟨rfl, rfl, rfl, by decide +kernel, rfl, by decide +kernel, by decide +kernel⟩
-- self:0
abbrev s_World_ships : Stmt := inClass (topS 46) 5
theorem sc_World_ships : FnScope ["self"] ["self"] (defScope s_World_ships) := ⟨rfl, rfl, rfl, by decide +kernel, rfl, by decide +kernel, by decide +kernel⟩
-- self:0
abbrev s_World_vessels : Stmt := inClass (topS 46) 6
theorem sc_World_vessels : FnScope ["self"] ["self"] (defScope s_World_vessels) := ⟨rfl, rfl, rfl, by decide +kernel, rfl, by decide +kernel, by decide +kernel⟩
-- self:0
abbrev s_World_channel : Stmt := inClass (topS 46) 7
theorem sc_World_channel : FnScope ["self", "name", "channel"] ["self", "name"] (defScope s_World_channel) := ⟨rfl, rfl, rfl, by decide +kernel, rfl, by decide +kernel, by decide +kernel⟩
-- self:0 name:1 channel:2
abbrev s_World_vessel : Stmt := inClass (topS 46) 8
theorem sc_World_vessel : FnScope ["self", "name", "vessel"] ["self", "name"] (defScope s_World_vessel) := ⟨rfl, rfl, rfl, by decide +kernel, rfl, by decide +kernel, by decide +kernel⟩
-- self:0 name:1 vessel:2
abbrev s_World_is_port : Stmt := inClass (topS 46) 9
theorem sc_World_is_port : FnScope ["self", "thing"] ["self", "thing"] (defScope s_World_is_port) := ⟨rfl, rfl, rfl, by decide +kernel, rfl, by decide +kernel, by decide +kernel⟩
-- self:0 thing:1
abbrev s_World_channels_at : Stmt := inClass (topS 46) 10
theorem sc_World_channels_at : FnScope ["self", "port"] ["self", "port"] (defScope s_World_channels_at) := ⟨rfl, rfl, rfl, by decide +kernel, rfl, by decide +kernel, by decide +kernel⟩
-- self:0 port:1
abbrev s_World_from_hour : Stmt := inClass (topS 46) 11
theorem sc_World_from_hour : FnScope ["self", "vessel"] ["self", "vessel"] (defScope s_World_from_hour) := ⟨rfl, rfl, rfl, by decide +kernel, rfl, by decide +kernel, by decide +kernel⟩
-- self:0 vessel:1
abbrev s_World_told : Stmt := inClass (topS 46) 12
theorem sc_World_told : FnScope ["self", "channels", "breakers", "ships", "channel", "breaker", "ship"] ["self"] (defScope s_World_told) := ⟨rfl, rfl, rfl, by decide +kernel, rfl, by decide +kernel, by decide +kernel⟩
-- self:0 channels:1 breakers:2 ships:3 channel:4 breaker:5 ship:6
abbrev s_need_names_for : Stmt := topS 48
theorem sc_need_names_for : FnScope ["names", "thing", "others", "name", "other"] ["names", "thing"] (defScope s_need_names_for) := ⟨rfl, rfl, rfl, by decide +kernel, rfl, by decide +kernel, by decide +kernel⟩
-- names:0 thing:1 others:2 name:3 other:4
abbrev s_channel_anew : Stmt := topS 49
theorem sc_channel_anew : FnScope ["row"] ["row"] (defScope s_channel_anew) := ⟨rfl, rfl, rfl, by decide +kernel, rfl, by decide +kernel, by decide +kernel⟩
-- row:0
abbrev s_breaker_anew : Stmt := topS 50
theorem sc_breaker_anew : FnScope ["row"] ["row"] (defScope s_breaker_anew) := ⟨rfl, rfl, rfl, by decide +kernel, rfl, by decide +kernel, by decide +kernel⟩
-- row:0
abbrev s_ship_anew : Stmt := topS 51
theorem sc_ship_anew : FnScope ["row"] ["row"] (defScope s_ship_anew) := ⟨rfl, rfl, rfl, by decide +kernel, rfl, by decide +kernel, by decide +kernel⟩
-- row:0
abbrev s_world_anew : Stmt := topS 52
theorem sc_world_anew : FnScope ["told", "begin", "ports", "channels", "breakers", "ships", "made", "row"] ["told"] (defScope s_world_anew) := ⟨rfl, rfl, rfl, by decide +kernel, rfl, by decide +kernel, by decide +kernel⟩
-- told:0 begin:1 ports:2 channels:3 breakers:4 ships:5 made:6 row:7
abbrev s_names_of : Stmt := topS 53
theorem sc_names_of : FnScope ["things", "thing"] ["things"] (defScope s_names_of) := ⟨rfl, rfl, rfl, by decide +kernel, rfl, by decide +kernel, by decide +kernel⟩
-- things:0 thing:1
abbrev s_renamed : Stmt := topS 54
theorem sc_renamed : FnScope ["world", "ports", "channels", "vessels", "begin", "own", "ways", "breakers", "ships", "port", "row"] ["world", "ports", "channels", "vessels"] (defScope s_renamed) := ⟨rfl, rfl, rfl, by decide +kernel, rfl, by decide +kernel, by decide +kernel⟩
-- world:0 ports:1 channels:2 vessels:3 begin:4 own:5 ways:6 breakers:7 ships:8 port:9 row:10
abbrev s_renamed_table : Stmt := topS 55
theorem sc_renamed_table : FnScope ["world", "table", "channels", "vessels", "own", "found", "name", "entries", "hour", "channel"] ["world", "table", "channels", "vessels"] (defScope s_renamed_table) := ⟨rfl, rfl, rfl, by decide +kernel, rfl, by decide +kernel, by decide +kernel⟩
-- world:0 table:1 channels:2 vessels:3 own:4 found:5 name:6 entries:7 hour:8 channel:9
abbrev s__law_cell : Stmt := topS 57
theorem sc__law_cell : FnScope ["_law_script", "_law_k"] ["_law_script", "_law_k"] (defScope s__law_cell) := ⟨rfl, rfl, rfl, by decide +kernel, rfl, by decide +kernel, by decide +kernel⟩
-- _law_script:0 _law_k:1
abbrev s__law_box : Stmt := topS 58
theorem sc__law_box : FnScope ["_law_cell_here"] ["_law_cell_here"] (defScope s__law_box) := ⟨rfl, rfl, rfl, by decide +kernel, rfl, by decide +kernel, by decide +kernel⟩
-- _law_cell_here:0
abbrev s__law_take : Stmt := topS 59
theorem sc__law_take : FnScope ["_law_box_here", "_law_many", "_law_digit", "_law_one", "_law_other"] ["_law_box_here", "_law_many"] (defScope s__law_take) := ⟨rfl, rfl, rfl, by decide +kernel, rfl, by decide +kernel, by decide +kernel⟩
-- _law_box_here:0 _law_many:1 _law_digit:2 _law_one:3 _law_other:4
abbrev s__law_names : Stmt := topS 60
theorem sc__law_names : FnScope ["_law_box_here", "_law_many", "_law_letters", "_law_way", "_law_first", "_law_step", "_law_words", "_law_stem", "_law_found", "_law_at", "_law_long", "_law_k"] ["_law_box_here", "_law_many"] (defScope s__law_names) := ⟨rfl, rfl, rfl, by decide +kernel, rfl, by decide +kernel, by decide +kernel⟩
-- _law_box_here:0 _law_many:1 _law_letters:2 _law_way:3 _law_first:4 _law_step:5 _law_words:6 _law_stem:7 _law_found:8 _law_at:9 _law_long:10 _law_k:11
abbrev s__law_number : Stmt := topS 61
theorem sc__law_number : FnScope ["_law_box_here", "_law_low", "_law_high", "_law_way", "_law_number_here"] ["_law_box_here", "_law_low", "_law_high"] (defScope s__law_number) := ⟨rfl, rfl, rfl, by decide +kernel, rfl, by decide +kernel, by decide +kernel⟩
-- _law_box_here:0 _law_low:1 _law_high:2 _law_way:3 _law_number_here:4
abbrev s__law_channel : Stmt := topS 62
theorem sc__law_channel : FnScope ["_law_box_here", "_law_name", "_law_ports", "_law_at", "_law_other", "_law_first", "_law_row"] ["_law_box_here", "_law_name", "_law_ports"] (defScope s__law_channel) := ⟨rfl, rfl, rfl, by decide +kernel, rfl, by decide +kernel, by decide +kernel⟩
-- _law_box_here:0 _law_name:1 _law_ports:2 _law_at:3 _law_other:4 _law_first:5 _law_row:6
abbrev s__law_breaker : Stmt := topS 63
theorem sc__law_breaker : FnScope ["_law_box_here", "_law_name", "_law_ports", "_law_row"] ["_law_box_here", "_law_name", "_law_ports"] (defScope s__law_breaker) := ⟨rfl, rfl, rfl, by decide +kernel, rfl, by decide +kernel, by decide +kernel⟩
-- _law_box_here:0 _law_name:1 _law_ports:2 _law_row:3
abbrev s__law_ship : Stmt := topS 64
theorem sc__law_ship : FnScope ["_law_box_here", "_law_name", "_law_ports", "_law_row"] ["_law_box_here", "_law_name", "_law_ports"] (defScope s__law_ship) := ⟨rfl, rfl, rfl, by decide +kernel, rfl, by decide +kernel, by decide +kernel⟩
-- _law_box_here:0 _law_name:1 _law_ports:2 _law_row:3
abbrev s__law_world : Stmt := topS 65
theorem sc__law_world : FnScope ["_law_box_here", "_law_sizes", "_law_ports", "_law_channels", "_law_vessels", "_law_rows", "_law_breakers", "_law_ships", "_law_name"] ["_law_box_here", "_law_sizes"] (defScope s__law_world) := ⟨rfl, rfl, rfl, by decide +kernel, rfl, by decide +kernel, by decide +kernel⟩
-- _law_box_here:0 _law_sizes:1 _law_ports:2 _law_channels:3 _law_vessels:4 _law_rows:5 _law_breakers:6 _law_ships:7 _law_name:8
abbrev s__law_few : Stmt := topS 66
theorem sc__law_few : FnScope ["_law_box_here", "_law_way", "_law_found"] ["_law_box_here"] (defScope s__law_few) := ⟨rfl, rfl, rfl, by decide +kernel, rfl, by decide +kernel, by decide +kernel⟩
-- _law_box_here:0 _law_way:1 _law_found:2
abbrev s__law_made : Stmt := topS 67
theorem sc__law_made : FnScope ["_law_world_here", "_law_channels", "_law_breakers", "_law_ships", "_law_a", "_law_b", "_law_c", "_law_d", "_law_e", "_law_f", "_law_g", "_law_h"] ["_law_world_here"] (defScope s__law_made) := ⟨rfl, rfl, rfl, by decide +kernel, rfl, by decide +kernel, by decide +kernel⟩
-- _law_world_here:0 _law_channels:1 _law_breakers:2 _law_ships:3 _law_a:4 _law_b:5 _law_c:6 _law_d:7 _law_e:8 _law_f:9 _law_g:10 _law_h:11
abbrev s__law_table : Stmt := topS 68
theorem sc__law_table : FnScope ["_law_box_here", "_law_world_here", "_law_names_here", "_law_ways", "_law_found", "_law_name", "_law_hour", "_law_entries", "_law_turn", "_law_rows", "_law_at", "_law_row"] ["_law_box_here", "_law_world_here"] (defScope s__law_table) := ⟨rfl, rfl, rfl, by decide +kernel, rfl, by decide +kernel, by decide +kernel⟩
-- _law_box_here:0 _law_world_here:1 _law_names_here:2 _law_ways:3 _law_found:4 _law_name:5 _law_hour:6 _law_entries:7 _law_turn:8 _law_rows:9 _law_at:10 _law_row:11
abbrev s__law_anew : Stmt := topS 69
theorem sc__law_anew : FnScope ["_law_world_here", "_law_table_here", "_law_found", "_law_row"] ["_law_world_here", "_law_table_here"] (defScope s__law_anew) := ⟨rfl, rfl, rfl, by decide +kernel, rfl, by decide +kernel, by decide +kernel⟩
-- _law_world_here:0 _law_table_here:1 _law_found:2 _law_row:3
abbrev s__law_copy : Stmt := topS 70
theorem sc__law_copy : FnScope ["_law_table_here", "_law_name", "_law_entries"] ["_law_table_here"] (defScope s__law_copy) := ⟨rfl, rfl, rfl, by decide +kernel, rfl, by decide +kernel, by decide +kernel⟩
-- _law_table_here:0 _law_name:1 _law_entries:2
abbrev s__law_dict : Stmt := topS 71
theorem sc__law_dict : FnScope ["_law_box_here", "_law_names_here", "_law_way", "_law_at", "_law_fresh", "_law_others", "_law_pairs"] ["_law_box_here", "_law_names_here"] (defScope s__law_dict) := ⟨rfl, rfl, rfl, by decide +kernel, rfl, by decide +kernel, by decide +kernel⟩
-- _law_box_here:0 _law_names_here:1 _law_way:2 _law_at:3 _law_fresh:4 _law_others:5 _law_pairs:6
abbrev s__law_due : Stmt := topS 72
theorem sc__law_due : FnScope ["_law_world_here", "_law_ports", "_law_channels", "_law_vessels", "_law_begin", "_law_own", "_law_ways", "_law_breakers", "_law_ships", "_law_rows", "_law_first", "_law_last", "_law_row", "_law_port"] ["_law_world_here", "_law_ports", "_law_channels", "_law_vessels"] (defScope s__law_due) := ⟨rfl, rfl, rfl, by decide +kernel, rfl, by decide +kernel, by decide +kernel⟩
-- _law_world_here:0 _law_ports:1 _law_channels:2 _law_vessels:3 _law_begin:4 _law_own:5 _law_ways:6 _law_breakers:7 _law_ships:8 _law_rows:9 _law_first:10 _law_last:11 _law_row:12 _law_port:13
abbrev s__law_due_table : Stmt := topS 73
theorem sc__law_due_table : FnScope ["_law_world_here", "_law_table_here", "_law_channels", "_law_vessels", "_law_found", "_law_name", "_law_entries", "_law_hour", "_law_channel_here"] ["_law_world_here", "_law_table_here", "_law_channels", "_law_vessels"] (defScope s__law_due_table) := ⟨rfl, rfl, rfl, by decide +kernel, rfl, by decide +kernel, by decide +kernel⟩
-- _law_world_here:0 _law_table_here:1 _law_channels:2 _law_vessels:3 _law_found:4 _law_name:5 _law_entries:6 _law_hour:7 _law_channel_here:8
abbrev s__law_back : Stmt := topS 74
theorem sc__law_back : FnScope ["_law_names_here", "_law_name", "_law_other"] ["_law_names_here"] (defScope s__law_back) := ⟨rfl, rfl, rfl, by decide +kernel, rfl, by decide +kernel, by decide +kernel⟩
-- _law_names_here:0 _law_name:1 _law_other:2
abbrev s__law_right : Stmt := topS 75
theorem sc__law_right : FnScope ["_law_scene", "_law_made_here", "_law_world_here", "_law_table_here", "_law_dicts", "_law_kept", "_law_due_here", "_law_rows", "_law_turn", "_law_handed", "_law_found", "_law_told", "_law_names_here", "_law_back_here", "_law_again", "_law_entries"] ["_law_scene"] (defScope s__law_right) := ⟨rfl, rfl, rfl, by decide +kernel, rfl, by decide +kernel, by decide +kernel⟩
-- _law_scene:0 _law_made_here:1 _law_world_here:2 _law_table_here:3 _law_dicts:4 _law_kept:5 _law_due_here:6 _law_rows:7 _law_turn:8 _law_handed:9 _law_found:10 _law_told:11 _law_names_here:12 _law_back_here:13 _law_again:14 _law_entries:15
abbrev s_law : Stmt := topS 76
theorem sc_law : FnScope ["_law_script", "_law_ahead", "_law_k", "_law_box_here", "_law_world_here", "_law_table_here", "_law_names_here", "_law_dicts", "_law_scene", "_law_row", "_law_some"] ["_law_script"] (defScope s_law) := ⟨rfl, rfl, rfl, by decide +kernel, rfl, by decide +kernel, by decide +kernel⟩
-- _law_script:0 _law_ahead:1 _law_k:2 _law_box_here:3 _law_world_here:4 _law_table_here:5 _law_names_here:6 _law_dicts:7 _law_scene:8 _law_row:9 _law_some:10
end Law
end
section
set_option Elab.async false
set_option linter.all false
set_option maxRecDepth 100000
set_option maxHeartbeats 4000000
namespace Law
open PySem PySem.Spec PyProof.Rows L2 IK SX
/-! ### what is common to the laws: words -/
theorem same_new {H : Hp} {p : Addr} {o : HO} (h : H p = none) : Same H (upd H p o) := fun b x e => by
  rw [upd_ne (ne_of_none e h)]
  exact e
theorem yesT {Q : Bool → Hp → Prop} {σ : L2.St} {H : Hp} (h : Q true H) : tYes σ H Q := h
/-- isinstance(x, T) is b -/
def IsB (K : PySem.W.Frag) (H : Hp) (x : V) (T : String) (b : Bool) : Prop := ∀ Q : VK, Q (.bl b) H → rIsi K [x, .ty T] H Q
theorem isB_ty {K : PySem.W.Frag} {H : Hp} {x : V} {t T : String} {b : Bool} (h : TyX K H x (.type t)) (e : kitB t T = some b) : IsB K H x T b := fun Q q => ⟨_, _, _, _, b, rfl, .ty T, h, kit_ty e, q⟩
/-- is it a whole number: b -/
def Whole (K : PySem.W.Frag) (H : Hp) (x : V) (b : Bool) : Prop := ∃ b1 b2, IsB K H x "int" b1 ∧ IsB K H x "bool" b2 ∧ b = (b1 && !b2)
theorem whole_int {K : PySem.W.Frag} {H : Hp} (n : Int) : Whole K H (.int n) true := ⟨true, false, isB_ty (.base (.int n)) (by decide +kernel), isB_ty (.base (.int n)) (by decide +kernel), rfl⟩
/-- the signs of a name -/
def letter (c : Nat) : Bool := decide (97 ≤ c) && decide (c ≤ 122)
def isName (l : List Nat) : Bool := decide (1 ≤ l.length) && decide (l.length ≤ 8) && l.all letter
structure Blt (mg : Str → Option Value) : Prop where
  isi : mg "isinstance" = none
  int : mg "int" = none
  bool : mg "bool" = none
  str : mg "str" = none
  list : mg "list" = none
  tuple : mg "tuple" = none
  dict : mg "dict" = none
  len : mg "len" = none
  all : mg "all" = none
  max : mg "max" = none
  min : mg "min" = none
  range : mg "range" = none
  repr : mg "repr" = none
theorem letters_list : (("abcdefghijklmnopqrstuvwxyz" : Str)).cps.toList = (List.range 26).map (· + 97) := by decide +kernel
theorem in_letters (c : Nat) : decide (c ∈ (("abcdefghijklmnopqrstuvwxyz" : Str)).cps.toList) = letter c := by
  rw [letters_list, Bool.eq_iff_iff]
  unfold letter
  simp only [decide_eq_true_eq, Bool.and_eq_true, List.mem_map, List.mem_range]
  constructor
  · rintro ⟨a, h, rfl⟩
    omega
  · rintro ⟨h1, h2⟩
    exact ⟨c - 97, by omega, by omega⟩
def spWhole (K : PySem.W.Frag) : Sp := fun vs H Q _ => ∃ x b, vs = [x] ∧ Whole K H x b ∧ Q (.bl b) H
def spWithin (K : PySem.W.Frag) : Sp := fun vs H Q _ => ∃ x lo hi, vs = [x, .int lo, .int hi] ∧ ((∃ n, x = .int n ∧ Q (.bl (decide (lo ≤ n) && decide (n ≤ hi))) H) ∨ (Whole K H x false ∧ Q (.bl false) H))
def spName : Sp := fun vs H Q _ => ∃ l, vs = [.str (S l)] ∧ l.length ≤ 1000 ∧ ∀ H', Same H H' → Q (.bl (isName l)) H'
section
variable {P : Program} {w : World} {K : PySem.W.Frag} {mg : Str → Option Value} {base : Heap}
theorem ok_whole {f : Addr} {fd : FuncData} (F : Fun K "is_whole" "is_whole" s_is_whole f fd) (B : Blt mg) : FnOk P w K mg base CX0 1 f fd ["thing"] (spWhole K) := by
  refine F.ok sc_is_whole (fun vs H Q E h => ?_) (fun cdv A outer s H vs Q E hr h => ?_)
  · obtain ⟨x, b, rfl, _⟩ := h
    rfl
  · obtain ⟨x, b, rfl, ⟨b1, b2, h1, h2, rfl⟩, q⟩ := h
    refine ⟨_, pss_one (ps_ret (pe_and (pe_callB call_isi (by rfl) B.isi (by decide +kernel) (pa_cons (pv 0) (pa_cons (pe_bltn (v := .ty "int") (by rfl) B.int (by decide +kernel) rfl) pa_nil)))
      (pe_one (pe_not (pe_callB call_isi (by rfl) B.isi (by decide +kernel) (pa_cons (pv 0) (pa_cons (pe_bltn (v := .ty "bool") (by rfl) B.bool (by decide +kernel) rfl) pa_nil))))))), ?_⟩
    refine ⟨_, rfl, ?_⟩
    dsimp only [tCons, tC, tNil]
    refine h1 _ ?_
    refine ⟨b1, rfl, ?_⟩
    cases b1 with
    | false => exact q
    | true =>
      refine iteT ?_
      refine ⟨_, rfl, ?_⟩
      dsimp only [tCons, tC, tNil]
      exact h2 _ ⟨_, rfl, q⟩
theorem ok_within {f : Addr} {fd : FuncData} (F : Fun K "is_within" "is_within" s_is_within f fd) (D : Dn P w K mg base CX0 1 "is_whole" ["thing"] (spWhole K)) : FnOk P w K mg base CX0 2 f fd ["thing", "low", "high"] (spWithin K) := by
  refine F.ok sc_is_within (fun vs H Q E h => ?_) (fun cdv A outer s H vs Q E hr h => ?_)
  · obtain ⟨x, lo, hi, rfl, _⟩ := h
    rfl
  · obtain ⟨x, lo, hi, rfl, h⟩ := h
    refine ⟨_, pss_one (ps_ret (pe_and (pe_d D (hr.mono (by decide)) (by rfl) pass0 (pa_cons (pv 0) pa_nil)) (pe_one (pe_chain op_le op_le (pv 1) (pv 0) (pv 2))))), ?_⟩
    rcases h with ⟨n, rfl, q⟩ | ⟨hw, q⟩
    · refine ⟨_, rfl, _, true, rfl, whole_int n, ?_⟩
      refine ⟨true, rfl, ?_⟩
      refine iteT ?_
      refine ⟨_, rfl, _, rfl, _, _, rfl, rfl, ?_⟩
      refine ⟨_, rfl, ?_⟩
      by_cases h1 : lo ≤ n
      · rw [decide_eq_true h1] at q ⊢
        refine iteT ⟨_, rfl, _, _, rfl, rfl, ?_⟩
        exact q
      · rw [decide_eq_false h1] at q ⊢
        exact iteF q
    · refine ⟨_, rfl, _, false, rfl, hw, ?_⟩
      exact ⟨false, rfl, iteF q⟩
theorem ok_name {f : Addr} {fd : FuncData} (F : Fun K "is_name" "is_name" s_is_name f fd) (B : Blt mg) (gL : ∃ u, mg "LETTERS" = some u ∧ RelV (.str "abcdefghijklmnopqrstuvwxyz") u) (gN : ∃ u, mg "LONGEST_NAME" = some u ∧ RelV (.int 8) u) :
    FnOk P w K mg base CX0 1 f fd ["thing"] spName := by
  refine F.ok sc_is_name (fun vs H Q E h => ?_) (fun cdv A outer s H vs Q E hr h => ?_)
  · obtain ⟨l, rfl, _⟩ := h
    rfl
  · obtain ⟨l, rfl, hl, q⟩ := h
    refine ⟨_, pss_cons (ps_if (PW.pt (pw_or (pt_not (pt_val (pe_callB call_isi (by rfl) B.isi (by decide +kernel) (pa_cons (pv 0) (pa_cons (pe_bltn (v := .ty "str") (by rfl) B.str (by decide +kernel) rfl) pa_nil)))))
        (pw_or1 (pt_not (pt_chain op_le op_le pe_int (pe_callB call_len_str (by rfl) B.len PySem.boot_len (pa_cons (pv 0) pa_nil)) (C8.pe_gc (by rfl) gN)))))) (pss_one (ps_ret pe_bl)) pss_nil)
      (pss_one (ps_ret (pe_callB (cr_all rfl) (by rfl) B.all (by decide +kernel) (pa_cons (pe_lc (own := [("sign", 1)]) (g := gName 1) (tt := tYes) rfl sc_is_name.nd (pi_str (pv 0))
          (blkOk_by (N := ["thing", "sign"]) (sc := defScope s_is_name) (by decide +kernel)) (fun _ _ _ _ _ => pg_name (i := 1) sc_is_name.nd rfl (Or.inl rfl)) (fun _ _ _ _ _ => pts_nil)
          (fun _ _ _ _ _ => pe_cmpR op_in_sign (pv 1) (C8.pe_gc (by rfl) gL) (by rfl))) pa_nil)))), ?_⟩
    refine ⟨_, rfl, _, _, _, _, true, rfl, .ty "str", .base (.str _), kit_ty (by decide +kernel), true, rfl, ?_⟩
    have hz : (S l).length ≤ sizeLine := by rw [S_len]; exact Nat.le_trans hl (by decide)
    refine iteF ?_
    refine ⟨_, rfl, _, rfl, hz, _, _, rfl, rfl, _, rfl, ?_⟩
    rw [S_len]
    by_cases h1 : 1 ≤ l.length
    · rw [decide_eq_true (show (1 : Int) ≤ (l.length : Int) by omega)]
      refine iteT ⟨_, _, rfl, rfl, _, rfl, ?_⟩
      by_cases h2 : l.length ≤ 8
      · rw [decide_eq_true (show (l.length : Int) ≤ 8 by omega)]
        refine iteF ?_
        refine ⟨_, rfl, S l, rfl, fun D hD => ?_⟩
        refine lc_it (walk_str (z := S l)) (fun i H' => H' = upd H D (.lst ((l.take i).map fun c => .bl (letter c)))) rfl (fun _ _ _ _ => trivial) ?_ ?_
        · rintro i x H1 H' hi hP ⟨rfl, c, hc, rfl⟩
          subst hP
          have hc' : l[i]? = some c := by simpa using hc
          refine ⟨rfl, ?_⟩
          refine yesT (iteT ?_)
          refine ⟨_, rfl, c, _, rfl, rfl, _, upd_same, ?_, ?_⟩
          · rw [List.length_map, List.length_take]
            exact Nat.lt_of_le_of_lt (Nat.le_trans (Nat.min_le_right _ _) hl) (by decide)
          · rw [upd_upd, in_letters, List.take_succ, hc']
            simp
        · rintro H' rfl
          have hall : (S l).cps.size = l.length := by simp
          rw [hall, List.take_length]
          refine ⟨D, l.map letter, rfl, .inl (.inl ?_), ?_⟩
          · rw [upd_same, List.map_map]
            rfl
          have hA : (l.map letter).all id = l.all letter := by
            rw [List.all_map]
            rfl
          rw [hA]
          have e : isName l = l.all letter := by
            unfold isName
            simp [h1, h2]
          rw [← e]
          exact q _ (same_new hD)
      · rw [decide_eq_false (show ¬ (l.length : Int) ≤ 8 by omega)]
        refine iteT ?_
        have e : isName l = false := by
          unfold isName
          simp [h2]
        rw [e] at q
        exact q H (Same.refl H)
    · rw [decide_eq_false (show ¬ (1 : Int) ≤ (l.length : Int) by omega)]
      refine iteF ⟨_, rfl, iteT ?_⟩
      have e : isName l = false := by
        unfold isName
        simp [h1]
      rw [e] at q
      exact q H (Same.refl H)
end
end Law
end
section
set_option Elab.async false
set_option linter.all false
set_option maxRecDepth 100000
set_option maxHeartbeats 4000000
namespace Law
open PySem PySem.Spec PyProof.Rows L2 IK SX
abbrev txts (ws : List (List Nat)) : List V := ws.map fun w => V.str (S w)
/-- all but p is as it was, as far as it was -/
def Bar (p : Addr) (H H' : Hp) : Prop := ∀ b o, b ≠ p → H b = some o → H' b = some o
theorem Bar.refl {p : Addr} {H : Hp} : Bar p H H := fun _ _ _ h => h
theorem Bar.trans {p : Addr} {H H1 H2 : Hp} (h : Bar p H H1) (k : Bar p H1 H2) : Bar p H H2 := fun b o hb e => k b o hb (h b o hb e)
theorem Bar.same {p : Addr} {H H' : Hp} (h : Same H H') : Bar p H H' := fun b o _ e => h b o e
theorem Bar.new {p q : Addr} {o : HO} {H : Hp} (h : H q = none) : Bar p H (upd H q o) := Bar.same (same_new h)
theorem Bar.at_ {p : Addr} {o : HO} {H : Hp} : Bar p H (upd H p o) := fun b x hb e => by rw [upd_ne hb]; exact e
theorem Bar.fresh {p : Addr} {H H' : Hp} (h : Bar p H H') (hp : H p = none) : Same H H' := fun b o e => h b o (ne_of_none e hp) e
theorem same_bar {p : Addr} {H H1 H2 : Hp} (s : Same H H1) (h : Bar p H1 H2) (hp : H p = none) : Same H H2 := fun b o e => h b o (ne_of_none e hp) (s b o e)
/-- an object with its fields -/
def ObjAt (C : Addr) (H : Hp) (p : Addr) (ks : List Str) (vs : List V) : Prop := ∃ dx, H p = some (.ins C dx (ks.zip vs))
theorem ObjAt.same {C p : Addr} {H H' : Hp} {ks : List Str} {vs : List V} (h : ObjAt C H p ks vs) (s : Same H H') : ObjAt C H' p ks vs := by
  obtain ⟨dx, h⟩ := h
  exact ⟨dx, s _ _ h⟩
/-- a maker's promise: behind it the object's fields are vs -/
def Makes (C : Addr) (p : Addr) (H : Hp) (ks : List Str) (vs : List V) (Q : VK) : Prop := ∃ dx, H p = some (.ins C dx []) ∧ ∀ H', Bar p H H' → H' p = some (.ins C dx (ks.zip vs)) → Q .non H'
/-- what the caller has of it -/
theorem Makes.use {C : Addr} {H : Hp} {ks : List Str} {vs : List V} {Q : VK} (q : ∀ p H', H p = none → Same H H' → ObjAt C H' p ks vs → Q (.ref p) H') {x dx : Addr} (hx : H x = none) (hd : H dx = none) :
    Makes C x (upd (upd H dx (.own x)) x (.ins C dx [])) ks vs (fun v H2 => v = .non ∧ Q (.ref x) H2) := by
  refine ⟨dx, upd_same, fun H' b e => ⟨rfl, q x H' hx (fun c o ec => ?_) ⟨dx, e⟩⟩⟩
  refine b c o (ne_of_none ec hx) ?_
  rw [upd_ne (ne_of_none ec hx), upd_ne (ne_of_none ec hd)]
  exact ec
def spNeedNames (K : PySem.W.Frag) : Sp := fun vs H Q _ => ∃ (a : Addr) (ws : List (List Nat)), vs = [.ref a] ∧ SqL K H a (txts ws) ∧ (∀ w ∈ ws, isName w = true) ∧ ∀ H', Same H H' → Q .non H'
def spNeedNums (K : PySem.W.Frag) : Sp := fun vs H Q _ => ∃ (a : Addr) (rs : List (Addr × Int × Int × Int)), vs = [.ref a] ∧ SqL K H a (rs.map fun r => V.ref r.1) ∧ (∀ r ∈ rs, H r.1 = some (.tup [.int r.2.1, .int r.2.2.1, .int r.2.2.2]) ∧ r.2.2.1 ≤ r.2.1 ∧ r.2.1 ≤ r.2.2.2) ∧ Q .non H
theorem isName_len {l : List Nat} (h : isName l = true) : 1 ≤ l.length ∧ l.length ≤ 8 ∧ ∀ c ∈ l, 97 ≤ c ∧ c ≤ 122 := by
  unfold isName letter at h
  simp only [Bool.and_eq_true, decide_eq_true_eq, List.all_eq_true] at h
  exact ⟨h.1.1, h.1.2, h.2⟩
section
variable {P : Program} {w : World} {K : PySem.W.Frag} {mg : Str → Option Value} {base : Heap}
theorem ok_needNames {f : Addr} {fd : FuncData} (F : Fun K "need_names" "need_names" s_need_names f fd) (D : Dn P w K mg base CX0 1 "is_name" ["thing"] spName) : FnOk P w K mg base CX0 2 f fd ["things"] (spNeedNames K) := by
  refine F.ok sc_need_names (fun vs H Q E h => ?_) (fun cdv A outer s H vs Q E hr h => ?_)
  · obtain ⟨a, ws, rfl, _⟩ := h
    rfl
  · obtain ⟨a, ws, rfl, hS, hn, q⟩ := h
    refine ⟨_, pss_one (ps_for PassesOwn.never rfl (pi_list (pv 0)) (pg_name (i := 1) sc_need_names.nd rfl (.inl rfl)) (pss_one (ps_if (pt_not (pt_val (pe_d D (hr.mono (by decide)) (by rfl) pass0 (pa_cons (pv 1) pa_nil)))) pss_dead pss_nil))), ?_⟩
    refine ⟨_, rfl, a, rfl, ⟨_, hS⟩, ?_⟩
    refine for_list (K := K) (a := a) (xs := txts ws) (fun i σ H' => ∃ y, σ = [some (.ref a), y] ∧ Same H H') ⟨none, rfl, Same.refl H⟩ (fun i σ H' _ ⟨_, _, sm⟩ => sm.seq hS) ?_ ?_
    · rintro i y σ H1 hi ⟨z, rfl, sm⟩
      rw [List.getElem?_map] at hi
      obtain ⟨wd, hwd, rfl⟩ : ∃ wd, ws[i]? = some wd ∧ y = .str (S wd) := by
        cases e : ws[i]? with
        | none => rw [e] at hi; cases hi
        | some wd => rw [e] at hi; exact ⟨wd, rfl, (Option.some.inj hi).symm⟩
      have hg := hn wd (List.mem_of_getElem? hwd)
      refine ⟨_, rfl, wd, rfl, Nat.le_trans (isName_len hg).2.1 (by decide), fun H2 s2 => ?_⟩
      rw [hg]
      refine ⟨true, rfl, ?_⟩
      refine iteF ?_
      exact ⟨_, rfl, sm.trans s2⟩
    · rintro σ H1 ⟨z, rfl, sm⟩
      exact q H1 sm
theorem ok_needNums {f : Addr} {fd : FuncData} (F : Fun K "need_numbers" "need_numbers" s_need_numbers f fd) (D : Dn P w K mg base CX0 2 "is_within" ["thing", "low", "high"] (spWithin K)) : FnOk P w K mg base CX0 3 f fd ["rows"] (spNeedNums K) := by
  refine F.ok sc_need_numbers (fun vs H Q E h => ?_) (fun cdv A outer s H vs Q E hr h => ?_)
  · obtain ⟨a, ws, rfl, _⟩ := h
    rfl
  · obtain ⟨a, rs, rfl, hS, hn, q⟩ := h
    refine ⟨_, pss_one (ps_for PassesOwn.never rfl (pi_list (pv 0)) (pg_tup rfl (pgs_cons (pg_name (i := 1) sc_need_numbers.nd rfl (.inl rfl)) (pgs_cons (pg_name (i := 2) sc_need_numbers.nd rfl (.inl rfl)) (pgs_cons (pg_name (i := 3) sc_need_numbers.nd rfl (.inl rfl)) pgs_nil))))
      (pss_one (ps_if (pt_not (pt_val (pe_d D (hr.mono (by decide)) (by rfl) pass0 (pa_cons (pv 1) (pa_cons (pv 2) (pa_cons (pv 3) pa_nil)))))) pss_dead pss_nil))), ?_⟩
    refine ⟨_, rfl, a, rfl, ⟨_, hS⟩, ?_⟩
    refine for_list (K := K) (a := a) (xs := rs.map fun r => V.ref r.1) (fun i σ H' => ∃ y1 y2 y3, σ = [some (.ref a), y1, y2, y3] ∧ H' = H) ⟨none, none, none, rfl, rfl⟩ (fun i σ H' _ ⟨_, _, _, _, e⟩ => e ▸ hS) ?_ ?_
    · rintro i y σ H1 hi ⟨y1, y2, y3, rfl, rfl⟩
      rw [List.getElem?_map] at hi
      obtain ⟨r, hr2, rfl⟩ : ∃ r, rs[i]? = some r ∧ y = .ref r.1 := by
        cases e : rs[i]? with
        | none => rw [e] at hi; cases hi
        | some wd => rw [e] at hi; exact ⟨wd, rfl, (Option.some.inj hi).symm⟩
      obtain ⟨h1, h2, h3⟩ := hn r (List.mem_of_getElem? hr2)
      refine ⟨r.1, _, rfl, .inl (.inl h1), rfl, _, _, rfl, _, _, rfl, _, _, rfl, rfl, ?_⟩
      refine ⟨_, rfl, _, rfl, _, rfl, _, _, _, rfl, .inl ⟨_, rfl, ?_⟩⟩
      rw [decide_eq_true h2, decide_eq_true h3]
      refine ⟨true, rfl, ?_⟩
      refine iteF ?_
      exact ⟨_, _, _, rfl, rfl⟩
    · rintro σ H1 ⟨y1, y2, y3, rfl, rfl⟩
      exact q
end
end Law
end
section
set_option Elab.async false
set_option linter.all false
set_option maxRecDepth 100000
set_option maxHeartbeats 4000000
namespace Law
open PySem PySem.Spec PyProof.Rows L2 IK SX
/-! ### comprehensions that keep what is known -/
/-- the heap without D -/
def hide (D : Addr) (H : Hp) : Hp := fun b => if b = D then none else H b
theorem hide_ne {D b : Addr} {H : Hp} (h : b ≠ D) : hide D H b = H b := if_neg h
theorem hide_upd {D : Addr} {o : HO} {H : Hp} : hide D (upd H D o) = hide D H := by
  funext b
  by_cases e : b = D
  · simp [hide, e]
  · rw [hide_ne e, hide_ne e, upd_ne e]
theorem hide_same {D : Addr} {H H' : Hp} (s : Same H H') : Same (hide D H) (hide D H') := fun b o e => by
  by_cases z : b = D
  · simp [hide, z] at e
  · rw [hide_ne z] at e ⊢
    exact s b o e
theorem hide_le {D : Addr} {H : Hp} : Same (hide D H) H := fun b o e => by
  by_cases z : b = D
  · simp [hide, z] at e
  · rw [hide_ne z] at e
    exact e
/-- what is no list stands there too -/
theorem hide_of {D b : Addr} {H : Hp} {l : List V} {o : HO} (h : H D = some (.lst l)) (ho : ∀ l, o ≠ .lst l) (e : H b = some o) : hide D H b = some o := by
  have z : b ≠ D := fun z => by
    rw [z, h] at e
    injection e with e
    exact ho l e.symm
  rw [hide_ne z]
  exact e
/-- of each of xs one of ys -/
def Each (F : V → V → Prop) (xs ys : List V) : Prop := ys.length = xs.length ∧ ∀ (i : Nat) (x y : V), xs[i]? = some x → ys[i]? = some y → F x y
theorem Each.map {α : Type} {F : V → V → Prop} {f g : α → V} {l : List α} {ys : List V} (h : Each F (l.map f) ys) (hg : ∀ a ∈ l, ∀ y, F (f a) y → y = g a) : ys = l.map g := by
  obtain ⟨h1, h2⟩ := h
  refine List.ext_getElem? fun i => ?_
  rw [List.getElem?_map]
  rw [List.length_map] at h1
  cases e : l[i]? with
  | none =>
    have e2 : l.length ≤ i := List.getElem?_eq_none_iff.mp e
    rw [List.getElem?_eq_none_iff.mpr (by omega)]
    rfl
  | some x =>
    have hi : i < ys.length := h1 ▸ (List.getElem?_eq_some_iff.mp e).1
    obtain ⟨y, hy⟩ : ∃ y, ys[i]? = some y := ⟨_, List.getElem?_eq_getElem hi⟩
    rw [hy, hg x (List.mem_of_getElem? e) y (h2 i _ y (by rw [List.getElem?_map, e]; rfl) hy)]
    rfl
theorem none_back {H H' : Hp} {p : Addr} (s : Same H H') (h : H' p = none) : H p = none := by
  cases e : H p with
  | none => rfl
  | some o => rw [s _ _ e] at h; cases h
theorem pe_fldK {X : Cx} {K : PySem.W.Frag} {e : Expr} {f : Str} {pos : Pos} {ta : TE} (hK : X.K = K) (he : PE X e ta) (hb : attributeBase e f X.env (eval e X.env) = eval e X.env) : PE X (.Attribute e f pos) (tFld K ta f) := hK ▸ pe_fld he hb
theorem laid_same {H Hn : Hp} {t : Addr} {o : HO} (e : upd H t o = Hn) (h : H t = none) : Same H Hn := e ▸ same_new h
theorem laid_at {H Hn : Hp} {t : Addr} {o : HO} (e : upd H t o = Hn) : Hn t = some o := e ▸ upd_same
section
variable {K : PySem.W.Frag} {a : Addr} {xs : List V}
theorem lc_map {g : TG} {te : TE} {vs : List Nat} {σ : L2.St} {H1 : Hp} {Qd : Addr → Hp → Prop} (F : V → V → Hp → Prop) (hq : SqA K H1 a xs) (hl : xs.length < sizeLine) (hM : ∀ x y H H', Same H H' → F x y H → F x y H')
    (hF : ∀ x y H D l, H D = some (.lst l) → F x y H → F x y (hide D H))
    (hs : ∀ x H (k : V → Hp → Prop), x ∈ xs → Same H1 H → (∀ y H4, Same H H4 → F x y H4 → k y H4) → g x (wipe σ vs) H fun σ2 H2 => wipe σ2 vs = wipe σ vs ∧ te σ2 H2 k)
    (hd : ∀ D ys H, H1 D = none → Same H1 H → H D = some (.lst ys) → Each (fun x y => F x y H) xs ys → Qd D H) :
    ((∃ xs, SqL K H1 a xs) ∧ ∀ D, H1 D = none → ∃ W : Nat → Nat → Hp → Prop, (∃ m, W 0 m (upd H1 D (.lst []))) ∧ ∀ i m H, W i m H →
      ((Itl K a).stop i H ∧ Qd D H) ∨ ((Itl K a).go i H ∧ ∃ Nx : Hp → Prop, (∀ H', Nx H' → ∃ m', m' < m ∧ W (i + 1) m' H') ∧ ∀ x H', (Itl K a).yld i H x H' → g x (wipe σ vs) H' fun σ2 H2 => wipe σ2 vs = wipe σ vs ∧ tYes σ2 H2 fun b H3 =>
        if b = true then te σ2 H3 fun y H4 => ∃ acc, H4 D = some (.lst acc) ∧ acc.length < sizeLine ∧ Nx (upd H4 D (.lst (acc ++ [y]))) else Nx H3)) ∨
    ((∃ xs, SqT K H1 a xs) ∧ ∀ D, H1 D = none → ∃ W : Nat → Nat → Hp → Prop, (∃ m, W 0 m (upd H1 D (.lst []))) ∧ ∀ i m H, W i m H →
      ((Itt K a).stop i H ∧ Qd D H) ∨ ((Itt K a).go i H ∧ ∃ Nx : Hp → Prop, (∀ H', Nx H' → ∃ m', m' < m ∧ W (i + 1) m' H') ∧ ∀ x H', (Itt K a).yld i H x H' → g x (wipe σ vs) H' fun σ2 H2 => wipe σ2 vs = wipe σ vs ∧ tYes σ2 H2 fun b H3 =>
        if b = true then te σ2 H3 fun y H4 => ∃ acc, H4 D = some (.lst acc) ∧ acc.length < sizeLine ∧ Nx (upd H4 D (.lst (acc ++ [y]))) else Nx H3)) := by
  refine lc_seq hq (fun D i H => Same H1 H ∧ ∃ acc, H D = some (.lst acc) ∧ acc.length = min i xs.length ∧ ∀ (j : Nat) x y, xs[j]? = some x → acc[j]? = some y → F x y (hide D H)) fun D hD => ⟨?_, ?_, ?_, ?_⟩
  · exact ⟨same_new hD, [], upd_same, by simp, fun j x y _ h => by simp at h⟩
  · rintro i H ⟨s, _⟩
    exact Same.kp s
  · rintro i x H hx ⟨s, acc, hA, ha, hf⟩
    have hi : i < xs.length := (List.getElem?_eq_some_iff.mp hx).1
    have e1 : acc.length = i := by rw [ha]; exact Nat.min_eq_left (Nat.le_of_lt hi)
    have z := hs x H (fun y H4 => ∃ acc, H4 D = some (.lst acc) ∧ acc.length < sizeLine ∧ (Same H1 (upd H4 D (.lst (acc ++ [y]))) ∧ ∃ acc', upd H4 D (.lst (acc ++ [y])) D = some (.lst acc') ∧ acc'.length = min (i + 1) xs.length ∧
      ∀ (j : Nat) x y', xs[j]? = some x → acc'[j]? = some y' → F x y' (hide D (upd H4 D (.lst (acc ++ [y])))))) (List.mem_of_getElem? hx) s fun y H4 s4 f4 => by
        have hA4 := s4 _ _ hA
        refine ⟨acc, hA4, by omega, fun b o e => ?_, acc ++ [y], upd_same, by simp [e1]; omega, fun j x' y' hx' hy' => ?_⟩
        · rw [upd_ne (ne_of_none e hD)]
          exact s4 _ _ (s _ _ e)
        · rw [hide_upd]
          by_cases hj : j < acc.length
          · rw [List.getElem?_append_left hj] at hy'
            exact hM _ _ _ _ (hide_same s4) (hf j x' y' hx' hy')
          · rw [List.getElem?_append_right (by omega)] at hy'
            have e2 : j - acc.length = 0 := by
              have := (List.getElem?_eq_some_iff.mp hy').1
              simp at this
              omega
            have e3 : j = i := by omega
            rw [e2] at hy'
            have e4 : y = y' := by simpa using hy'
            subst e3 e4
            obtain rfl : x = x' := by rw [hx] at hx'; exact Option.some.inj hx'
            exact hF _ _ _ _ _ hA4 f4
    refine z
  · rintro H ⟨s, acc, hA, ha, hf⟩
    exact hd D acc H hD s hA ⟨by rw [ha]; exact Nat.min_self _, fun i x y h1 h2 => hM _ _ _ _ hide_le (hf i x y h1 h2)⟩
end
end Law
end
section
set_option Elab.async false
set_option linter.all false
set_option maxRecDepth 100000
set_option maxHeartbeats 4000000
namespace Law
open PySem PySem.Spec PyProof.Rows L2 IK SX
/-! ### vessels and channels -/
abbrev GI (mg : Str → Option Value) (x : Str) (n : Int) : Prop := ∃ u, mg x = some u ∧ RelV (.int n) u
structure Bnd (mg : Str → Option Value) : Prop where
  hour : GI mg "MOST_HOUR" 1000000
  ice : GI mg "MOST_ICE" 1000000
  depth : GI mg "MOST_DEPTH" 1000
  length : GI mg "MOST_LENGTH" 1000
  growth : GI mg "MOST_GROWTH" 1000
structure Chan where
  name : List Nat
  one : List Nat
  other : List Nat
  hours : Int
  depth : Int
  first : Int
  growth : Int
  most : Int
structure Ves where
  name : List Nat
  port : List Nat
  hour : Int
  strength : Int
  draught : Int
structure Brk extends Ves where
  cut : Int
structure Shp extends Ves where
  goal : List Nat
abbrev chanK : List Str := ["name", "one", "other", "hours", "depth", "first", "growth", "most"]
abbrev vesK : List Str := ["name", "port", "hour", "strength", "draught"]
abbrev brkK : List Str := ["name", "port", "hour", "strength", "draught", "cut"]
abbrev shpK : List Str := ["name", "port", "hour", "strength", "draught", "goal"]
abbrev Chan.vals (c : Chan) : List V := [.str (S c.name), .str (S c.one), .str (S c.other), .int c.hours, .int c.depth, .int c.first, .int c.growth, .int c.most]
abbrev Ves.vals (b : Ves) : List V := [.str (S b.name), .str (S b.port), .int b.hour, .int b.strength, .int b.draught]
abbrev Brk.vals (b : Brk) : List V := b.toVes.vals ++ [.int b.cut]
abbrev Shp.vals (b : Shp) : List V := b.toVes.vals ++ [.str (S b.goal)]
/-- as its row is told, as its maker is called -/
abbrev Shp.row (b : Shp) : List V := [.str (S b.name), .str (S b.port), .str (S b.goal), .int b.hour, .int b.strength, .int b.draught]
structure Chan.Good (c : Chan) : Prop where
  name : isName c.name = true
  one : isName c.one = true
  other : isName c.other = true
  ne : c.one ≠ c.other
  hours : 1 ≤ c.hours ∧ c.hours ≤ 1000
  depth : 0 ≤ c.depth ∧ c.depth ≤ 1000
  first : 0 ≤ c.first ∧ c.first ≤ 1000000
  growth : 0 ≤ c.growth ∧ c.growth ≤ 1000
  most : c.first ≤ c.most ∧ c.most ≤ 1000000
structure Ves.Good (b : Ves) : Prop where
  name : isName b.name = true
  port : isName b.port = true
  hour : 0 ≤ b.hour ∧ b.hour ≤ 1000000
  strength : 0 ≤ b.strength ∧ b.strength ≤ 1000000
  draught : 0 ≤ b.draught ∧ b.draught ≤ 1000
structure Brk.Good (b : Brk) : Prop where
  ves : b.toVes.Good
  cut : 1 ≤ b.cut ∧ b.cut ≤ 1000000
structure Shp.Good (b : Shp) : Prop where
  ves : b.toVes.Good
  goal : isName b.goal = true
theorem isName_ne {a b : List Nat} (ha : isName a = true) (hb : isName b = true) (h : a ≠ b) : (V.str (S a)) ≠ .str (S b) := fun z => h (by
  injection z with z
  exact S_inj z)
/-- what the class's fields are read by -/
structure Cl (K : PySem.W.Frag) (C : Addr) (ks : List Str) : Prop where
  cls : Cls K C
  no : ∀ k ∈ ks, NoAttr K C k
theorem fld_put {H : Hp} {p C dx : Addr} {ks : List Str} {vs : List V} {k : Str} {v : V} (hp : H p = some (.ins C dx (ks.zip vs))) (hl : ks.length = vs.length) (hk : k ∉ ks) :
    Bar p H (upd H p (.ins C dx (putF k v (ks.zip vs)))) ∧ upd H p (.ins C dx (putF k v (ks.zip vs))) p = some (.ins C dx ((ks ++ [k]).zip (vs ++ [v]))) := by
  refine ⟨Bar.at_, ?_⟩
  rw [upd_same, put_zip hl hk]
def spSettle (C : Addr) : Sp := fun vs H Q _ => ∃ (p : Addr) (b : Ves), vs = .ref p :: b.vals ∧ Makes C p H vesK b.vals Q
def spVesMk (C : Addr) : Sp := fun vs H Q _ => ∃ (p : Addr) (b : Ves), vs = .ref p :: b.vals ∧ b.Good ∧ Makes C p H vesK b.vals Q
def spBrkMk (C : Addr) : Sp := fun vs H Q _ => ∃ (p : Addr) (b : Brk), vs = .ref p :: b.vals ∧ b.Good ∧ Makes C p H brkK b.vals Q
def spShpMk (C : Addr) : Sp := fun vs H Q _ => ∃ (p : Addr) (b : Shp), vs = .ref p :: b.row ∧ b.Good ∧ Makes C p H shpK b.vals Q
def spChanMk (C : Addr) : Sp := fun vs H Q _ => ∃ (p : Addr) (c : Chan), vs = .ref p :: c.vals ∧ c.Good ∧ Makes C p H chanK c.vals Q
section
variable {P : Program} {w : World} {K : PySem.W.Frag} {mg : Str → Option Value} {base : Heap}
theorem ok_chanMk {C : Addr} {f : Addr} {fd : FuncData} (F : Fun K "__init__" "Channel.__init__" s_Channel___init__ f fd) (N : Bnd mg) (T : Cl K C chanK) (DN : Dn P w K mg base CX0 2 "need_names" ["things"] (spNeedNames K)) (DU : Dn P w K mg base CX0 3 "need_numbers" ["rows"] (spNeedNums K)) :
    FnOk P w K mg base CX0 4 f fd ["self", "name", "one", "other", "hours", "depth", "first", "growth", "most"] (spChanMk C) := by
  refine F.ok sc_Channel___init__ (fun vs H Q E h => ?_) (fun cdv A outer s H vs Q E hr h => ?_)
  · obtain ⟨p, c, rfl, _⟩ := h
    rfl
  · obtain ⟨p, c, rfl, g, dx, hp, q⟩ := h
    refine ⟨_, (pss_cons (ps_expr (pe_d DN (hr.mono (by decide)) (by rfl) pass0 (pa_cons (pe_lst (pa_cons (pv 1) (pa_cons (pv 2) (pa_cons (pv 3) pa_nil)))) pa_nil)))
      (pss_cons (ps_if (pt_cmpR op_eq (pv 2) (pv 3) (nomark _)) pss_dead pss_nil)
      (pss_cons (ps_expr (pe_d DU (hr.mono (by decide)) (by rfl) pass0 (pa_cons (pe_lst (pa_cons (pe_tup (pa_cons (pv 4) (pa_cons pe_int (pa_cons (C8.pe_gc (by rfl) N.length) pa_nil)))) (pa_cons (pe_tup (pa_cons (pv 5) (pa_cons pe_int (pa_cons (C8.pe_gc (by rfl) N.depth) pa_nil)))) (pa_cons (pe_tup (pa_cons (pv 6) (pa_cons pe_int (pa_cons (C8.pe_gc (by rfl) N.ice) pa_nil)))) pa_nil)))) pa_nil)))
      (pss_cons (ps_expr (pe_d DU (hr.mono (by decide)) (by rfl) pass0 (pa_cons (pe_lst (pa_cons (pe_tup (pa_cons (pv 7) (pa_cons pe_int (pa_cons (C8.pe_gc (by rfl) N.growth) pa_nil)))) (pa_cons (pe_tup (pa_cons (pv 8) (pa_cons (pv 6) (pa_cons (C8.pe_gc (by rfl) N.ice) pa_nil)))) pa_nil))) pa_nil)))
      (pss_cons (ps_fld (pv 0) (pv 1) rfl)
      (pss_cons (ps_fld (pv 0) (pv 2) rfl)
      (pss_cons (ps_fld (pv 0) (pv 3) rfl)
      (pss_cons (ps_fld (pv 0) (pv 4) rfl)
      (pss_cons (ps_fld (pv 0) (pv 5) rfl)
      (pss_cons (ps_fld (pv 0) (pv 6) rfl)
      (pss_cons (ps_fld (pv 0) (pv 7) rfl)
      (pss_one (ps_fld (pv 0) (pv 8) rfl))))))))))))), ?_⟩
    refine ⟨_, rfl, _, rfl, _, rfl, Nat.le_of_ble_eq_true rfl, fun a1 ha1 => ?_⟩
    refine ⟨a1, [c.name, c.one, c.other], rfl, SqL.of upd_same, ?_, fun Ha sa => ?_⟩
    · intro x hx
      simp only [List.mem_cons, List.not_mem_nil, or_false] at hx
      rcases hx with rfl | rfl | rfl
      · exact g.name
      · exact g.one
      · exact g.other
    have sm := (same_new ha1).trans sa
    refine ⟨_, rfl, _, rfl, rfl, _, rfl, ?_⟩
    rw [decide_eq_false (isName_ne g.one g.other g.ne)]
    refine iteF ?_
    refine ⟨_, rfl, ?_⟩
    refine ⟨Nat.le_of_ble_eq_true rfl, fun t1 ht1 => ?_⟩
    generalize hXq : upd _ t1 _ = H1
    have s1 := laid_same hXq ht1
    have e1 := laid_at hXq
    clear hXq
    refine ⟨_, rfl, ?_⟩
    refine ⟨Nat.le_of_ble_eq_true rfl, fun t2 ht2 => ?_⟩
    generalize hXq : upd _ t2 _ = H2
    have s2 := laid_same hXq ht2
    have e2 := laid_at hXq
    clear hXq
    refine ⟨_, rfl, ?_⟩
    refine ⟨Nat.le_of_ble_eq_true rfl, fun t3 ht3 => ?_⟩
    generalize hXq : upd _ t3 _ = H3
    have s3 := laid_same hXq ht3
    have e3 := laid_at hXq
    clear hXq
    refine ⟨Nat.le_of_ble_eq_true rfl, fun a2 ha2 => ?_⟩
    generalize hXq : upd _ a2 _ = H4
    have s4 := laid_same hXq ha2
    have e4 := laid_at hXq
    clear hXq
    refine ⟨a2, [(t1, c.hours, 1, 1000), (t2, c.depth, 0, 1000), (t3, c.first, 0, 1000000)], rfl, SqL.of e4, ?_, ?_⟩
    · intro r hr
      simp only [List.mem_cons, List.not_mem_nil, or_false] at hr
      rcases hr with rfl | rfl | rfl
      · exact ⟨s4 _ _ (s3 _ _ (s2 _ _ e1)), g.hours⟩
      · exact ⟨s4 _ _ (s3 _ _ e2), g.depth⟩
      · exact ⟨s4 _ _ e3, g.first⟩
    have sm := sm.trans (s1.trans (s2.trans (s3.trans s4)))
    refine ⟨_, rfl, ?_⟩
    refine ⟨Nat.le_of_ble_eq_true rfl, fun t5 ht5 => ?_⟩
    generalize hXq : upd _ t5 _ = H5
    have s5 := laid_same hXq ht5
    have e5 := laid_at hXq
    clear hXq
    refine ⟨_, rfl, _, rfl, ?_⟩
    refine ⟨Nat.le_of_ble_eq_true rfl, fun t6 ht6 => ?_⟩
    generalize hXq : upd _ t6 _ = H6
    have s6 := laid_same hXq ht6
    have e6 := laid_at hXq
    clear hXq
    refine ⟨Nat.le_of_ble_eq_true rfl, fun a7 ha7 => ?_⟩
    generalize hXq : upd _ a7 _ = H0
    have s7 := laid_same hXq ha7
    have e7 := laid_at hXq
    clear hXq
    refine ⟨a7, [(t5, c.growth, 0, 1000), (t6, c.most, c.first, 1000000)], rfl, SqL.of e7, ?_, ?_⟩
    · intro r hr
      simp only [List.mem_cons, List.not_mem_nil, or_false] at hr
      rcases hr with rfl | rfl
      · exact ⟨s7 _ _ (s6 _ _ e5), g.growth⟩
      · exact ⟨s7 _ _ e6, g.most⟩
    have sm := sm.trans (s5.trans (s6.trans s7))
    clear e1 e2 e3 e4 e5 e6 e7 s1 s2 s3 s4 s5 s6 s7
    have h0 : H0 p = some (.ins C dx (([] : List Str).zip ([] : List V))) := sm _ _ hp
    have b0 : Bar p H H0 := Bar.same sm
    obtain ⟨b1, h1⟩ := fld_put (k := "name") (v := .str (S c.name)) h0 rfl (by decide +kernel)
    refine ⟨_, rfl, _, rfl, p, C, dx, _, rfl, h0, T.cls, T.no _ (by decide +kernel), Nat.le_of_ble_eq_true rfl, ?_⟩
    generalize upd _ p _ = H1 at b1 h1 ⊢
    obtain ⟨b2, h2⟩ := fld_put (k := "one") (v := .str (S c.one)) h1 rfl (by decide +kernel)
    refine ⟨_, rfl, _, rfl, p, C, dx, _, rfl, h1, T.cls, T.no _ (by decide +kernel), Nat.le_of_ble_eq_true rfl, ?_⟩
    generalize upd _ p _ = H2 at b2 h2 ⊢
    obtain ⟨b3, h3⟩ := fld_put (k := "other") (v := .str (S c.other)) h2 rfl (by decide +kernel)
    refine ⟨_, rfl, _, rfl, p, C, dx, _, rfl, h2, T.cls, T.no _ (by decide +kernel), Nat.le_of_ble_eq_true rfl, ?_⟩
    generalize upd _ p _ = H3 at b3 h3 ⊢
    obtain ⟨b4, h4⟩ := fld_put (k := "hours") (v := .int c.hours) h3 rfl (by decide +kernel)
    refine ⟨_, rfl, _, rfl, p, C, dx, _, rfl, h3, T.cls, T.no _ (by decide +kernel), Nat.le_of_ble_eq_true rfl, ?_⟩
    generalize upd _ p _ = H4 at b4 h4 ⊢
    obtain ⟨b5, h5⟩ := fld_put (k := "depth") (v := .int c.depth) h4 rfl (by decide +kernel)
    refine ⟨_, rfl, _, rfl, p, C, dx, _, rfl, h4, T.cls, T.no _ (by decide +kernel), Nat.le_of_ble_eq_true rfl, ?_⟩
    generalize upd _ p _ = H5 at b5 h5 ⊢
    obtain ⟨b6, h6⟩ := fld_put (k := "first") (v := .int c.first) h5 rfl (by decide +kernel)
    refine ⟨_, rfl, _, rfl, p, C, dx, _, rfl, h5, T.cls, T.no _ (by decide +kernel), Nat.le_of_ble_eq_true rfl, ?_⟩
    generalize upd _ p _ = H6 at b6 h6 ⊢
    obtain ⟨b7, h7⟩ := fld_put (k := "growth") (v := .int c.growth) h6 rfl (by decide +kernel)
    refine ⟨_, rfl, _, rfl, p, C, dx, _, rfl, h6, T.cls, T.no _ (by decide +kernel), Nat.le_of_ble_eq_true rfl, ?_⟩
    generalize upd _ p _ = H7 at b7 h7 ⊢
    obtain ⟨b8, h8⟩ := fld_put (k := "most") (v := .int c.most) h7 rfl (by decide +kernel)
    refine ⟨_, rfl, _, rfl, p, C, dx, _, rfl, h7, T.cls, T.no _ (by decide +kernel), Nat.le_of_ble_eq_true rfl, ?_⟩
    generalize upd _ p _ = H8 at b8 h8 ⊢
    exact q _ ((((((((b0.trans b1).trans b2).trans b3).trans b4).trans b5).trans b6).trans b7).trans b8) h8
theorem ok_settle {C : Addr} {f : Addr} {fd : FuncData} (F : Fun K "settle" "Vessel.settle" s_Vessel_settle f fd) (T : Cl K C vesK) : FnOk P w K mg base CX0 1 f fd ["self", "name", "port", "hour", "strength", "draught"] (spSettle C) := by
  refine F.ok sc_Vessel_settle (fun vs H Q E h => ?_) (fun cdv A outer s H vs Q E hr h => ?_)
  · obtain ⟨p, c, rfl, _⟩ := h
    rfl
  · obtain ⟨p, b, rfl, dx, h0, q⟩ := h
    refine ⟨_, (pss_cons (ps_fld (pv 0) (pv 1) rfl)
      (pss_cons (ps_fld (pv 0) (pv 2) rfl)
      (pss_cons (ps_fld (pv 0) (pv 3) rfl)
      (pss_cons (ps_fld (pv 0) (pv 4) rfl)
      (pss_one (ps_fld (pv 0) (pv 5) rfl)))))), ?_⟩
    have h0 : H p = some (.ins C dx (([] : List Str).zip ([] : List V))) := h0
    have b0 : Bar p H H := Bar.refl
    obtain ⟨b1, h1⟩ := fld_put (k := "name") (v := .str (S b.name)) h0 rfl (by decide +kernel)
    refine ⟨_, rfl, _, rfl, p, C, dx, _, rfl, h0, T.cls, T.no _ (by decide +kernel), Nat.le_of_ble_eq_true rfl, ?_⟩
    generalize upd _ p _ = H1 at b1 h1 ⊢
    obtain ⟨b2, h2⟩ := fld_put (k := "port") (v := .str (S b.port)) h1 rfl (by decide +kernel)
    refine ⟨_, rfl, _, rfl, p, C, dx, _, rfl, h1, T.cls, T.no _ (by decide +kernel), Nat.le_of_ble_eq_true rfl, ?_⟩
    generalize upd _ p _ = H2 at b2 h2 ⊢
    obtain ⟨b3, h3⟩ := fld_put (k := "hour") (v := .int b.hour) h2 rfl (by decide +kernel)
    refine ⟨_, rfl, _, rfl, p, C, dx, _, rfl, h2, T.cls, T.no _ (by decide +kernel), Nat.le_of_ble_eq_true rfl, ?_⟩
    generalize upd _ p _ = H3 at b3 h3 ⊢
    obtain ⟨b4, h4⟩ := fld_put (k := "strength") (v := .int b.strength) h3 rfl (by decide +kernel)
    refine ⟨_, rfl, _, rfl, p, C, dx, _, rfl, h3, T.cls, T.no _ (by decide +kernel), Nat.le_of_ble_eq_true rfl, ?_⟩
    generalize upd _ p _ = H4 at b4 h4 ⊢
    obtain ⟨b5, h5⟩ := fld_put (k := "draught") (v := .int b.draught) h4 rfl (by decide +kernel)
    refine ⟨_, rfl, _, rfl, p, C, dx, _, rfl, h4, T.cls, T.no _ (by decide +kernel), Nat.le_of_ble_eq_true rfl, ?_⟩
    generalize upd _ p _ = H5 at b5 h5 ⊢
    exact q _ (((((b0.trans b1).trans b2).trans b3).trans b4).trans b5) h5
theorem ok_vesMk {C : Addr} {f : Addr} {fd : FuncData} (F : Fun K "__init__" "Vessel.__init__" s_Vessel___init__ f fd) (N : Bnd mg) (T : Cl K C vesK) (DN : Dn P w K mg base CX0 2 "need_names" ["things"] (spNeedNames K)) (DU : Dn P w K mg base CX0 3 "need_numbers" ["rows"] (spNeedNums K))
    (DS : Me P w K mg base CX0 1 C "settle" ["self", "name", "port", "hour", "strength", "draught"] (spSettle C)) : FnOk P w K mg base CX0 4 f fd ["self", "name", "port", "hour", "strength", "draught"] (spVesMk C) := by
  refine F.ok sc_Vessel___init__ (fun vs H Q E h => ?_) (fun cdv A outer s H vs Q E hr h => ?_)
  · obtain ⟨p, c, rfl, _⟩ := h
    rfl
  · obtain ⟨p, b, rfl, g, dx, hp, q⟩ := h
    refine ⟨_, (pss_cons (ps_expr (pe_d DN (hr.mono (by decide)) (by rfl) pass0 (pa_cons (pe_lst (pa_cons (pv 1) (pa_cons (pv 2) pa_nil))) pa_nil)))
      (pss_cons (ps_expr (pe_d DU (hr.mono (by decide)) (by rfl) pass0 (pa_cons (pe_lst (pa_cons (pe_tup (pa_cons (pv 3) (pa_cons pe_int (pa_cons (C8.pe_gc (by rfl) N.hour) pa_nil)))) (pa_cons (pe_tup (pa_cons (pv 4) (pa_cons pe_int (pa_cons (C8.pe_gc (by rfl) N.ice) pa_nil)))) (pa_cons (pe_tup (pa_cons (pv 5) (pa_cons pe_int (pa_cons (C8.pe_gc (by rfl) N.depth) pa_nil)))) pa_nil)))) pa_nil)))
      (pss_one (ps_expr (pe_me DS T.cls (hr.mono (by decide)) pass0 (pv 0) (pa_cons (pv 1) (pa_cons (pv 2) (pa_cons (pv 3) (pa_cons (pv 4) (pa_cons (pv 5) pa_nil)))))))))), ?_⟩
    refine ⟨_, rfl, _, rfl, ?_⟩
    refine ⟨Nat.le_of_ble_eq_true rfl, fun a1 ha1 => ?_⟩
    generalize hXq : upd _ a1 _ = H1
    have s1 := laid_same hXq ha1
    have e1 := laid_at hXq
    clear hXq
    refine ⟨a1, [b.name, b.port], rfl, SqL.of e1, ?_, fun Ha sa => ?_⟩
    · intro x hx
      simp only [List.mem_cons, List.not_mem_nil, or_false] at hx
      rcases hx with rfl | rfl
      · exact g.name
      · exact g.port
    have sm := s1.trans sa
    refine ⟨_, rfl, ?_⟩
    refine ⟨Nat.le_of_ble_eq_true rfl, fun t1 ht1 => ?_⟩
    generalize hXq : upd _ t1 _ = H1
    have s1 := laid_same hXq ht1
    have e1 := laid_at hXq
    clear hXq
    refine ⟨_, rfl, ?_⟩
    refine ⟨Nat.le_of_ble_eq_true rfl, fun t2 ht2 => ?_⟩
    generalize hXq : upd _ t2 _ = H2
    have s2 := laid_same hXq ht2
    have e2 := laid_at hXq
    clear hXq
    refine ⟨_, rfl, ?_⟩
    refine ⟨Nat.le_of_ble_eq_true rfl, fun t3 ht3 => ?_⟩
    generalize hXq : upd _ t3 _ = H3
    have s3 := laid_same hXq ht3
    have e3 := laid_at hXq
    clear hXq
    refine ⟨Nat.le_of_ble_eq_true rfl, fun a2 ha2 => ?_⟩
    generalize hXq : upd _ a2 _ = H4
    have s4 := laid_same hXq ha2
    have e4 := laid_at hXq
    clear hXq
    refine ⟨a2, [(t1, b.hour, 0, 1000000), (t2, b.strength, 0, 1000000), (t3, b.draught, 0, 1000)], rfl, SqL.of e4, ?_, ?_⟩
    · intro r hr
      simp only [List.mem_cons, List.not_mem_nil, or_false] at hr
      rcases hr with rfl | rfl | rfl
      · exact ⟨s4 _ _ (s3 _ _ (s2 _ _ e1)), g.hour⟩
      · exact ⟨s4 _ _ (s3 _ _ e2), g.strength⟩
      · exact ⟨s4 _ _ e3, g.draught⟩
    have sm := sm.trans (s1.trans (s2.trans (s3.trans s4)))
    refine ⟨_, rfl, p, dx, [], rfl, sm _ _ hp, rfl, _, rfl, _, rfl, _, rfl, _, rfl, _, rfl, p, b, rfl, dx, sm _ _ hp, fun H5 b5 e5 => ?_⟩
    exact q H5 ((Bar.same sm).trans b5) e5
theorem ok_brkMk {C : Addr} {f : Addr} {fd : FuncData} (F : Fun K "__init__" "Breaker.__init__" s_Breaker___init__ f fd) (N : Bnd mg) (T : Cl K C brkK) (DU : Dn P w K mg base CX0 3 "need_numbers" ["rows"] (spNeedNums K)) {CV : Addr}
    (DV : Cm P w K mg base CX0 4 "Vessel" CV "__init__" ["self", "name", "port", "hour", "strength", "draught"] (spVesMk C)) : FnOk P w K mg base CX0 5 f fd ["self", "name", "port", "hour", "strength", "draught", "cut"] (spBrkMk C) := by
  refine F.ok sc_Breaker___init__ (fun vs H Q E h => ?_) (fun cdv A outer s H vs Q E hr h => ?_)
  · obtain ⟨p, c, rfl, _⟩ := h
    rfl
  · obtain ⟨p, b, rfl, g, dx, hp, q⟩ := h
    refine ⟨_, (pss_cons (ps_expr (pe_cm DV (hr.mono (by decide)) (by rfl) pass0 (pa_cons (pv 0) (pa_cons (pv 1) (pa_cons (pv 2) (pa_cons (pv 3) (pa_cons (pv 4) (pa_cons (pv 5) pa_nil))))))))
      (pss_cons (ps_expr (pe_d DU (hr.mono (by decide)) (by rfl) pass0 (pa_cons (pe_lst (pa_cons (pe_tup (pa_cons (pv 6) (pa_cons pe_int (pa_cons (C8.pe_gc (by rfl) N.ice) pa_nil)))) pa_nil)) pa_nil)))
      (pss_one (ps_fld (pv 0) (pv 6) rfl)))), ?_⟩
    refine ⟨_, rfl, _, rfl, _, rfl, _, rfl, _, rfl, _, rfl, p, b.toVes, rfl, g.ves, dx, hp, fun H1 b1 e1 => ?_⟩
    refine ⟨_, rfl, ?_⟩
    refine ⟨Nat.le_of_ble_eq_true rfl, fun t2 ht2 => ?_⟩
    generalize hXq : upd _ t2 _ = H2
    have s2 := laid_same hXq ht2
    have e2 := laid_at hXq
    clear hXq
    refine ⟨Nat.le_of_ble_eq_true rfl, fun t3 ht3 => ?_⟩
    generalize hXq : upd _ t3 _ = H3
    have s3 := laid_same hXq ht3
    have e3 := laid_at hXq
    clear hXq
    refine ⟨t3, [(t2, b.cut, 1, 1000000)], rfl, SqL.of e3, ?_, ?_⟩
    · intro r hr
      simp only [List.mem_cons, List.not_mem_nil, or_false] at hr
      subst hr
      exact ⟨s3 _ _ e2, g.cut⟩
    obtain ⟨b4, h4⟩ := fld_put (k := "cut") (v := .int b.cut) (s3 _ _ (s2 _ _ e1)) rfl (by decide +kernel)
    refine ⟨_, rfl, _, rfl, p, C, dx, _, rfl, s3 _ _ (s2 _ _ e1), T.cls, T.no _ (by decide +kernel), Nat.le_of_ble_eq_true rfl, ?_⟩
    exact q _ (b1.trans ((Bar.same (s2.trans s3)).trans b4)) h4
theorem ok_shpMk {C : Addr} {f : Addr} {fd : FuncData} (F : Fun K "__init__" "Ship.__init__" s_Ship___init__ f fd) (T : Cl K C shpK) (DN : Dn P w K mg base CX0 2 "need_names" ["things"] (spNeedNames K)) {CV : Addr}
    (DV : Cm P w K mg base CX0 4 "Vessel" CV "__init__" ["self", "name", "port", "hour", "strength", "draught"] (spVesMk C)) : FnOk P w K mg base CX0 5 f fd ["self", "name", "port", "goal", "hour", "strength", "draught"] (spShpMk C) := by
  refine F.ok sc_Ship___init__ (fun vs H Q E h => ?_) (fun cdv A outer s H vs Q E hr h => ?_)
  · obtain ⟨p, c, rfl, _⟩ := h
    rfl
  · obtain ⟨p, b, rfl, g, dx, hp, q⟩ := h
    refine ⟨_, (pss_cons (ps_expr (pe_d DN (hr.mono (by decide)) (by rfl) pass0 (pa_cons (pe_lst (pa_cons (pv 1) (pa_cons (pv 2) (pa_cons (pv 3) pa_nil)))) pa_nil)))
      (pss_cons (ps_expr (pe_cm DV (hr.mono (by decide)) (by rfl) pass0 (pa_cons (pv 0) (pa_cons (pv 1) (pa_cons (pv 2) (pa_cons (pv 4) (pa_cons (pv 5) (pa_cons (pv 6) pa_nil))))))))
      (pss_one (ps_fld (pv 0) (pv 3) rfl)))), ?_⟩
    refine ⟨_, rfl, _, rfl, _, rfl, ?_⟩
    refine ⟨Nat.le_of_ble_eq_true rfl, fun a1 ha1 => ?_⟩
    generalize hXq : upd _ a1 _ = H1
    have s1 := laid_same hXq ha1
    have e1 := laid_at hXq
    clear hXq
    refine ⟨a1, [b.name, b.port, b.goal], rfl, SqL.of e1, ?_, fun Ha sa => ?_⟩
    · intro x hx
      simp only [List.mem_cons, List.not_mem_nil, or_false] at hx
      rcases hx with rfl | rfl | rfl
      · exact g.ves.name
      · exact g.ves.port
      · exact g.goal
    have sm := s1.trans sa
    refine ⟨_, rfl, _, rfl, _, rfl, _, rfl, _, rfl, _, rfl, p, b.toVes, rfl, g.ves, dx, sm _ _ hp, fun H2 b2 e2 => ?_⟩
    obtain ⟨b4, h4⟩ := fld_put (k := "goal") (v := .str (S b.goal)) e2 rfl (by decide +kernel)
    refine ⟨_, rfl, _, rfl, p, C, dx, _, rfl, e2, T.cls, T.no _ (by decide +kernel), Nat.le_of_ble_eq_true rfl, ?_⟩
    exact q _ ((Bar.same sm).trans (b2.trans b4)) h4
end
end Law
end
section
set_option Elab.async false
set_option linter.all false
set_option maxRecDepth 100000
set_option maxHeartbeats 4000000
namespace Law
open PySem PySem.Spec PyProof.Rows L2 IK SX
/-! ### rows, lists of objects, what a world asks -/
theorem zip_inj {ks : List Str} {a b : List V} (ha : a.length = ks.length) (hb : b.length = ks.length) (h : ks.zip a = ks.zip b) : a = b := by
  rw [← List.map_snd_zip (l₁ := ks) (l₂ := a) (Nat.le_of_eq ha), h, List.map_snd_zip (Nat.le_of_eq hb)]
theorem ObjAt.eq {C C' p : Addr} {H : Hp} {ks : List Str} {a b : List V} (ha : a.length = ks.length) (hb : b.length = ks.length) (h : ObjAt C H p ks a) (k : ObjAt C' H p ks b) : a = b := by
  obtain ⟨dx, h⟩ := h
  obtain ⟨dy, k⟩ := k
  rw [h] at k
  have e := Option.some.inj k
  injection e with _ _ e
  exact zip_inj ha hb e
/-- objects of the class at C, with their fields -/
def Objs (C : Addr) (H : Hp) (ks : List Str) (xs : List V) (vss : List (List V)) : Prop := xs.length = vss.length ∧ ∀ (i : Nat) (x : V) (vs : List V), xs[i]? = some x → vss[i]? = some vs → ∃ p, x = .ref p ∧ ObjAt C H p ks vs
theorem Objs.same {C : Addr} {H H' : Hp} {ks : List Str} {xs : List V} {vss : List (List V)} (h : Objs C H ks xs vss) (s : Same H H') : Objs C H' ks xs vss := ⟨h.1, fun i x vs h1 h2 => by
  obtain ⟨p, e, h⟩ := h.2 i x vs h1 h2
  exact ⟨p, e, h.same s⟩⟩
theorem Objs.mem {C : Addr} {H : Hp} {ks : List Str} {α : Type} {vals : α → List V} {l : List α} {xs : List V} (h : Objs C H ks xs (l.map vals)) {x : V} (hx : x ∈ xs) : ∃ p a, x = .ref p ∧ a ∈ l ∧ ObjAt C H p ks (vals a) := by
  obtain ⟨i, hi⟩ := List.getElem?_of_mem hx
  have h1 : i < l.length := by
    have := (List.getElem?_eq_some_iff.mp hi).1
    have := h.1
    rw [List.length_map] at this
    omega
  obtain ⟨p, e, o⟩ := h.2 i x (vals l[i]) hi (by simp [h1])
  exact ⟨p, l[i], e, List.getElem_mem h1, o⟩
/-- tuples -/
def RowsIs (H : Hp) (ys : List V) (rows : List (List V)) : Prop := ys.length = rows.length ∧ ∀ (i : Nat) (y : V) (r : List V), ys[i]? = some y → rows[i]? = some r → ∃ a, y = .ref a ∧ H a = some (.tup r)
theorem RowsIs.same {H H' : Hp} {ys : List V} {rows : List (List V)} (h : RowsIs H ys rows) (s : Same H H') : RowsIs H' ys rows := ⟨h.1, fun i y r h1 h2 => by
  obtain ⟨a, e, h⟩ := h.2 i y r h1 h2
  exact ⟨a, e, s _ _ h⟩⟩
theorem RowsIs.mem {H : Hp} {α : Type} {row : α → List V} {l : List α} {xs : List V} (h : RowsIs H xs (l.map row)) {x : V} (hx : x ∈ xs) : ∃ p a, x = .ref p ∧ a ∈ l ∧ H p = some (.tup (row a)) := by
  obtain ⟨i, hi⟩ := List.getElem?_of_mem hx
  have h1 : i < l.length := by
    have := (List.getElem?_eq_some_iff.mp hi).1
    have := h.1
    rw [List.length_map] at this
    omega
  obtain ⟨p, e, o⟩ := h.2 i x (row l[i]) hi (by simp [h1])
  exact ⟨p, l[i], e, List.getElem_mem h1, o⟩
/-- from what each gives -/
theorem rows_of {α : Type} {C : Addr} {H0 H : Hp} {ks : List Str} {l : List α} {vals row : α → List V} {xs ys : List V} (hl : ∀ a, (vals a).length = ks.length) (hv : ∀ a b, vals a = vals b → row a = row b) (hO : Objs C H0 ks xs (l.map vals))
    (hE : Each (fun x y => ∃ p b, x = .ref p ∧ ObjAt C H0 p ks (vals b) ∧ ∃ a, y = .ref a ∧ H a = some (.tup (row b))) xs ys) : RowsIs H ys (l.map row) := by
  refine ⟨by rw [hE.1, hO.1, List.length_map, List.length_map], fun i y r hy hr => ?_⟩
  rw [List.getElem?_map] at hr
  cases e : l[i]? with
  | none => rw [e] at hr; cases hr
  | some a =>
    rw [e] at hr
    obtain rfl := Option.some.inj hr
    have hx : i < xs.length := by rw [← hE.1]; exact (List.getElem?_eq_some_iff.mp hy).1
    obtain ⟨p, e1, o1⟩ := hO.2 i xs[i] (vals a) (by simp [hx]) (by rw [List.getElem?_map, e]; rfl)
    obtain ⟨p', b, e2, o2, q, e3, h3⟩ := hE.2 i xs[i] y (by simp [hx]) hy
    rw [e1] at e2
    injection e2 with e2
    subst e2
    exact ⟨q, e3, by rw [hv _ _ (ObjAt.eq (hl _) (hl _) o1 o2)]; exact h3⟩
theorem objs_of {α : Type} {C : Addr} {H0 H : Hp} {ks : List Str} {l : List α} {vals row : α → List V} {xs ys : List V} (hv : ∀ a b, row a = row b → vals a = vals b) (hR : RowsIs H0 xs (l.map row))
    (hE : Each (fun x y => ∃ p b, x = .ref p ∧ H0 p = some (.tup (row b)) ∧ ∃ a, y = .ref a ∧ ObjAt C H a ks (vals b)) xs ys) : Objs C H ks ys (l.map vals) := by
  refine ⟨by rw [hE.1, hR.1, List.length_map, List.length_map], fun i y r hy hr => ?_⟩
  rw [List.getElem?_map] at hr
  cases e : l[i]? with
  | none => rw [e] at hr; cases hr
  | some a =>
    rw [e] at hr
    obtain rfl := Option.some.inj hr
    have hx : i < xs.length := by rw [← hE.1]; exact (List.getElem?_eq_some_iff.mp hy).1
    obtain ⟨p, e1, o1⟩ := hR.2 i xs[i] (row a) (by simp [hx]) (by rw [List.getElem?_map, e]; rfl)
    obtain ⟨p', b, e2, o2, q, e3, h3⟩ := hE.2 i xs[i] y (by simp [hx]) hy
    rw [e1] at e2
    injection e2 with e2
    subst e2
    rw [o1] at o2
    have e4 := Option.some.inj o2
    injection e4 with e4
    exact ⟨q, e3, by rw [hv _ _ e4]; exact h3⟩
/-- a field of each -/
theorem flds_of {α : Type} {C : Addr} {H0 : Hp} {ks : List Str} {l : List α} {vals : α → List V} {f : α → V} {k : Str} {j : Nat} {xs ys : List V} (hn : ks.Nodup) (hk : ks[j]? = some k) (hf : ∀ a, (vals a)[j]? = some (f a)) (hO : Objs C H0 ks xs (l.map vals))
    (hE : Each (fun x y => ∃ p C dx fs, x = .ref p ∧ H0 p = some (.ins C dx fs) ∧ fs.lookup k = some y) xs ys) : ys = l.map f := by
  have hlen : ys.length = l.length := by rw [hE.1, hO.1, List.length_map]
  refine List.ext_getElem? fun i => ?_
  rw [List.getElem?_map]
  cases e : l[i]? with
  | none =>
    have e2 : l.length ≤ i := List.getElem?_eq_none_iff.mp e
    rw [List.getElem?_eq_none_iff.mpr (by omega)]
    rfl
  | some a =>
    have hi : i < l.length := (List.getElem?_eq_some_iff.mp e).1
    have hx : i < xs.length := by rw [← hE.1]; omega
    have hy : i < ys.length := by omega
    obtain ⟨p, e1, dx, o1⟩ := hO.2 i xs[i] (vals a) (by simp [hx]) (by rw [List.getElem?_map, e]; rfl)
    obtain ⟨p', C', dy, fs, e2, o2, e3⟩ := hE.2 i xs[i] ys[i] (by simp [hx]) (by simp [hy])
    rw [e1] at e2
    injection e2 with e2
    subst e2
    rw [o1] at o2
    have e4 := Option.some.inj o2
    injection e4 with _ _ e4
    subst e4
    rw [look_zip hn hk (hf a)] at e3
    rw [List.getElem?_eq_getElem hy, ← Option.some.inj e3]
    rfl
theorem Each.split {F : V → V → Prop} {a b ys : List V} (h : Each F (a ++ b) ys) : Each F a (ys.take a.length) ∧ Each F b (ys.drop a.length) := by
  obtain ⟨h1, h2⟩ := h
  rw [List.length_append] at h1
  refine ⟨⟨by rw [List.length_take]; omega, fun i x y hx hy => ?_⟩, ⟨by rw [List.length_drop]; omega, fun i x y hx hy => ?_⟩⟩
  · have hi : i < a.length := (List.getElem?_eq_some_iff.mp hx).1
    rw [List.getElem?_take, if_pos hi] at hy
    exact h2 i x y (by rw [List.getElem?_append_left hi]; exact hx) hy
  · rw [List.getElem?_drop] at hy
    exact h2 _ x y (by rw [List.getElem?_append_right (by omega), Nat.add_sub_cancel_left]; exact hx) hy
theorem chan_nd : chanK.Nodup := by decide +kernel
theorem ves_nd : vesK.Nodup := by decide +kernel
theorem brk_nd : brkK.Nodup := by decide +kernel
theorem shp_nd : shpK.Nodup := by decide +kernel
def spRow {α : Type} (C : Addr) (ks : List Str) (vals row : α → List V) : Sp := fun vs H Q _ => ∃ (p : Addr) (b : α), vs = [.ref p] ∧ ObjAt C H p ks (vals b) ∧ ∀ a H', H a = none → Same H H' → H' a = some (.tup (row b)) → Q (.ref a) H'
section
variable {P : Program} {w : World} {K : PySem.W.Frag} {mg : Str → Option Value} {base : Heap}
theorem ok_chanRow {C : Addr} {f : Addr} {fd : FuncData} (F : Fun K "row" "Channel.row" s_Channel_row f fd) (T : Cl K C chanK) : FnOk P w K mg base CX0 1 f fd ["self"] (spRow C chanK Chan.vals Chan.vals) := by
  refine F.ok sc_Channel_row (fun vs H Q E h => ?_) (fun cdv A outer s H vs Q E hr h => ?_)
  · obtain ⟨p, c, rfl, _⟩ := h
    rfl
  · obtain ⟨p, c, rfl, ⟨dx, o⟩, q⟩ := h
    refine ⟨_, (pss_one (ps_ret (pe_tup (pa_cons (pe_fld (pv 0) rfl) (pa_cons (pe_fld (pv 0) rfl) (pa_cons (pe_fld (pv 0) rfl) (pa_cons (pe_fld (pv 0) rfl) (pa_cons (pe_fld (pv 0) rfl) (pa_cons (pe_fld (pv 0) rfl) (pa_cons (pe_fld (pv 0) rfl) (pa_cons (pe_fld (pv 0) rfl) pa_nil))))))))))), ?_⟩
    refine ⟨_, rfl, ?_⟩
    refine ⟨_, _, _, _, _, rfl, o, Cl.cls T, Cl.no T _ (by decide +kernel), look_zip (i := 0) chan_nd rfl rfl, ?_⟩
    refine ⟨_, rfl, ?_⟩
    refine ⟨_, _, _, _, _, rfl, o, Cl.cls T, Cl.no T _ (by decide +kernel), look_zip (i := 1) chan_nd rfl rfl, ?_⟩
    refine ⟨_, rfl, ?_⟩
    refine ⟨_, _, _, _, _, rfl, o, Cl.cls T, Cl.no T _ (by decide +kernel), look_zip (i := 2) chan_nd rfl rfl, ?_⟩
    refine ⟨_, rfl, ?_⟩
    refine ⟨_, _, _, _, _, rfl, o, Cl.cls T, Cl.no T _ (by decide +kernel), look_zip (i := 3) chan_nd rfl rfl, ?_⟩
    refine ⟨_, rfl, ?_⟩
    refine ⟨_, _, _, _, _, rfl, o, Cl.cls T, Cl.no T _ (by decide +kernel), look_zip (i := 4) chan_nd rfl rfl, ?_⟩
    refine ⟨_, rfl, ?_⟩
    refine ⟨_, _, _, _, _, rfl, o, Cl.cls T, Cl.no T _ (by decide +kernel), look_zip (i := 5) chan_nd rfl rfl, ?_⟩
    refine ⟨_, rfl, ?_⟩
    refine ⟨_, _, _, _, _, rfl, o, Cl.cls T, Cl.no T _ (by decide +kernel), look_zip (i := 6) chan_nd rfl rfl, ?_⟩
    refine ⟨_, rfl, ?_⟩
    refine ⟨_, _, _, _, _, rfl, o, Cl.cls T, Cl.no T _ (by decide +kernel), look_zip (i := 7) chan_nd rfl rfl, ?_⟩
    refine ⟨Nat.le_of_ble_eq_true rfl, fun a ha => ?_⟩
    generalize hXq : upd _ a _ = H1
    have s1 := laid_same hXq ha
    have e1 := laid_at hXq
    clear hXq
    exact q a H1 ha s1 e1
theorem ok_vesRow {C : Addr} {f : Addr} {fd : FuncData} (F : Fun K "row" "Vessel.row" s_Vessel_row f fd) (T : Cl K C brkK) : FnOk P w K mg base CX0 1 f fd ["self"] (spRow C brkK Brk.vals (fun b => b.toVes.vals)) := by
  refine F.ok sc_Vessel_row (fun vs H Q E h => ?_) (fun cdv A outer s H vs Q E hr h => ?_)
  · obtain ⟨p, c, rfl, _⟩ := h
    rfl
  · obtain ⟨p, c, rfl, ⟨dx, o⟩, q⟩ := h
    refine ⟨_, (pss_one (ps_ret (pe_tup (pa_cons (pe_fld (pv 0) rfl) (pa_cons (pe_fld (pv 0) rfl) (pa_cons (pe_fld (pv 0) rfl) (pa_cons (pe_fld (pv 0) rfl) (pa_cons (pe_fld (pv 0) rfl) pa_nil)))))))), ?_⟩
    refine ⟨_, rfl, ?_⟩
    refine ⟨_, _, _, _, _, rfl, o, Cl.cls T, Cl.no T _ (by decide +kernel), look_zip (i := 0) brk_nd rfl rfl, ?_⟩
    refine ⟨_, rfl, ?_⟩
    refine ⟨_, _, _, _, _, rfl, o, Cl.cls T, Cl.no T _ (by decide +kernel), look_zip (i := 1) brk_nd rfl rfl, ?_⟩
    refine ⟨_, rfl, ?_⟩
    refine ⟨_, _, _, _, _, rfl, o, Cl.cls T, Cl.no T _ (by decide +kernel), look_zip (i := 2) brk_nd rfl rfl, ?_⟩
    refine ⟨_, rfl, ?_⟩
    refine ⟨_, _, _, _, _, rfl, o, Cl.cls T, Cl.no T _ (by decide +kernel), look_zip (i := 3) brk_nd rfl rfl, ?_⟩
    refine ⟨_, rfl, ?_⟩
    refine ⟨_, _, _, _, _, rfl, o, Cl.cls T, Cl.no T _ (by decide +kernel), look_zip (i := 4) brk_nd rfl rfl, ?_⟩
    refine ⟨Nat.le_of_ble_eq_true rfl, fun a ha => ?_⟩
    generalize hXq : upd _ a _ = H1
    have s1 := laid_same hXq ha
    have e1 := laid_at hXq
    clear hXq
    exact q a H1 ha s1 e1
theorem ok_brkRow {C CV : Addr} {f : Addr} {fd : FuncData} (F : Fun K "row" "Breaker.row" s_Breaker_row f fd) (T : Cl K C brkK) (DV : Cm P w K mg base CX0 1 "Vessel" CV "row" ["self"] (spRow C brkK Brk.vals (fun b => b.toVes.vals))) : FnOk P w K mg base CX0 2 f fd ["self"] (spRow C brkK Brk.vals Brk.vals) := by
  refine F.ok sc_Breaker_row (fun vs H Q E h => ?_) (fun cdv A outer s H vs Q E hr h => ?_)
  · obtain ⟨p, c, rfl, _⟩ := h
    rfl
  · obtain ⟨p, c, rfl, ⟨dx, o⟩, q⟩ := h
    refine ⟨_, (pss_one (ps_ret (pe_op op_catT (pe_cm DV (hr.mono (by decide)) (by rfl) pass0 (pa_cons (pv 0) pa_nil)) (pe_tup (pa_cons (pe_fld (pv 0) rfl) pa_nil))))), ?_⟩
    refine ⟨_, rfl, p, c, rfl, ⟨dx, o⟩, fun a H1 ha s1 e1 => ?_⟩
    refine ⟨_, rfl, ?_⟩
    refine ⟨_, _, _, _, _, rfl, (s1 _ _ o), Cl.cls T, Cl.no T _ (by decide +kernel), look_zip (i := 5) brk_nd rfl rfl, ?_⟩
    refine ⟨Nat.le_of_ble_eq_true rfl, fun b hb => ?_⟩
    generalize hXq : upd _ b _ = H2
    have s2 := laid_same hXq hb
    have e2 := laid_at hXq
    clear hXq
    refine ⟨a, b, _, _, rfl, rfl, .inl (.inl (s2 _ _ e1)), .inl (.inl e2), by simp, Nat.le_of_ble_eq_true rfl, (fun z => by cases z), fun _ d hd => ?_⟩
    generalize hXq : upd _ d _ = H3
    have s3 := laid_same hXq hd
    have e3 := laid_at hXq
    clear hXq
    exact q d H3 (none_back (s1.trans s2) hd) (s1.trans (s2.trans s3)) e3
theorem ok_shpRow {C : Addr} {f : Addr} {fd : FuncData} (F : Fun K "row" "Ship.row" s_Ship_row f fd) (T : Cl K C shpK) : FnOk P w K mg base CX0 1 f fd ["self"] (spRow C shpK Shp.vals Shp.row) := by
  refine F.ok sc_Ship_row (fun vs H Q E h => ?_) (fun cdv A outer s H vs Q E hr h => ?_)
  · obtain ⟨p, c, rfl, _⟩ := h
    rfl
  · obtain ⟨p, c, rfl, ⟨dx, o⟩, q⟩ := h
    refine ⟨_, (pss_one (ps_ret (pe_tup (pa_cons (pe_fld (pv 0) rfl) (pa_cons (pe_fld (pv 0) rfl) (pa_cons (pe_fld (pv 0) rfl) (pa_cons (pe_fld (pv 0) rfl) (pa_cons (pe_fld (pv 0) rfl) (pa_cons (pe_fld (pv 0) rfl) pa_nil))))))))), ?_⟩
    refine ⟨_, rfl, ?_⟩
    refine ⟨_, _, _, _, _, rfl, o, Cl.cls T, Cl.no T _ (by decide +kernel), look_zip (i := 0) shp_nd rfl rfl, ?_⟩
    refine ⟨_, rfl, ?_⟩
    refine ⟨_, _, _, _, _, rfl, o, Cl.cls T, Cl.no T _ (by decide +kernel), look_zip (i := 1) shp_nd rfl rfl, ?_⟩
    refine ⟨_, rfl, ?_⟩
    refine ⟨_, _, _, _, _, rfl, o, Cl.cls T, Cl.no T _ (by decide +kernel), look_zip (i := 5) shp_nd rfl rfl, ?_⟩
    refine ⟨_, rfl, ?_⟩
    refine ⟨_, _, _, _, _, rfl, o, Cl.cls T, Cl.no T _ (by decide +kernel), look_zip (i := 2) shp_nd rfl rfl, ?_⟩
    refine ⟨_, rfl, ?_⟩
    refine ⟨_, _, _, _, _, rfl, o, Cl.cls T, Cl.no T _ (by decide +kernel), look_zip (i := 3) shp_nd rfl rfl, ?_⟩
    refine ⟨_, rfl, ?_⟩
    refine ⟨_, _, _, _, _, rfl, o, Cl.cls T, Cl.no T _ (by decide +kernel), look_zip (i := 4) shp_nd rfl rfl, ?_⟩
    refine ⟨Nat.le_of_ble_eq_true rfl, fun a ha => ?_⟩
    generalize hXq : upd _ a _ = H1
    have s1 := laid_same hXq ha
    have e1 := laid_at hXq
    clear hXq
    exact q a H1 ha s1 e1
end
end Law
end
section
set_option Elab.async false
set_option linter.all false
set_option maxRecDepth 100000
set_option maxHeartbeats 4000000
namespace Law
open PySem PySem.Spec PyProof.Rows L2 IK SX
/-! ### what a world asks -/
/-- an own class, its instances known by isinstance -/
structure OCl (K : PySem.W.Frag) (C : Addr) : Prop where
  cl : Cls K C
  ha : PySem.W.findIn K (.ref C) "__class__" = some (some (.builtin "object.__class__"))
  hn : PySem.W.specialIn K (.builtin "object.__class__") "__get__" = some (some (.builtin "getset_descriptor.__get__"))
  ht : PySem.W.takesIn K (.builtin "object.__class__") = some true
  hm : PySem.W.mroIn K C (.type "object") = some true
  self : PySem.W.kitOne K (.ref C) (.ref C) = some true
abbrev GC (mg : Str → Option Value) (x : Str) (C : Addr) : Prop := ∃ u, mg x = some u ∧ RelV (.ref C) u
/-- the classes -/
structure KCl (K : PySem.W.Frag) (mg : Str → Option Value) (CC CB CS : Addr) : Prop where
  gC : GC mg "Channel" CC
  gB : GC mg "Breaker" CB
  gS : GC mg "Ship" CS
  oC : OCl K CC
  oB : OCl K CB
  oS : OCl K CS
structure WBnd (mg : Str → Option Value) : Prop where
  begin : GI mg "MOST_BEGIN" 1000000
  ports : GI mg "MOST_PORTS" 8
  channels : GI mg "MOST_CHANNELS" 12
  breakers : GI mg "MOST_BREAKERS" 4
  ships : GI mg "MOST_SHIPS" 6
theorem sqA_ty {K : PySem.W.Frag} {H : Hp} {a : Addr} {xs : List V} (h : SqA K H a xs) : ∃ t, TyX K H (.ref a) t ∧ PySem.W.kitAny K t [.type "list", .type "tuple"] = some true := by
  have hl : PySem.W.kitAny K (.type "list") [.type "list", .type "tuple"] = some true := kitAny_cons (b := true) (kit_ty (by decide +kernel)) (fun z => nomatch z) fun _ => rfl
  have ht : PySem.W.kitAny K (.type "tuple") [.type "list", .type "tuple"] = some true := kitAny_cons (b := false) (kit_ty (by decide +kernel)) (fun _ => kitAny_cons (b := true) (kit_ty (by decide +kernel)) (fun z => nomatch z) fun _ => rfl) (fun z => nomatch z)
  rcases h with h | h
  · rcases h with (h | ⟨o, h⟩) | ⟨o, its, n, l, c, _⟩
    · exact ⟨_, .base (.lst h), hl⟩
    · exact ⟨_, .base (.frz h), hl⟩
    · exact ⟨_, .kList l c, hl⟩
  · rcases h with (h | ⟨o, h⟩) | ⟨o, its, n, l, c, _⟩
    · exact ⟨_, .base (.tup h), ht⟩
    · exact ⟨_, .fTuple h, ht⟩
    · exact ⟨_, .kTuple l c, ht⟩
/-- neither a list nor a tuple -/
def noSeq : HO → Bool
  | .lst _ | .tup _ | .frz _ _ => false
  | _ => true
theorem kp_bar {K : PySem.W.Frag} {a d : Addr} {H H' : Hp} {o : HO} (b : Bar d H H') (hd : H d = some o) (no : noSeq o = true := by rfl) : Kp K a H H' := fun xs => by
  have z : ∀ {u : HO}, (noSeq u = false) → Rd H a u → Rd H' a u := fun hu h => by
    rcases h with h | ⟨o', h⟩
    · refine .inl (b _ _ (fun z => ?_) h)
      rw [z, hd] at h
      rw [Option.some.inj h, hu] at no
      cases no
    · refine .inr ⟨o', b _ _ (fun z => ?_) h⟩
      rw [z, hd] at h
      rw [Option.some.inj h] at no
      cases no
  refine ⟨fun h => ?_, fun h => ?_⟩
  · rcases h with h | h
    · exact .inl (z rfl h)
    · exact .inr h
  · rcases h with h | h
    · exact .inl (z rfl h)
    · exact .inr h
theorem sqA_kp {K : PySem.W.Frag} {H H' : Hp} {a : Addr} {xs : List V} (h : SqA K H a xs) (k : Kp K a H H') : SqA K H' a xs := by
  rcases h with h | h
  · exact .inl ((k xs).1 h)
  · exact .inr ((k xs).2 h)
theorem room_u1 {k : Nat} {A : Around} (hr : Room k A) : A.units + 1 < cLine := by
  have := hr.units
  omega
def spIsList (K : PySem.W.Frag) : Sp := fun vs H Q _ => ∃ (a : Addr) (xs : List V) (lo hi : Int), vs = [.ref a, .int lo, .int hi] ∧ SqA K H a xs ∧ lo ≤ xs.length ∧ xs.length ≤ hi ∧ ∀ H', Same H H' → Q (.bl true) H'
/-- a world, as it is told -/
structure Wld where
  begin : Int
  ports : List (List Nat)
  chans : List Chan
  brks : List Brk
  shps : List Shp
structure Wld.Good (W : Wld) : Prop where
  begin : 0 ≤ W.begin ∧ W.begin ≤ 1000000
  ports : 1 ≤ W.ports.length ∧ W.ports.length ≤ 8
  names : ∀ w ∈ W.ports, isName w = true
  nd : W.ports.Nodup
  chans : W.chans.length ≤ 12
  good : ∀ c ∈ W.chans, c.Good
  cnd : (W.chans.map Chan.name).Nodup
  ends : ∀ c ∈ W.chans, c.one ∈ W.ports ∧ c.other ∈ W.ports
  brks : W.brks.length ≤ 4
  bgood : ∀ b ∈ W.brks, b.Good
  bports : ∀ b ∈ W.brks, b.port ∈ W.ports
  shps : W.shps.length ≤ 6
  sgood : ∀ b ∈ W.shps, b.Good
  sports : ∀ b ∈ W.shps, b.port ∈ W.ports ∧ b.goal ∈ W.ports
  vnd : (W.brks.map (fun b => b.name) ++ W.shps.map (fun b => b.name)).Nodup
def spNeedKinds (K : PySem.W.Frag) (CC CB CS : Addr) : Sp := fun vs H Q _ => ∃ (ap ac ab as : Addr) (W : Wld) (xc xb xs : List V), vs = [.ref ap, .ref ac, .ref ab, .ref as] ∧ W.Good ∧ SqA K H ap (txts W.ports) ∧ SqA K H ac xc ∧ Objs CC H chanK xc (W.chans.map Chan.vals) ∧
  SqA K H ab xb ∧ Objs CB H brkK xb (W.brks.map Brk.vals) ∧ SqA K H as xs ∧ Objs CS H shpK xs (W.shps.map Shp.vals) ∧ ∀ H', Same H H' → Q .non H'
def spUnlike (K : PySem.W.Frag) : Sp := fun vs H Q _ => ∃ (a : Addr) (ws : List (List Nat)), vs = [.ref a] ∧ SqA K H a (txts ws) ∧ ws.Nodup ∧ ws.length ≤ 1000 ∧ ∀ H', Same H H' → Q .non H'
def spNeedPorts (K : PySem.W.Frag) : Sp := fun vs H Q _ => ∃ (a b : Addr) (ws ps : List (List Nat)), vs = [.ref a, .ref b] ∧ SqA K H a (txts ws) ∧ SqA K H b (txts ps) ∧ (∀ w ∈ ws, w ∈ ps) ∧ Q .non H
theorem all_true {l : List V} {n : Nat} (h : Each (fun _ y => y = .bl true) (List.replicate n (V.non)) l) : l = (List.replicate n true).map V.bl := by
  refine List.ext_getElem? fun i => ?_
  obtain ⟨h1, h2⟩ := h
  simp only [List.length_replicate] at h1
  by_cases hi : i < n
  · have e : l[i]? = some l[i] := List.getElem?_eq_getElem (by omega)
    rw [h2 i .non _ (by simp [hi]) e] at e
    rw [e]
    simp [hi]
  · rw [List.getElem?_eq_none_iff.mpr (by omega), List.getElem?_eq_none_iff.mpr (by simp; omega)]
theorem each_true {xs ys : List V} (h : Each (fun _ y => y = .bl true) xs ys) : ys = (xs.map fun _ => true).map V.bl := by
  refine List.ext_getElem? fun i => ?_
  obtain ⟨h1, h2⟩ := h
  by_cases hi : i < xs.length
  · have e : ys[i]? = some ys[i] := List.getElem?_eq_getElem (by omega)
    rw [h2 i xs[i] _ (by simp [hi]) e] at e
    rw [e]
    simp [hi]
  · rw [List.getElem?_eq_none_iff.mpr (by omega), List.getElem?_eq_none_iff.mpr (by simp; omega)]
theorem all_yes (xs : List V) : (xs.map fun _ => true).all id = true := by simp
theorem inV_txts {w : List Nat} {ps : List (List Nat)} (h : w ∈ ps) : inV (.str (S w)) (txts ps) = true := by
  unfold inV
  rw [List.any_eq_true]
  exact ⟨.str (S w), List.mem_map.mpr ⟨w, h, rfl⟩, by simp [eqV]⟩
theorem flat_txts {ps : List (List Nat)} : (txts ps).all flatV = true := by
  rw [List.all_eq_true]
  intro x hx
  obtain ⟨w, _, rfl⟩ := List.mem_map.mp hx
  rfl
def IsC (K : PySem.W.Frag) (H : Hp) (x : V) (C : Addr) : Prop := ∀ Q : VK, Q (.bl true) H → rIsi K [x, .ref C] H Q
section
variable {P : Program} {w : World} {K : PySem.W.Frag} {mg : Str → Option Value} {base : Heap}
theorem ok_isList {f : Addr} {fd : FuncData} (F : Fun K "is_list" "is_list" s_is_list f fd) (B : Blt mg) : FnOk P w K mg base CX0 1 f fd ["thing", "low", "high"] (spIsList K) := by
  refine F.ok sc_is_list (fun vs H Q E h => ?_) (fun cdv A outer s H vs Q E hr h => ?_)
  · obtain ⟨a, xs, lo, hi, rfl, _⟩ := h
    rfl
  · obtain ⟨a, xs, lo, hi, rfl, hq, h1, h2, q⟩ := h
    refine ⟨_, (pss_one (ps_ret (pe_and (pe_callB call_isiT (by rfl) B.isi (by decide +kernel) (pa_cons (pv 0) (pa_cons (pe_tup (pa_cons (pe_bltn (v := .ty "list") (by rfl) B.list (by decide +kernel) rfl) (pa_cons (pe_bltn (v := .ty "tuple") (by rfl) B.tuple (by decide +kernel) rfl) pa_nil))) pa_nil))) (pe_one (pe_chain op_le op_le (pv 1) (pe_callB call_len_seq (by rfl) B.len PySem.boot_len (pa_cons (pv 0) pa_nil)) (pv 2)))))), ?_⟩
    refine ⟨_, rfl, ?_⟩
    refine ⟨Nat.le_of_ble_eq_true rfl, fun t ht => ?_⟩
    generalize hXq : upd _ t _ = H1
    have s1 := laid_same hXq ht
    have e1 := laid_at hXq
    clear hXq
    obtain ⟨ty, t1, t2⟩ := sqA_ty (hq.same s1)
    refine ⟨_, _, _, _, _, true, rfl, e1, .cons (.ty _) (.cons (.ty _) .nil), t1, t2, true, rfl, iteT ?_⟩
    refine ⟨_, rfl, _, rfl, a, xs, rfl, hq.same s1, _, _, rfl, rfl, _, rfl, ?_⟩
    rw [decide_eq_true h1]
    refine iteT ⟨_, rfl, _, _, rfl, rfl, ?_⟩
    show Q (.bl (decide ((xs.length : Int) ≤ hi))) H1
    rw [decide_eq_true h2]
    exact q H1 s1
theorem ok_unlike {f : Addr} {fd : FuncData} (F : Fun K "need_unlike" "need_unlike" s_need_unlike f fd) : FnOk P w K mg base CX0 1 f fd ["names"] (spUnlike K) := by
  refine F.ok sc_need_unlike (fun vs H Q E h => ?_) (fun cdv A outer s H vs Q E hr h => ?_)
  · obtain ⟨a, xs, rfl, _⟩ := h
    rfl
  · obtain ⟨a, ws, rfl, hq, nd, hl, q⟩ := h
    have hu := room_u1 hr
    refine ⟨_, (pss_cons (ps_set (i := 1) sc_need_unlike.nd rfl (.inl rfl) pe_dnewK)
      (pss_one (ps_for PassesOwn.never rfl (pi_seq (pv 0)) (pg_name (i := 2) sc_need_unlike.nd rfl (.inl rfl))
      (pss_cons (ps_if (pt_cmp (pc_din hu (pv 2) (pv 1))) pss_dead pss_nil)
      (pss_one (ps_dput hu (pv 1) (pv 2) pe_bl rfl)))))), ?_⟩
    refine fun d hd => ?_
    generalize hXq : upd _ d _ = H1
    have s1 := laid_same hXq hd
    have e1 := laid_at hXq
    clear hXq
    refine ⟨_, rfl, a, rfl, for_seq (hq.same s1) (fun i σ H' => ∃ y kvs, σ = [some (.ref a), some (.ref d), y] ∧ Bar d H1 H' ∧ H' d = some (.dK kvs) ∧ kvs.length ≤ i ∧ i ≤ ws.length ∧ ∀ k, (valV kvs k).isSome = true → ∃ w ∈ ws.take i, k = .inr (S w)) ⟨_, [], rfl, Bar.refl, e1, Nat.zero_le _, Nat.zero_le _, fun k hk => by simp [valV_nil] at hk⟩ ?_ ?_ ?_⟩
    · rintro i σ H' ⟨y, kvs, rfl, b, _⟩
      exact kp_bar b e1
    · rintro i x σ H' hx ⟨y, kvs, rfl, b, hd', hk, hi, hv⟩
      rw [List.getElem?_map] at hx
      obtain ⟨wd, hwd, rfl⟩ : ∃ wd, ws[i]? = some wd ∧ x = .str (S wd) := by
        cases e : ws[i]? with
        | none => rw [e] at hx; cases hx
        | some wd => rw [e] at hx; exact ⟨wd, rfl, (Option.some.inj hx).symm⟩
      have hi' : i < ws.length := (List.getElem?_eq_some_iff.mp hwd).1
      have no : valV kvs (.inr (S wd)) = none := by
        cases e : valV kvs (.inr (S wd)) with
        | none => rfl
        | some o =>
          obtain ⟨w', hw', e'⟩ := hv (.inr (S wd)) (by rw [e]; rfl)
          have e2 : S wd = S w' := by injection e'
          have e3 := S_inj e2
          subst e3
          obtain ⟨j, hj⟩ := List.getElem?_of_mem hw'
          rw [List.getElem?_take] at hj
          split at hj
          · have hj' : j < ws.length := (List.getElem?_eq_some_iff.mp hj).1
            have := (List.getElem?_inj hj' nd).mp (hj.trans hwd.symm)
            omega
          · cases hj
      refine ⟨_, rfl, _, rfl, d, _, rfl, DGet.k (k := .inr (S wd)) hd', ?_⟩
      rw [no]
      refine ⟨false, rfl, iteF ?_⟩
      refine ⟨_, rfl, _, rfl, d, _, rfl, DPut.k (k := .inr (S wd)) hd' (Nat.lt_of_le_of_lt hk (Nat.lt_of_le_of_lt hi (Nat.lt_of_le_of_lt hl (by decide)))), ?_⟩
      refine ⟨_, _, rfl, b.trans Bar.at_, upd_same, ?_, hi', fun k hk' => ?_⟩
      · rw [putK_new _ no, List.length_append]
        exact Nat.succ_le_succ hk
      · rw [valV_put] at hk'
        by_cases e : k = .inr (S wd)
        · exact ⟨wd, List.mem_of_getElem? (i := i) (by rw [List.getElem?_take]; simp [hwd]), e⟩
        · rw [if_neg e] at hk'
          obtain ⟨w', h1, h2⟩ := hv k hk'
          exact ⟨w', List.take_subset_take_left (l := ws) (Nat.le_succ i) h1, h2⟩
    · rintro σ H' ⟨y, kvs, rfl, b, _⟩
      exact q H' (same_bar s1 b hd)
theorem ok_needPorts {f : Addr} {fd : FuncData} (F : Fun K "need_ports" "need_ports" s_need_ports f fd) : FnOk P w K mg base CX0 1 f fd ["names", "ports"] (spNeedPorts K) := by
  refine F.ok sc_need_ports (fun vs H Q E h => ?_) (fun cdv A outer s H vs Q E hr h => ?_)
  · obtain ⟨a, b, xs, ps, rfl, _⟩ := h
    rfl
  · obtain ⟨a, b, ws, ps, rfl, ha, hb, hin, q⟩ := h
    refine ⟨_, (pss_one (ps_for PassesOwn.never rfl (pi_seq (pv 0)) (pg_name (i := 2) sc_need_ports.nd rfl (.inl rfl))
      (pss_one (ps_if (pt_cmpR op_notIn_seq (pv 2) (pv 1) (by rfl)) pss_dead pss_nil)))), ?_⟩
    refine ⟨_, rfl, a, rfl, for_seq ha (fun i σ H' => ∃ y, σ = [some (.ref a), some (.ref b), y] ∧ H' = H) ⟨_, rfl, rfl⟩ ?_ ?_ ?_⟩
    · rintro i σ H' ⟨y, rfl, rfl⟩
      exact Same.kp (Same.refl _)
    · rintro i x σ H' hx ⟨y, rfl, rfl⟩
      rw [List.getElem?_map] at hx
      obtain ⟨wd, hwd, rfl⟩ : ∃ wd, ws[i]? = some wd ∧ x = .str (S wd) := by
        cases e : ws[i]? with
        | none => rw [e] at hx; cases hx
        | some wd => rw [e] at hx; exact ⟨wd, rfl, (Option.some.inj hx).symm⟩
      refine ⟨_, rfl, _, rfl, b, _, rfl, hb, rfl, flat_txts, ?_⟩
      rw [inV_txts (hin wd (List.mem_of_getElem? hwd))]
      exact ⟨_, rfl, iteF ⟨_, rfl, rfl⟩⟩
    · rintro σ H' ⟨y, rfl, rfl⟩
      exact q
/-- all(isinstance(one, C) for one in ..) and what stands ahead of it -/
theorem isb_own {C p : Addr} {H : Hp} {ks : List Str} {vs : List V} (O : OCl K C) (o : ObjAt C H p ks vs) : IsC K H (.ref p) C := fun Q q => by
  obtain ⟨dx, o⟩ := o
  exact ⟨_, _, _, _, true, rfl, .own C, .base (.ins o O.cl O.ha O.hn O.ht O.hm), O.self, q⟩
theorem ok_needKinds {CC CB CS : Addr} {f : Addr} {fd : FuncData} (F : Fun K "need_kinds" "need_kinds" s_need_kinds f fd) (B : Blt mg) (M : WBnd mg) (KS : KCl K mg CC CB CS) (DI : Dn P w K mg base CX0 1 "is_list" ["thing", "low", "high"] (spIsList K)) (DNm : Dn P w K mg base CX0 1 "is_name" ["thing"] spName) :
    FnOk P w K mg base CX0 2 f fd ["ports", "channels", "breakers", "ships"] (spNeedKinds K CC CB CS) := by
  refine F.ok sc_need_kinds (fun vs H Q E h => ?_) (fun cdv A outer s H vs Q E hr h => ?_)
  · obtain ⟨ap, ac, ab, as, W, xc, xb, xs, rfl, _⟩ := h
    rfl
  · obtain ⟨ap, ac, ab, as, W, xc, xb, xs, rfl, g, hp, hc, oc, hb, ob, hs, os, q⟩ := h
    refine ⟨_, (pss_cons (ps_if (PW.pt (pw_or (pt_not (pt_val (pe_d DI (hr.mono (by decide)) (by rfl) pass0 (pa_cons (pv 0) (pa_cons pe_int (pa_cons (C8.pe_gc (by rfl) M.ports) pa_nil)))))) (pw_or1 (pt_not (pt_val (pe_callB (cr_all rfl) (by rfl) B.all (by decide +kernel) (pa_cons (pe_lc (own := [("port", 4)]) (g := gName 4) (tt := tYes) rfl sc_need_kinds.nd (pi_seq (pv 0)) (blkOk_by (N := ["ports", "channels", "breakers", "ships", "port", "one"]) (sc := defScope s_need_kinds) (by decide +kernel)) (fun _ _ _ _ _ => pg_name (i := 4) sc_need_kinds.nd rfl (Or.inl rfl)) (fun _ _ _ _ _ => pts_nil) (fun _ _ _ _ _ => (pe_d DNm (hr.mono (by decide)) (by rfl) pass0 (pa_cons (pv 4) pa_nil)))) pa_nil))))))) pss_dead pss_nil)
      (pss_cons (ps_if (PW.pt (pw_or (pt_not (pt_val (pe_d DI (hr.mono (by decide)) (by rfl) pass0 (pa_cons (pv 1) (pa_cons pe_int (pa_cons (C8.pe_gc (by rfl) M.channels) pa_nil)))))) (pw_or1 (pt_not (pt_val (pe_callB (cr_all rfl) (by rfl) B.all (by decide +kernel) (pa_cons (pe_lc (own := [("one", 5)]) (g := gName 5) (tt := tYes) rfl sc_need_kinds.nd (pi_seq (pv 1)) (blkOk_by (N := ["ports", "channels", "breakers", "ships", "port", "one"]) (sc := defScope s_need_kinds) (by decide +kernel)) (fun _ _ _ _ _ => pg_name (i := 5) sc_need_kinds.nd rfl (Or.inl rfl)) (fun _ _ _ _ _ => pts_nil) (fun _ _ _ _ _ => (pe_callB (show CallR _ (.builtin "isinstance") (rIsi K) from call_isi) (by rfl) B.isi (by decide +kernel) (pa_cons (pv 5) (pa_cons (C8.pe_gc (by rfl) KS.gC) pa_nil))))) pa_nil))))))) pss_dead pss_nil)
      (pss_cons (ps_if (PW.pt (pw_or (pt_not (pt_val (pe_d DI (hr.mono (by decide)) (by rfl) pass0 (pa_cons (pv 2) (pa_cons pe_int (pa_cons (C8.pe_gc (by rfl) M.breakers) pa_nil)))))) (pw_or1 (pt_not (pt_val (pe_callB (cr_all rfl) (by rfl) B.all (by decide +kernel) (pa_cons (pe_lc (own := [("one", 5)]) (g := gName 5) (tt := tYes) rfl sc_need_kinds.nd (pi_seq (pv 2)) (blkOk_by (N := ["ports", "channels", "breakers", "ships", "port", "one"]) (sc := defScope s_need_kinds) (by decide +kernel)) (fun _ _ _ _ _ => pg_name (i := 5) sc_need_kinds.nd rfl (Or.inl rfl)) (fun _ _ _ _ _ => pts_nil) (fun _ _ _ _ _ => (pe_callB (show CallR _ (.builtin "isinstance") (rIsi K) from call_isi) (by rfl) B.isi (by decide +kernel) (pa_cons (pv 5) (pa_cons (C8.pe_gc (by rfl) KS.gB) pa_nil))))) pa_nil))))))) pss_dead pss_nil)
      (pss_one (ps_if (PW.pt (pw_or (pt_not (pt_val (pe_d DI (hr.mono (by decide)) (by rfl) pass0 (pa_cons (pv 3) (pa_cons pe_int (pa_cons (C8.pe_gc (by rfl) M.ships) pa_nil)))))) (pw_or1 (pt_not (pt_val (pe_callB (cr_all rfl) (by rfl) B.all (by decide +kernel) (pa_cons (pe_lc (own := [("one", 5)]) (g := gName 5) (tt := tYes) rfl sc_need_kinds.nd (pi_seq (pv 3)) (blkOk_by (N := ["ports", "channels", "breakers", "ships", "port", "one"]) (sc := defScope s_need_kinds) (by decide +kernel)) (fun _ _ _ _ _ => pg_name (i := 5) sc_need_kinds.nd rfl (Or.inl rfl)) (fun _ _ _ _ _ => pts_nil) (fun _ _ _ _ _ => (pe_callB (show CallR _ (.builtin "isinstance") (rIsi K) from call_isi) (by rfl) B.isi (by decide +kernel) (pa_cons (pv 5) (pa_cons (C8.pe_gc (by rfl) KS.gS) pa_nil))))) pa_nil))))))) pss_dead pss_nil))))), ?_⟩
    refine ⟨_, rfl, ap, _, 1, 8, rfl, hp, by rw [List.length_map]; exact_mod_cast g.ports.1, by rw [List.length_map]; exact_mod_cast g.ports.2, fun H1 s1 => ?_⟩
    refine ⟨_, rfl, iteF ?_⟩
    refine ⟨_, rfl, ap, rfl, lc_map (fun _ y _ => y = .bl true) (hp.same s1) (by rw [List.length_map]; exact Nat.lt_of_le_of_lt g.ports.2 (by decide)) (fun _ _ _ _ _ e => e) (fun _ _ _ _ _ _ e => e) ?_ ?_⟩
    · intro x H2 k hx s2 kk
      obtain ⟨wd, hwd, rfl⟩ := List.mem_map.mp hx
      refine ⟨rfl, _, rfl, wd, rfl, Nat.le_trans (isName_len (g.names _ hwd)).2.1 (by decide), fun H3 s3 => ?_⟩
      rw [g.names _ hwd]
      exact kk _ _ s3 rfl
    intro D ys H2 hD s2 hy e
    obtain rfl := each_true e
    refine ⟨D, _, rfl, .inl (.inl hy), ?_⟩
    rw [all_yes]
    refine ⟨true, rfl, iteF ?_⟩
    have sm := s1.trans s2
    clear e hy
    have hlen : xc.length ≤ 12 := by rw [oc.1, List.length_map]; exact g.chans
    refine ⟨_, rfl, ac, _, 0, 12, rfl, hc.same sm, by omega, by omega, fun H1 s1 => ?_⟩
    refine ⟨_, rfl, iteF ?_⟩
    refine ⟨_, rfl, ac, rfl, lc_map (fun _ y _ => y = .bl true) (hc.same (sm.trans s1)) (Nat.lt_of_le_of_lt hlen (by decide)) (fun _ _ _ _ _ e => e) (fun _ _ _ _ _ _ e => e) ?_ ?_⟩
    · intro x H2 k hx s2 kk
      obtain ⟨p, c, rfl, _, o⟩ := (oc.same (sm.trans (s1.trans s2))).mem hx
      refine ⟨rfl, _, rfl, ?_⟩
      exact isb_own KS.oC o _ (kk _ _ (Same.refl _) rfl)
    intro D ys H2 hD s2 hy e
    obtain rfl := each_true e
    refine ⟨D, _, rfl, .inl (.inl hy), ?_⟩
    rw [all_yes]
    refine ⟨true, rfl, iteF ?_⟩
    have sm := sm.trans (s1.trans s2)
    clear e hy hlen
    have hlen : xb.length ≤ 4 := by rw [ob.1, List.length_map]; exact g.brks
    refine ⟨_, rfl, ab, _, 0, 4, rfl, hb.same sm, by omega, by omega, fun H1 s1 => ?_⟩
    refine ⟨_, rfl, iteF ?_⟩
    refine ⟨_, rfl, ab, rfl, lc_map (fun _ y _ => y = .bl true) (hb.same (sm.trans s1)) (Nat.lt_of_le_of_lt hlen (by decide)) (fun _ _ _ _ _ e => e) (fun _ _ _ _ _ _ e => e) ?_ ?_⟩
    · intro x H2 k hx s2 kk
      obtain ⟨p, c, rfl, _, o⟩ := (ob.same (sm.trans (s1.trans s2))).mem hx
      refine ⟨rfl, _, rfl, ?_⟩
      exact isb_own KS.oB o _ (kk _ _ (Same.refl _) rfl)
    intro D ys H2 hD s2 hy e
    obtain rfl := each_true e
    refine ⟨D, _, rfl, .inl (.inl hy), ?_⟩
    rw [all_yes]
    refine ⟨true, rfl, iteF ?_⟩
    have sm := sm.trans (s1.trans s2)
    clear e hy hlen
    have hlen : xs.length ≤ 6 := by rw [os.1, List.length_map]; exact g.shps
    refine ⟨_, rfl, as, _, 0, 6, rfl, hs.same sm, by omega, by omega, fun H1 s1 => ?_⟩
    refine ⟨_, rfl, iteF ?_⟩
    refine ⟨_, rfl, as, rfl, lc_map (fun _ y _ => y = .bl true) (hs.same (sm.trans s1)) (Nat.lt_of_le_of_lt hlen (by decide)) (fun _ _ _ _ _ e => e) (fun _ _ _ _ _ _ e => e) ?_ ?_⟩
    · intro x H2 k hx s2 kk
      obtain ⟨p, c, rfl, _, o⟩ := (os.same (sm.trans (s1.trans s2))).mem hx
      refine ⟨rfl, _, rfl, ?_⟩
      exact isb_own KS.oS o _ (kk _ _ (Same.refl _) rfl)
    intro D ys H2 hD s2 hy e
    obtain rfl := each_true e
    refine ⟨D, _, rfl, .inl (.inl hy), ?_⟩
    rw [all_yes]
    refine ⟨true, rfl, iteF ?_⟩
    have sm := sm.trans (s1.trans s2)
    clear e hy hlen
    exact q _ sm
end
end Law
end
section
set_option Elab.async false
set_option linter.all false
set_option maxRecDepth 100000
set_option maxHeartbeats 4000000
namespace Law
open PySem PySem.Spec PyProof.Rows L2 IK SX
/-! ### worlds -/
abbrev wldK : List Str := ["beginning", "all_ports", "all_channels", "all_breakers", "all_ships"]
theorem wld_nd : wldK.Nodup := by decide +kernel
/-- the lists of a world and its fields -/
def WldF (CW : Addr) (H : Hp) (p : Addr) (W : Wld) (xc xb xs : List V) : Prop := ∃ dx lp lc lb ls, H p = some (.ins CW dx (wldK.zip [.int W.begin, .ref lp, .ref lc, .ref lb, .ref ls])) ∧ H lp = some (.lst (txts W.ports)) ∧ H lc = some (.lst xc) ∧ H lb = some (.lst xb) ∧ H ls = some (.lst xs)
theorem WldF.same {CW : Addr} {H H' : Hp} {p : Addr} {W : Wld} {xc xb xs : List V} (h : WldF CW H p W xc xb xs) (s : Same H H') : WldF CW H' p W xc xb xs := by
  obtain ⟨dx, lp, lc, lb, ls, h1, h2, h3, h4, h5⟩ := h
  exact ⟨dx, lp, lc, lb, ls, s _ _ h1, s _ _ h2, s _ _ h3, s _ _ h4, s _ _ h5⟩
/-- the classes' places -/
structure KA where
  C : Addr
  B : Addr
  S : Addr
  W : Addr
/-- the same, its lists new since H0 -/
def WldFN (H0 : Hp) (CW : Addr) (H : Hp) (p : Addr) (W : Wld) (xc xb xs : List V) : Prop := ∃ dx lp lc lb ls, H p = some (.ins CW dx (wldK.zip [.int W.begin, .ref lp, .ref lc, .ref lb, .ref ls])) ∧ H lp = some (.lst (txts W.ports)) ∧ H lc = some (.lst xc) ∧ H lb = some (.lst xb) ∧ H ls = some (.lst xs) ∧
  H0 lp = none ∧ H0 lc = none ∧ H0 lb = none ∧ H0 ls = none
theorem WldFN.f {H0 : Hp} {CW : Addr} {H : Hp} {p : Addr} {W : Wld} {xc xb xs : List V} (h : WldFN H0 CW H p W xc xb xs) : WldF CW H p W xc xb xs := by
  obtain ⟨dx, lp, lc, lb, ls, h1, h2, h3, h4, h5, _⟩ := h
  exact ⟨dx, lp, lc, lb, ls, h1, h2, h3, h4, h5⟩
theorem bar_none {H J : Hp} {p l : Addr} (b : Bar p H J) (n : l ≠ p) (h : J l = none) : H l = none := by
  cases e : H l with
  | none => rfl
  | some o => rw [b l o n e] at h; cases h
def WldAt (k : KA) (H : Hp) (p : Addr) (W : Wld) : Prop := ∃ xc xb xs, WldF k.W H p W xc xb xs ∧ Objs k.C H chanK xc (W.chans.map Chan.vals) ∧ Objs k.B H brkK xb (W.brks.map Brk.vals) ∧ Objs k.S H shpK xs (W.shps.map Shp.vals)
theorem WldAt.same {k : KA} {H H' : Hp} {p : Addr} {W : Wld} (h : WldAt k H p W) (s : Same H H') : WldAt k H' p W := by
  obtain ⟨xc, xb, xs, h1, h2, h3, h4⟩ := h
  exact ⟨xc, xb, xs, h1.same s, h2.same s, h3.same s, h4.same s⟩
/-- what a world is made of -/
def WldArgs (K : PySem.W.Frag) (k : KA) (H : Hp) (W : Wld) (ap ac ab as : Addr) (xc xb xs : List V) : Prop := SqA K H ap (txts W.ports) ∧ SqA K H ac xc ∧ Objs k.C H chanK xc (W.chans.map Chan.vals) ∧
  SqA K H ab xb ∧ Objs k.B H brkK xb (W.brks.map Brk.vals) ∧ SqA K H as xs ∧ Objs k.S H shpK xs (W.shps.map Shp.vals)
def spWldMk (K : PySem.W.Frag) (k : KA) : Sp := fun vs H Q _ => ∃ (p : Addr) (W : Wld) (ap ac ab as : Addr) (xc xb xs : List V), vs = [.ref p, .int W.begin, .ref ap, .ref ac, .ref ab, .ref as] ∧ W.Good ∧ WldArgs K k H W ap ac ab as xc xb xs ∧
  (∃ dx, H p = some (.ins k.W dx [])) ∧ ∀ H', Bar p H H' → WldFN H k.W H' p W xc xb xs → Q .non H'
section
variable {P : Program} {w : World} {K : PySem.W.Frag} {mg : Str → Option Value} {base : Heap}
theorem ok_wldMk {k : KA} {f : Addr} {fd : FuncData} (F : Fun K "__init__" "World.__init__" s_World___init__ f fd) (B : Blt mg) (M : WBnd mg) (TW : Cl K k.W wldK) (TC : Cl K k.C chanK) (TB : Cl K k.B brkK) (TS : Cl K k.S shpK)
    (DW : Dn P w K mg base CX0 2 "is_within" ["thing", "low", "high"] (spWithin K)) (DK : Dn P w K mg base CX0 2 "need_kinds" ["ports", "channels", "breakers", "ships"] (spNeedKinds K k.C k.B k.S)) (DU : Dn P w K mg base CX0 1 "need_unlike" ["names"] (spUnlike K))
    (DP : Dn P w K mg base CX0 1 "need_ports" ["names", "ports"] (spNeedPorts K)) : FnOk P w K mg base CX0 3 f fd ["self", "begin", "ports", "channels", "breakers", "ships"] (spWldMk K k) := by
  refine F.ok sc_World___init__ (fun vs H Q E h => ?_) (fun cdv A outer s H vs Q E hr h => ?_)
  · obtain ⟨p, W, ap, ac, ab, as, xc, xb, xs, rfl, _⟩ := h
    rfl
  · obtain ⟨p, W, ap, ac, ab, as, xc, xb, xs, rfl, g, ⟨hp, hc, oc, hb, ob, hs, os⟩, ⟨dx, h0⟩, q⟩ := h
    refine ⟨_, (pss_cons (ps_if (pt_not (pt_val (pe_d DW (hr.mono (by decide)) (by rfl) pass0 (pa_cons (pv 1) (pa_cons pe_int (pa_cons (C8.pe_gc (by rfl) M.begin) pa_nil)))))) pss_dead pss_nil)
      (pss_cons (ps_expr (pe_d DK (hr.mono (by decide)) (by rfl) pass0 (pa_cons (pv 2) (pa_cons (pv 3) (pa_cons (pv 4) (pa_cons (pv 5) pa_nil))))))
      (pss_cons (ps_expr (pe_d DU (hr.mono (by decide)) (by rfl) pass0 (pa_cons (pv 2) pa_nil)))
      (pss_cons (ps_expr (pe_d DU (hr.mono (by decide)) (by rfl) pass0 (pa_cons (pe_lc (own := [("channel", 6)]) (g := gName 6) (tt := tYes) rfl sc_World___init__.nd (pi_seq (pv 3)) (blkOk_by (N := ["self", "begin", "ports", "channels", "breakers", "ships", "channel", "ship", "vessel", "breaker"]) (sc := defScope s_World___init__) (by decide +kernel)) (fun _ _ _ _ _ => pg_name (i := 6) sc_World___init__.nd rfl (Or.inl rfl)) (fun _ _ _ _ _ => pts_nil) (fun _ _ _ _ _ => (pe_fldK (K := K) rfl (pv 6) rfl))) pa_nil)))
      (pss_cons (ps_expr (pe_d DU (hr.mono (by decide)) (by rfl) pass0 (pa_cons (pe_lc (own := [("vessel", 8)]) (g := gName 8) (tt := tYes) rfl sc_World___init__.nd (pi_seq (pe_op op_cat (pe_callTy call_list_of (by rfl) B.list (by decide +kernel) (pa_cons (pv 4) pa_nil)) (pe_callTy call_list_of (by rfl) B.list (by decide +kernel) (pa_cons (pv 5) pa_nil)))) (blkOk_by (N := ["self", "begin", "ports", "channels", "breakers", "ships", "channel", "ship", "vessel", "breaker"]) (sc := defScope s_World___init__) (by decide +kernel)) (fun _ _ _ _ _ => pg_name (i := 8) sc_World___init__.nd rfl (Or.inl rfl)) (fun _ _ _ _ _ => pts_nil) (fun _ _ _ _ _ => (pe_fldK (K := K) rfl (pv 8) rfl))) pa_nil)))
      (pss_cons (ps_for PassesOwn.never rfl (pi_seq (pv 3)) (pg_name (i := 6) sc_World___init__.nd rfl (.inl rfl))
      (pss_one (ps_expr (pe_d DP (hr.mono (by decide)) (by rfl) pass0 (pa_cons (pe_lst (pa_cons (pe_fld (pv 6) rfl) (pa_cons (pe_fld (pv 6) rfl) pa_nil))) (pa_cons (pv 2) pa_nil))))))
      (pss_cons (ps_expr (pe_d DP (hr.mono (by decide)) (by rfl) pass0 (pa_cons (pe_lc (own := [("breaker", 9)]) (g := gName 9) (tt := tYes) rfl sc_World___init__.nd (pi_seq (pv 4)) (blkOk_by (N := ["self", "begin", "ports", "channels", "breakers", "ships", "channel", "ship", "vessel", "breaker"]) (sc := defScope s_World___init__) (by decide +kernel)) (fun _ _ _ _ _ => pg_name (i := 9) sc_World___init__.nd rfl (Or.inl rfl)) (fun _ _ _ _ _ => pts_nil) (fun _ _ _ _ _ => (pe_fldK (K := K) rfl (pv 9) rfl))) (pa_cons (pv 2) pa_nil))))
      (pss_cons (ps_for PassesOwn.never rfl (pi_seq (pv 5)) (pg_name (i := 7) sc_World___init__.nd rfl (.inl rfl))
      (pss_one (ps_expr (pe_d DP (hr.mono (by decide)) (by rfl) pass0 (pa_cons (pe_lst (pa_cons (pe_fld (pv 7) rfl) (pa_cons (pe_fld (pv 7) rfl) pa_nil))) (pa_cons (pv 2) pa_nil))))))
      (pss_cons (ps_fld (pv 0) (pv 1) rfl)
      (pss_cons (ps_fld (pv 0) (pe_callTy call_list_of (by rfl) B.list (by decide +kernel) (pa_cons (pv 2) pa_nil)) rfl)
      (pss_cons (ps_fld (pv 0) (pe_callTy call_list_of (by rfl) B.list (by decide +kernel) (pa_cons (pv 3) pa_nil)) rfl)
      (pss_cons (ps_fld (pv 0) (pe_callTy call_list_of (by rfl) B.list (by decide +kernel) (pa_cons (pv 4) pa_nil)) rfl)
      (pss_one (ps_fld (pv 0) (pe_callTy call_list_of (by rfl) B.list (by decide +kernel) (pa_cons (pv 5) pa_nil)) rfl)))))))))))))), ?_⟩
    have lc1 : xc.length ≤ 12 := by rw [oc.1, List.length_map]; exact g.chans
    have lb1 : xb.length ≤ 4 := by rw [ob.1, List.length_map]; exact g.brks
    have ls1 : xs.length ≤ 6 := by rw [os.1, List.length_map]; exact g.shps
    refine ⟨_, rfl, _, _, _, rfl, .inl ⟨_, rfl, ?_⟩⟩
    rw [decide_eq_true g.begin.1, decide_eq_true g.begin.2]
    refine ⟨true, rfl, iteF ?_⟩
    refine ⟨_, rfl, _, rfl, _, rfl, _, rfl, ap, ac, ab, as, W, xc, xb, xs, rfl, g, hp, hc, oc, hb, ob, hs, os, fun H1 s1 => ?_⟩
    refine ⟨_, rfl, ap, W.ports, rfl, hp.same s1, g.nd, Nat.le_trans g.ports.2 (by decide), fun H2 s2 => ?_⟩
    have sm := s1.trans s2
    refine ⟨_, rfl, ac, rfl, lc_map (fun x y _ => ∃ p C dx fs, x = .ref p ∧ H2 p = some (.ins C dx fs) ∧ fs.lookup ("name" : Str) = some y) (hc.same sm) (Nat.lt_of_le_of_lt lc1 (by decide)) (fun _ _ _ _ _ e => e) (fun _ _ _ _ _ _ e => e) ?_ ?_⟩
    · intro x H3 kk hx s3 kq
      obtain ⟨o, c, rfl, _, dy, e⟩ := (oc.same sm).mem hx
      refine ⟨rfl, _, rfl, ?_⟩
      refine ⟨_, _, _, _, _, rfl, (s3 _ _ e), Cl.cls TC, Cl.no TC _ (by decide +kernel), look_zip (i := 0) chan_nd rfl rfl, ?_⟩
      exact kq _ _ (Same.refl _) ⟨o, _, dy, _, rfl, e, look_zip (i := 0) chan_nd rfl rfl⟩
    intro D ys H3 hD s3 hy e
    obtain rfl := flds_of (k := "name") (j := 0) (f := fun c : Chan => V.str (S c.name)) chan_nd rfl (fun _ => rfl) (oc.same sm) e
    have hy2 : H3 D = some (.lst (txts (W.chans.map Chan.name))) := by rw [hy, txts, List.map_map]; rfl
    refine ⟨D, W.chans.map Chan.name, rfl, .l hy2, g.cnd, by rw [List.length_map]; exact Nat.le_trans g.chans (by decide), fun H4 s4 => ?_⟩
    have sm := sm.trans (s3.trans s4)
    clear hy hy2 e
    refine ⟨_, rfl, ab, _, rfl, hb.same sm, fun l1 hl1 => ?_⟩
    generalize hXq : upd _ l1 _ = H5
    have s5 := laid_same hXq hl1
    have e5 := laid_at hXq
    clear hXq
    refine ⟨_, rfl, as, _, rfl, hs.same (sm.trans s5), fun l2 hl2 => ?_⟩
    generalize hXq : upd _ l2 _ = H6
    have s6 := laid_same hXq hl2
    have e6 := laid_at hXq
    clear hXq
    refine ⟨l1, l2, _, _, rfl, rfl, s6 _ _ e5, e6, Nat.le_trans (by omega : xb.length + xs.length ≤ 100) (by decide), fun l3 hl3 => ?_⟩
    generalize hXq : upd _ l3 _ = H7
    have s7 := laid_same hXq hl3
    have e7 := laid_at hXq
    clear hXq
    have sm := sm.trans (s5.trans (s6.trans s7))
    refine ⟨l3, rfl, lc_map (fun x y _ => ∃ p C dx fs, x = .ref p ∧ H7 p = some (.ins C dx fs) ∧ fs.lookup ("name" : Str) = some y) (.l e7) (Nat.lt_of_le_of_lt (by rw [List.length_append]; omega : (xb ++ xs).length ≤ 100) (by decide)) (fun _ _ _ _ _ e => e) (fun _ _ _ _ _ _ e => e) ?_ ?_⟩
    · intro x H3 kk hx s3 kq
      rcases List.mem_append.mp hx with hx | hx
      · obtain ⟨o, c, rfl, _, dy, e⟩ := (ob.same sm).mem hx
        refine ⟨rfl, _, rfl, ?_⟩
        refine ⟨_, _, _, _, _, rfl, (s3 _ _ e), Cl.cls TB, Cl.no TB _ (by decide +kernel), look_zip (i := 0) brk_nd rfl rfl, ?_⟩
        exact kq _ _ (Same.refl _) ⟨o, _, dy, _, rfl, e, look_zip (i := 0) brk_nd rfl rfl⟩
      · obtain ⟨o, c, rfl, _, dy, e⟩ := (os.same sm).mem hx
        refine ⟨rfl, _, rfl, ?_⟩
        refine ⟨_, _, _, _, _, rfl, (s3 _ _ e), Cl.cls TS, Cl.no TS _ (by decide +kernel), look_zip (i := 0) shp_nd rfl rfl, ?_⟩
        exact kq _ _ (Same.refl _) ⟨o, _, dy, _, rfl, e, look_zip (i := 0) shp_nd rfl rfl⟩
    intro D2 ys H8 hD2 s8 hy e
    obtain ⟨e1, e2⟩ := e.split
    have z1 := flds_of (k := "name") (j := 0) (f := fun c : Brk => V.str (S c.name)) brk_nd rfl (fun _ => rfl) (ob.same sm) e1
    have z2 := flds_of (k := "name") (j := 0) (f := fun c : Shp => V.str (S c.name)) shp_nd rfl (fun _ => rfl) (os.same sm) e2
    have z3 := List.take_append_drop xb.length ys
    rw [z1, z2] at z3
    have hy2 : H8 D2 = some (.lst (txts (W.brks.map (fun b => b.name) ++ W.shps.map (fun b => b.name)))) := by
      rw [hy, ← z3, txts, List.map_append, List.map_map, List.map_map]
      rfl
    refine ⟨D2, _, rfl, .l hy2, g.vnd, by rw [List.length_append, List.length_map, List.length_map]; have := g.brks; have := g.shps; omega, fun H9 s9 => ?_⟩
    have sm := sm.trans (s8.trans s9)
    clear hy hy2 e e1 e2 z1 z2 z3 e5 e6 e7
    refine ⟨_, rfl, ac, rfl, for_seq (hc.same sm) (fun i σ H' => ∃ y z u t, σ = [some (.ref p), some (.int W.begin), some (.ref ap), some (.ref ac), some (.ref ab), some (.ref as), y, z, u, t] ∧ Same H9 H') ⟨_, _, _, _, rfl, Same.refl _⟩ ?_ ?_ ?_⟩
    · rintro i σ H' ⟨_, _, _, _, rfl, s⟩
      exact Same.kp s
    · rintro i x σ H' hx ⟨_, _, _, _, rfl, s⟩
      obtain ⟨o, c, rfl, hcm, dy, e⟩ := (oc.same (sm.trans s)).mem (List.mem_of_getElem? hx)
      refine ⟨_, rfl, ?_⟩
      refine ⟨_, _, _, _, _, rfl, e, Cl.cls TC, Cl.no TC _ (by decide +kernel), look_zip (i := 1) chan_nd rfl rfl, ?_⟩
      refine ⟨_, rfl, ?_⟩
      refine ⟨_, _, _, _, _, rfl, e, Cl.cls TC, Cl.no TC _ (by decide +kernel), look_zip (i := 2) chan_nd rfl rfl, ?_⟩
      refine ⟨Nat.le_of_ble_eq_true rfl, fun l hl => ?_⟩
      generalize hXq : upd _ l _ = H2
      have s2 := laid_same hXq hl
      have e2 := laid_at hXq
      clear hXq
      refine ⟨_, rfl, l, ap, [c.one, c.other], W.ports, rfl, .l e2, hp.same (sm.trans (s.trans s2)), ?_, ?_⟩
      · intro x hx
        simp only [List.mem_cons, List.not_mem_nil, or_false] at hx
        rcases hx with rfl | rfl
        · exact (g.ends c hcm).1
        · exact (g.ends c hcm).2
      · exact ⟨_, _, _, _, rfl, s.trans s2⟩
    rintro σ H10 ⟨_, _, _, _, rfl, s10⟩
    have sm := sm.trans s10
    refine ⟨_, rfl, ab, rfl, lc_map (fun x y _ => ∃ p C dx fs, x = .ref p ∧ H10 p = some (.ins C dx fs) ∧ fs.lookup ("port" : Str) = some y) (hb.same sm) (Nat.lt_of_le_of_lt lb1 (by decide)) (fun _ _ _ _ _ e => e) (fun _ _ _ _ _ _ e => e) ?_ ?_⟩
    · intro x H3 kk hx s3 kq
      obtain ⟨o, c, rfl, _, dy, e⟩ := (ob.same sm).mem hx
      refine ⟨rfl, _, rfl, ?_⟩
      refine ⟨_, _, _, _, _, rfl, (s3 _ _ e), Cl.cls TB, Cl.no TB _ (by decide +kernel), look_zip (i := 1) brk_nd rfl rfl, ?_⟩
      exact kq _ _ (Same.refl _) ⟨o, _, dy, _, rfl, e, look_zip (i := 1) brk_nd rfl rfl⟩
    intro D ys H11 hD s11 hy e
    obtain rfl := flds_of (k := "port") (j := 1) (f := fun c : Brk => V.str (S c.port)) brk_nd rfl (fun _ => rfl) (ob.same sm) e
    have hy2 : H11 D = some (.lst (txts (W.brks.map fun b => b.port))) := by rw [hy, txts, List.map_map]; rfl
    have sm := sm.trans s11
    refine ⟨_, rfl, D, ap, _, W.ports, rfl, .l hy2, hp.same sm, ?_, ?_⟩
    · intro x hx
      obtain ⟨b, hb', rfl⟩ := List.mem_map.mp hx
      exact g.bports b hb'
    clear hy hy2 e
    refine ⟨_, rfl, as, rfl, for_seq (hs.same sm) (fun i σ H' => ∃ y z u t, σ = [some (.ref p), some (.int W.begin), some (.ref ap), some (.ref ac), some (.ref ab), some (.ref as), y, z, u, t] ∧ Same H11 H') ⟨_, _, _, _, rfl, Same.refl _⟩ ?_ ?_ ?_⟩
    · rintro i σ H' ⟨_, _, _, _, rfl, s⟩
      exact Same.kp s
    · rintro i x σ H' hx ⟨_, _, _, _, rfl, s⟩
      obtain ⟨o, c, rfl, hcm, dy, e⟩ := (os.same (sm.trans s)).mem (List.mem_of_getElem? hx)
      refine ⟨_, rfl, ?_⟩
      refine ⟨_, _, _, _, _, rfl, e, Cl.cls TS, Cl.no TS _ (by decide +kernel), look_zip (i := 1) shp_nd rfl rfl, ?_⟩
      refine ⟨_, rfl, ?_⟩
      refine ⟨_, _, _, _, _, rfl, e, Cl.cls TS, Cl.no TS _ (by decide +kernel), look_zip (i := 5) shp_nd rfl rfl, ?_⟩
      refine ⟨Nat.le_of_ble_eq_true rfl, fun l hl => ?_⟩
      generalize hXq : upd _ l _ = H2
      have s2 := laid_same hXq hl
      have e2 := laid_at hXq
      clear hXq
      refine ⟨_, rfl, l, ap, [c.port, c.goal], W.ports, rfl, .l e2, hp.same (sm.trans (s.trans s2)), ?_, ?_⟩
      · intro x hx
        simp only [List.mem_cons, List.not_mem_nil, or_false] at hx
        rcases hx with rfl | rfl
        · exact (g.sports c hcm).1
        · exact (g.sports c hcm).2
      · exact ⟨_, _, _, _, rfl, s.trans s2⟩
    rintro σ J0 ⟨_, _, _, _, rfl, s12⟩
    have sm := sm.trans s12
    have hp := hp.same sm
    have hc := hc.same sm
    have hb := hb.same sm
    have hs := hs.same sm
    have h0 : J0 p = some (.ins k.W dx (([] : List Str).zip ([] : List V))) := sm _ _ h0
    have b0 : Bar p H J0 := Bar.same sm
    obtain ⟨b1, h1⟩ := fld_put (k := "beginning") (v := .int W.begin) h0 rfl (by decide +kernel)
    refine ⟨_, rfl, _, rfl, p, k.W, dx, _, rfl, h0, TW.cls, TW.no _ (by decide +kernel), Nat.le_of_ble_eq_true rfl, ?_⟩
    generalize upd _ p _ = J1 at b1 h1 ⊢
    have kk := fun a => kp_bar (K := K) (a := a) b1 h0
    refine ⟨_, rfl, ap, _, rfl, sqA_kp hp (kk _), fun lp hl => ?_⟩
    generalize hXq : upd _ lp _ = G1
    have s := laid_same hXq hl
    have elp := laid_at hXq
    clear hXq
    have b2' := Bar.same (p := p) s
    have nelp : lp ≠ p := fun z => by rw [z, h1] at hl; cases hl
    have frlp : H lp = none := bar_none (b0.trans b1) nelp hl
    have hh := s _ _ h1
    obtain ⟨b2, h2⟩ := fld_put (k := "all_ports") (v := .ref lp) hh rfl (by decide +kernel)
    refine ⟨_, rfl, p, k.W, dx, _, rfl, hh, TW.cls, TW.no _ (by decide +kernel), Nat.le_of_ble_eq_true rfl, ?_⟩
    generalize upd _ p _ = J2 at b2 h2 ⊢
    have elp := b2 _ _ nelp elp
    have kk := fun a => (fun xs => ⟨fun z => ((kp_bar (K := K) (a := a) b2 hh) xs).1 (((Same.kp s) xs).1 ((kk a xs).1 z)), fun z => ((kp_bar (K := K) (a := a) b2 hh) xs).2 (((Same.kp s) xs).2 ((kk a xs).2 z))⟩ : Kp K a J0 J2)
    clear hl s hh
    refine ⟨_, rfl, ac, _, rfl, sqA_kp hc (kk _), fun lc hl => ?_⟩
    generalize hXq : upd _ lc _ = G2
    have s := laid_same hXq hl
    have elc := laid_at hXq
    clear hXq
    have b3' := Bar.same (p := p) s
    have nelc : lc ≠ p := fun z => by rw [z, h2] at hl; cases hl
    have frlc : H lc = none := bar_none ((b0.trans b1).trans (b2'.trans b2)) nelc hl
    have hh := s _ _ h2
    obtain ⟨b3, h3⟩ := fld_put (k := "all_channels") (v := .ref lc) hh rfl (by decide +kernel)
    refine ⟨_, rfl, p, k.W, dx, _, rfl, hh, TW.cls, TW.no _ (by decide +kernel), Nat.le_of_ble_eq_true rfl, ?_⟩
    generalize upd _ p _ = J3 at b3 h3 ⊢
    have elc := b3 _ _ nelc elc
    have kk := fun a => (fun xs => ⟨fun z => ((kp_bar (K := K) (a := a) b3 hh) xs).1 (((Same.kp s) xs).1 ((kk a xs).1 z)), fun z => ((kp_bar (K := K) (a := a) b3 hh) xs).2 (((Same.kp s) xs).2 ((kk a xs).2 z))⟩ : Kp K a J0 J3)
    clear hl s hh
    refine ⟨_, rfl, ab, _, rfl, sqA_kp hb (kk _), fun lb hl => ?_⟩
    generalize hXq : upd _ lb _ = G3
    have s := laid_same hXq hl
    have elb := laid_at hXq
    clear hXq
    have b4' := Bar.same (p := p) s
    have nelb : lb ≠ p := fun z => by rw [z, h3] at hl; cases hl
    have frlb : H lb = none := bar_none (((b0.trans b1).trans (b2'.trans b2)).trans (b3'.trans b3)) nelb hl
    have hh := s _ _ h3
    obtain ⟨b4, h4⟩ := fld_put (k := "all_breakers") (v := .ref lb) hh rfl (by decide +kernel)
    refine ⟨_, rfl, p, k.W, dx, _, rfl, hh, TW.cls, TW.no _ (by decide +kernel), Nat.le_of_ble_eq_true rfl, ?_⟩
    generalize upd _ p _ = J4 at b4 h4 ⊢
    have elb := b4 _ _ nelb elb
    have kk := fun a => (fun xs => ⟨fun z => ((kp_bar (K := K) (a := a) b4 hh) xs).1 (((Same.kp s) xs).1 ((kk a xs).1 z)), fun z => ((kp_bar (K := K) (a := a) b4 hh) xs).2 (((Same.kp s) xs).2 ((kk a xs).2 z))⟩ : Kp K a J0 J4)
    clear hl s hh
    refine ⟨_, rfl, as, _, rfl, sqA_kp hs (kk _), fun ls hl => ?_⟩
    generalize hXq : upd _ ls _ = G4
    have s := laid_same hXq hl
    have els := laid_at hXq
    clear hXq
    have b5' := Bar.same (p := p) s
    have nels : ls ≠ p := fun z => by rw [z, h4] at hl; cases hl
    have frls : H ls = none := bar_none ((((b0.trans b1).trans (b2'.trans b2)).trans (b3'.trans b3)).trans (b4'.trans b4)) nels hl
    have hh := s _ _ h4
    obtain ⟨b5, h5⟩ := fld_put (k := "all_ships") (v := .ref ls) hh rfl (by decide +kernel)
    refine ⟨_, rfl, p, k.W, dx, _, rfl, hh, TW.cls, TW.no _ (by decide +kernel), Nat.le_of_ble_eq_true rfl, ?_⟩
    generalize upd _ p _ = J5 at b5 h5 ⊢
    have els := b5 _ _ nels els
    have kk := fun a => (fun xs => ⟨fun z => ((kp_bar (K := K) (a := a) b5 hh) xs).1 (((Same.kp s) xs).1 ((kk a xs).1 z)), fun z => ((kp_bar (K := K) (a := a) b5 hh) xs).2 (((Same.kp s) xs).2 ((kk a xs).2 z))⟩ : Kp K a J0 J5)
    clear hl s hh
    refine q _ (b0.trans (b1.trans (b2'.trans (b2.trans (b3'.trans (b3.trans (b4'.trans (b4.trans (b5'.trans b5))))))))) ⟨dx, lp, lc, lb, ls, h5, ?_, ?_, ?_, els, frlp, frlc, frlb, frls⟩
    · exact b5 _ _ nelp (b5' _ _ nelp (b4 _ _ nelp (b4' _ _ nelp (b3 _ _ nelp (b3' _ _ nelp elp)))))
    · exact b5 _ _ nelc (b5' _ _ nelc (b4 _ _ nelc (b4' _ _ nelc elc)))
    · exact b5 _ _ nelb (b5' _ _ nelb elb)
end
end Law
end
section
set_option Elab.async false
set_option linter.all false
set_option maxRecDepth 100000
set_option maxHeartbeats 4000000
namespace Law
open PySem PySem.Spec PyProof.Rows L2 IK SX
/-! ### what worlds tell, and worlds of what is told -/
theorem shp_row (a b : Shp) (h : a.vals = b.vals) : a.row = b.row := by
  simp only [Shp.vals, Ves.vals, List.cons_append, List.nil_append, List.cons.injEq] at h
  obtain ⟨h1, h2, h3, h4, h5, h6, _⟩ := h
  simp only [Shp.row, h1, h2, h3, h4, h5, h6]
theorem shp_vals (a b : Shp) (h : a.row = b.row) : a.vals = b.vals := by
  simp only [Shp.row, List.cons.injEq] at h
  obtain ⟨h1, h2, h3, h4, h5, h6, _⟩ := h
  simp only [Shp.vals, Ves.vals, h1, h2, h3, h4, h5, h6]
/-- what a world tells -/
def ToldAt (H : Hp) (a : Addr) (W : Wld) : Prop := ∃ ap ac ab as yc yb ys, H a = some (.tup [.int W.begin, .ref ap, .ref ac, .ref ab, .ref as]) ∧ H ap = some (.tup (txts W.ports)) ∧ H ac = some (.tup yc) ∧ RowsIs H yc (W.chans.map Chan.vals) ∧
  H ab = some (.tup yb) ∧ RowsIs H yb (W.brks.map Brk.vals) ∧ H as = some (.tup ys) ∧ RowsIs H ys (W.shps.map Shp.row)
theorem ToldAt.same {H H' : Hp} {a : Addr} {W : Wld} (h : ToldAt H a W) (s : Same H H') : ToldAt H' a W := by
  obtain ⟨ap, ac, ab, as, yc, yb, ys, h1, h2, h3, h4, h5, h6, h7, h8⟩ := h
  exact ⟨ap, ac, ab, as, yc, yb, ys, s _ _ h1, s _ _ h2, s _ _ h3, h4.same s, s _ _ h5, h6.same s, s _ _ h7, h8.same s⟩
def spBegin (k : KA) : Sp := fun vs H Q _ => ∃ (p : Addr) (W : Wld) (xc xb xs : List V), vs = [.ref p] ∧ WldF k.W H p W xc xb xs ∧ Q (.int W.begin) H
def spPorts (k : KA) : Sp := fun vs H Q _ => ∃ (p : Addr) (W : Wld) (xc xb xs : List V), vs = [.ref p] ∧ WldF k.W H p W xc xb xs ∧ W.ports.length ≤ 8 ∧ ∀ a H', H a = none → Same H H' → H' a = some (.lst (txts W.ports)) → Q (.ref a) H'
def spVessels (k : KA) : Sp := fun vs H Q _ => ∃ (p : Addr) (W : Wld) (xc xb xs : List V), vs = [.ref p] ∧ WldF k.W H p W xc xb xs ∧ xb.length + xs.length ≤ 10 ∧ ∀ a H', H a = none → Same H H' → H' a = some (.lst (xb ++ xs)) → Q (.ref a) H'
def spTold (k : KA) : Sp := fun vs H Q _ => ∃ (p : Addr) (W : Wld), vs = [.ref p] ∧ WldAt k H p W ∧ W.Good ∧ ∀ a H', H a = none → Same H H' → ToldAt H' a W → Q (.ref a) H'
def spAnew {α : Type} (C : Addr) (ks : List Str) (good : α → Prop) (vals row : α → List V) : Sp := fun vs H Q _ => ∃ (r : Addr) (c : α), vs = [.ref r] ∧ good c ∧ H r = some (.tup (row c)) ∧ ∀ p H', H p = none → Same H H' → ObjAt C H' p ks (vals c) → Q (.ref p) H'
def spWldAnew (K : PySem.W.Frag) (k : KA) : Sp := fun vs H Q _ => ∃ (t : Addr) (W : Wld) (ap ac ab as : Addr) (yc yb ys : List V), vs = [.ref t] ∧ W.Good ∧ H t = some (.tup [.int W.begin, .ref ap, .ref ac, .ref ab, .ref as]) ∧ SqA K H ap (txts W.ports) ∧ SqA K H ac yc ∧ RowsIs H yc (W.chans.map Chan.vals) ∧
  SqA K H ab yb ∧ RowsIs H yb (W.brks.map Brk.vals) ∧ SqA K H as ys ∧ RowsIs H ys (W.shps.map Shp.row) ∧ ∀ p H', H p = none → Same H H' → WldAt k H' p W → Q (.ref p) H'
section
variable {P : Program} {w : World} {K : PySem.W.Frag} {mg : Str → Option Value} {base : Heap}
theorem ok_beginHour {k : KA} {f : Addr} {fd : FuncData} (F : Fun K "begin_hour" "World.begin_hour" s_World_begin_hour f fd) (TW : Cl K k.W wldK) : FnOk P w K mg base CX0 1 f fd ["self"] (spBegin k) := by
  refine F.ok sc_World_begin_hour (fun vs H Q E h => ?_) (fun cdv A outer s H vs Q E hr h => ?_)
  · obtain ⟨p, W, xc, xb, xs, rfl, _⟩ := h
    rfl
  · obtain ⟨p, W, xc, xb, xs, rfl, ⟨dx, lp, lc, lb, ls, h1, h2, h3, h4, h5⟩, q⟩ := h
    refine ⟨_, (pss_one (ps_ret (pe_fld (pv 0) rfl))), ?_⟩
    refine ⟨_, rfl, ?_⟩
    refine ⟨_, _, _, _, _, rfl, h1, Cl.cls TW, Cl.no TW _ (by decide +kernel), look_zip (i := 0) wld_nd rfl rfl, ?_⟩
    exact q
theorem ok_ports {k : KA} {f : Addr} {fd : FuncData} (F : Fun K "ports" "World.ports" s_World_ports f fd) (B : Blt mg) (TW : Cl K k.W wldK) : FnOk P w K mg base CX0 1 f fd ["self"] (spPorts k) := by
  refine F.ok sc_World_ports (fun vs H Q E h => ?_) (fun cdv A outer s H vs Q E hr h => ?_)
  · obtain ⟨p, W, xc, xb, xs, rfl, _⟩ := h
    rfl
  · obtain ⟨p, W, xc, xb, xs, rfl, ⟨dx, lp, lc, lb, ls, h1, h2, h3, h4, h5⟩, hl, q⟩ := h
    refine ⟨_, (pss_one (ps_ret (pe_callTy call_list_of (by rfl) B.list (by decide +kernel) (pa_cons (pe_fld (pv 0) rfl) pa_nil)))), ?_⟩
    refine ⟨_, rfl, ?_⟩
    refine ⟨_, _, _, _, _, rfl, h1, Cl.cls TW, Cl.no TW _ (by decide +kernel), look_zip (i := 1) wld_nd rfl rfl, ?_⟩
    refine ⟨lp, _, rfl, SqA.l h2, fun l hl => ?_⟩
    generalize hXq : upd _ l _ = H1
    have s1 := laid_same hXq hl
    have e1 := laid_at hXq
    clear hXq
    exact q l H1 hl s1 e1
theorem ok_vessels {k : KA} {f : Addr} {fd : FuncData} (F : Fun K "vessels" "World.vessels" s_World_vessels f fd) (TW : Cl K k.W wldK) : FnOk P w K mg base CX0 1 f fd ["self"] (spVessels k) := by
  refine F.ok sc_World_vessels (fun vs H Q E h => ?_) (fun cdv A outer s H vs Q E hr h => ?_)
  · obtain ⟨p, W, xc, xb, xs, rfl, _⟩ := h
    rfl
  · obtain ⟨p, W, xc, xb, xs, rfl, ⟨dx, lp, lc, lb, ls, h1, h2, h3, h4, h5⟩, hl, q⟩ := h
    refine ⟨_, (pss_one (ps_ret (pe_op op_cat (pe_fld (pv 0) rfl) (pe_fld (pv 0) rfl)))), ?_⟩
    refine ⟨_, rfl, ?_⟩
    refine ⟨_, _, _, _, _, rfl, h1, Cl.cls TW, Cl.no TW _ (by decide +kernel), look_zip (i := 3) wld_nd rfl rfl, ?_⟩
    refine ⟨_, rfl, ?_⟩
    refine ⟨_, _, _, _, _, rfl, h1, Cl.cls TW, Cl.no TW _ (by decide +kernel), look_zip (i := 4) wld_nd rfl rfl, ?_⟩
    refine ⟨lb, ls, _, _, rfl, rfl, h4, h5, Nat.le_trans hl (by decide), fun l hl => ?_⟩
    generalize hXq : upd _ l _ = H1
    have s1 := laid_same hXq hl
    have e1 := laid_at hXq
    clear hXq
    exact q l H1 hl s1 e1
theorem ok_told {k : KA} {f : Addr} {fd : FuncData} (F : Fun K "told" "World.told" s_World_told f fd) (B : Blt mg) (TW : Cl K k.W wldK) (TC : Cl K k.C chanK) (TB : Cl K k.B brkK) (TS : Cl K k.S shpK) (MC : Me P w K mg base CX0 1 k.C "row" ["self"] (spRow k.C chanK Chan.vals Chan.vals))
    (MB : Me P w K mg base CX0 2 k.B "row" ["self"] (spRow k.B brkK Brk.vals Brk.vals)) (MS : Me P w K mg base CX0 1 k.S "row" ["self"] (spRow k.S shpK Shp.vals Shp.row)) : FnOk P w K mg base CX0 3 f fd ["self"] (spTold k) := by
  refine F.ok sc_World_told (fun vs H Q E h => ?_) (fun cdv A outer s H vs Q E hr h => ?_)
  · obtain ⟨p, W, rfl, _⟩ := h
    rfl
  · obtain ⟨p, W, rfl, ⟨xc, xb, xs, ⟨dx, lp, lc, lb, ls, h1, h2, h3, h4, h5⟩, oc, ob, os⟩, g, q⟩ := h
    refine ⟨_, (pss_cons (ps_set (i := 1) sc_World_told.nd rfl (.inl rfl) (pe_callTy call_tuple_of (by rfl) B.tuple (by decide +kernel) (pa_cons (pe_lc (own := [("channel", 4)]) (g := gName 4) (tt := tYes) rfl sc_World_told.nd (pi_seq (pe_fld (pv 0) rfl)) (blkOk_by (N := ["self", "channels", "breakers", "ships", "channel", "breaker", "ship"]) (sc := defScope s_World_told) (by decide +kernel)) (fun _ _ _ _ _ => pg_name (i := 4) sc_World_told.nd rfl (Or.inl rfl)) (fun _ _ _ _ _ => pts_nil) (fun _ _ _ _ _ => (pe_me0 MC TC.cls (hr.mono (by decide)) pass0 (pv 4)))) pa_nil)))
      (pss_cons (ps_set (i := 2) sc_World_told.nd rfl (.inl rfl) (pe_callTy call_tuple_of (by rfl) B.tuple (by decide +kernel) (pa_cons (pe_lc (own := [("breaker", 5)]) (g := gName 5) (tt := tYes) rfl sc_World_told.nd (pi_seq (pe_fld (pv 0) rfl)) (blkOk_by (N := ["self", "channels", "breakers", "ships", "channel", "breaker", "ship"]) (sc := defScope s_World_told) (by decide +kernel)) (fun _ _ _ _ _ => pg_name (i := 5) sc_World_told.nd rfl (Or.inl rfl)) (fun _ _ _ _ _ => pts_nil) (fun _ _ _ _ _ => (pe_me0 MB TB.cls (hr.mono (by decide)) pass0 (pv 5)))) pa_nil)))
      (pss_cons (ps_set (i := 3) sc_World_told.nd rfl (.inl rfl) (pe_callTy call_tuple_of (by rfl) B.tuple (by decide +kernel) (pa_cons (pe_lc (own := [("ship", 6)]) (g := gName 6) (tt := tYes) rfl sc_World_told.nd (pi_seq (pe_fld (pv 0) rfl)) (blkOk_by (N := ["self", "channels", "breakers", "ships", "channel", "breaker", "ship"]) (sc := defScope s_World_told) (by decide +kernel)) (fun _ _ _ _ _ => pg_name (i := 6) sc_World_told.nd rfl (Or.inl rfl)) (fun _ _ _ _ _ => pts_nil) (fun _ _ _ _ _ => (pe_me0 MS TS.cls (hr.mono (by decide)) pass0 (pv 6)))) pa_nil)))
      (pss_one (ps_ret (pe_tup (pa_cons (pe_fld (pv 0) rfl) (pa_cons (pe_callTy call_tuple_of (by rfl) B.tuple (by decide +kernel) (pa_cons (pe_fld (pv 0) rfl) pa_nil)) (pa_cons (pv 1) (pa_cons (pv 2) (pa_cons (pv 3) pa_nil))))))))))), ?_⟩
    have lc1 : xc.length ≤ 12 := by rw [oc.1, List.length_map]; exact g.chans
    have lb1 : xb.length ≤ 4 := by rw [ob.1, List.length_map]; exact g.brks
    have ls1 : xs.length ≤ 6 := by rw [os.1, List.length_map]; exact g.shps
    have sm := Same.refl H
    have hp := h1
    refine ⟨_, rfl, ?_⟩
    refine ⟨_, _, _, _, _, rfl, hp, Cl.cls TW, Cl.no TW _ (by decide +kernel), look_zip (i := 2) wld_nd rfl rfl, ?_⟩
    refine ⟨lc, rfl, lc_map (fun x y H' => ∃ p b, x = .ref p ∧ ObjAt k.C H p chanK (Chan.vals b) ∧ ∃ a, y = .ref a ∧ H' a = some (.tup (Chan.vals b))) (.l (sm _ _ h3)) (Nat.lt_of_le_of_lt lc1 (by decide)) (fun x y H H' s ⟨p, b, e, o, a, e2, h⟩ => ⟨p, b, e, o, a, e2, s _ _ h⟩)
      (fun x y H D l hD ⟨p, b, e, o, a, e2, h⟩ => ⟨p, b, e, o, a, e2, hide_of hD (fun _ z => by cases z) h⟩) ?_ ?_⟩
    · intro x H3 kk hx s3 kq
      obtain ⟨o, b, rfl, _, dy, e⟩ := oc.mem hx
      refine ⟨rfl, _, rfl, o, dy, _, rfl, s3 _ _ (sm _ _ e), look_no (by decide +kernel), o, b, rfl, ⟨dy, s3 _ _ (sm _ _ e)⟩, fun a H4 _ s4 h4 => ?_⟩
      exact kq _ _ s4 ⟨o, b, rfl, ⟨dy, e⟩, a, rfl, h4⟩
    intro D ys1 H3 hD s3 hy e
    have r1 := rows_of (fun _ => rfl) (fun _ _ e => e) oc e
    refine ⟨D, _, rfl, .inl ⟨.inl (.inl hy), fun t1 ht => ?_⟩⟩
    generalize hXq : upd _ t1 _ = K1
    have s4 := laid_same hXq ht
    have e1 := laid_at hXq
    clear hXq
    have r1 := r1.same s4
    have nt1 := none_back (sm.trans s3) ht
    have sm := sm.trans (s3.trans s4)
    have hp := s4 _ _ (s3 _ _ hp)
    clear e hy
    refine ⟨_, rfl, ?_⟩
    refine ⟨_, _, _, _, _, rfl, hp, Cl.cls TW, Cl.no TW _ (by decide +kernel), look_zip (i := 3) wld_nd rfl rfl, ?_⟩
    refine ⟨lb, rfl, lc_map (fun x y H' => ∃ p b, x = .ref p ∧ ObjAt k.B H p brkK (Brk.vals b) ∧ ∃ a, y = .ref a ∧ H' a = some (.tup (Brk.vals b))) (.l (sm _ _ h4)) (Nat.lt_of_le_of_lt lb1 (by decide)) (fun x y H H' s ⟨p, b, e, o, a, e2, h⟩ => ⟨p, b, e, o, a, e2, s _ _ h⟩)
      (fun x y H D l hD ⟨p, b, e, o, a, e2, h⟩ => ⟨p, b, e, o, a, e2, hide_of hD (fun _ z => by cases z) h⟩) ?_ ?_⟩
    · intro x H3 kk hx s3 kq
      obtain ⟨o, b, rfl, _, dy, e⟩ := ob.mem hx
      refine ⟨rfl, _, rfl, o, dy, _, rfl, s3 _ _ (sm _ _ e), look_no (by decide +kernel), o, b, rfl, ⟨dy, s3 _ _ (sm _ _ e)⟩, fun a H4 _ s4 h4 => ?_⟩
      exact kq _ _ s4 ⟨o, b, rfl, ⟨dy, e⟩, a, rfl, h4⟩
    intro D ys2 H3 hD s3 hy e
    have r2 := rows_of (fun _ => rfl) (fun _ _ e => e) ob e
    refine ⟨D, _, rfl, .inl ⟨.inl (.inl hy), fun t2 ht => ?_⟩⟩
    generalize hXq : upd _ t2 _ = K2
    have s4 := laid_same hXq ht
    have e2 := laid_at hXq
    clear hXq
    have r2 := r2.same s4
    have nt2 := none_back (sm.trans s3) ht
    have sm := sm.trans (s3.trans s4)
    have hp := s4 _ _ (s3 _ _ hp)
    have r1 := r1.same (s3.trans s4)
    have e1 := s4 _ _ (s3 _ _ e1)
    clear e hy
    refine ⟨_, rfl, ?_⟩
    refine ⟨_, _, _, _, _, rfl, hp, Cl.cls TW, Cl.no TW _ (by decide +kernel), look_zip (i := 4) wld_nd rfl rfl, ?_⟩
    refine ⟨ls, rfl, lc_map (fun x y H' => ∃ p b, x = .ref p ∧ ObjAt k.S H p shpK (Shp.vals b) ∧ ∃ a, y = .ref a ∧ H' a = some (.tup (Shp.row b))) (.l (sm _ _ h5)) (Nat.lt_of_le_of_lt ls1 (by decide)) (fun x y H H' s ⟨p, b, e, o, a, e2, h⟩ => ⟨p, b, e, o, a, e2, s _ _ h⟩)
      (fun x y H D l hD ⟨p, b, e, o, a, e2, h⟩ => ⟨p, b, e, o, a, e2, hide_of hD (fun _ z => by cases z) h⟩) ?_ ?_⟩
    · intro x H3 kk hx s3 kq
      obtain ⟨o, b, rfl, _, dy, e⟩ := os.mem hx
      refine ⟨rfl, _, rfl, o, dy, _, rfl, s3 _ _ (sm _ _ e), look_no (by decide +kernel), o, b, rfl, ⟨dy, s3 _ _ (sm _ _ e)⟩, fun a H4 _ s4 h4 => ?_⟩
      exact kq _ _ s4 ⟨o, b, rfl, ⟨dy, e⟩, a, rfl, h4⟩
    intro D ys3 H3 hD s3 hy e
    have r3 := rows_of (fun _ => rfl) shp_row os e
    refine ⟨D, _, rfl, .inl ⟨.inl (.inl hy), fun t3 ht => ?_⟩⟩
    generalize hXq : upd _ t3 _ = K3
    have s4 := laid_same hXq ht
    have e3 := laid_at hXq
    clear hXq
    have r3 := r3.same s4
    have nt3 := none_back (sm.trans s3) ht
    have sm := sm.trans (s3.trans s4)
    have hp := s4 _ _ (s3 _ _ hp)
    have r1 := r1.same (s3.trans s4)
    have e1 := s4 _ _ (s3 _ _ e1)
    have r2 := r2.same (s3.trans s4)
    have e2 := s4 _ _ (s3 _ _ e2)
    clear e hy
    refine ⟨_, rfl, ?_⟩
    refine ⟨_, _, _, _, _, rfl, hp, Cl.cls TW, Cl.no TW _ (by decide +kernel), look_zip (i := 0) wld_nd rfl rfl, ?_⟩
    refine ⟨_, rfl, ?_⟩
    refine ⟨_, _, _, _, _, rfl, hp, Cl.cls TW, Cl.no TW _ (by decide +kernel), look_zip (i := 1) wld_nd rfl rfl, ?_⟩
    refine ⟨lp, _, rfl, .inl ⟨.inl (.inl (sm _ _ h2)), fun t4 ht => ?_⟩⟩
    generalize hXq : upd _ t4 _ = K4
    have s5 := laid_same hXq ht
    have e4 := laid_at hXq
    clear hXq
    refine ⟨_, rfl, _, rfl, _, rfl, ?_⟩
    refine ⟨Nat.le_of_ble_eq_true rfl, fun t5 ht5 => ?_⟩
    generalize hXq : upd _ t5 _ = K5
    have s6 := laid_same hXq ht5
    have e5 := laid_at hXq
    clear hXq
    exact q t5 K5 (none_back (sm.trans s5) ht5) (sm.trans (s5.trans s6)) ⟨t4, t1, t2, t3, ys1, ys2, ys3, e5, s6 _ _ e4, s6 _ _ (s5 _ _ e1), r1.same (s5.trans s6), s6 _ _ (s5 _ _ e2), r2.same (s5.trans s6), s6 _ _ (s5 _ _ e3), r3.same (s5.trans s6)⟩
theorem ok_channel_anew {C : Addr} {f : Addr} {fd : FuncData} (F : Fun K "channel_anew" "channel_anew" s_channel_anew f fd) (DC : Ma P w K mg base CX0 4 "Channel" C ["self", "name", "one", "other", "hours", "depth", "first", "growth", "most"] (spChanMk C)) : FnOk P w K mg base CX0 6 f fd ["row"] (spAnew C chanK Chan.Good Chan.vals Chan.vals) := by
  refine F.ok sc_channel_anew (fun vs H Q E h => ?_) (fun cdv A outer s H vs Q E hr h => ?_)
  · obtain ⟨p, c, rfl, _⟩ := h
    rfl
  · obtain ⟨r, c, rfl, g, hr', q⟩ := h
    refine ⟨_, (pss_one (ps_ret (pe_ma DC (hr.mono (by decide)) (by rfl) pass0 (pa_cons (pe_ix ix_tup (pv 0) pe_int (fun _ _ => rfl)) (pa_cons (pe_ix ix_tup (pv 0) pe_int (fun _ _ => rfl)) (pa_cons (pe_ix ix_tup (pv 0) pe_int (fun _ _ => rfl)) (pa_cons (pe_ix ix_tup (pv 0) pe_int (fun _ _ => rfl)) (pa_cons (pe_ix ix_tup (pv 0) pe_int (fun _ _ => rfl)) (pa_cons (pe_ix ix_tup (pv 0) pe_int (fun _ _ => rfl)) (pa_cons (pe_ix ix_tup (pv 0) pe_int (fun _ _ => rfl)) (pa_cons (pe_ix ix_tup (pv 0) pe_int (fun _ _ => rfl)) pa_nil))))))))))), ?_⟩
    refine ⟨_, rfl, r, _, 0, _, rfl, rfl, .inl (.inl hr'), rfl, _, rfl, r, _, 1, _, rfl, rfl, .inl (.inl hr'), rfl, _, rfl, r, _, 2, _, rfl, rfl, .inl (.inl hr'), rfl, _, rfl, r, _, 3, _, rfl, rfl, .inl (.inl hr'), rfl, _, rfl, r, _, 4, _, rfl, rfl, .inl (.inl hr'), rfl, _, rfl, r, _, 5, _, rfl, rfl, .inl (.inl hr'), rfl, _, rfl, r, _, 6, _, rfl, rfl, .inl (.inl hr'), rfl, _, rfl, r, _, 7, _, rfl, rfl, .inl (.inl hr'), rfl, fun x dx hx hd _ => ?_⟩
    exact ⟨x, c, rfl, g, Makes.use q hx hd⟩
theorem ok_breaker_anew {C : Addr} {f : Addr} {fd : FuncData} (F : Fun K "breaker_anew" "breaker_anew" s_breaker_anew f fd) (DB : Ma P w K mg base CX0 5 "Breaker" C ["self", "name", "port", "hour", "strength", "draught", "cut"] (spBrkMk C)) : FnOk P w K mg base CX0 7 f fd ["row"] (spAnew C brkK Brk.Good Brk.vals Brk.vals) := by
  refine F.ok sc_breaker_anew (fun vs H Q E h => ?_) (fun cdv A outer s H vs Q E hr h => ?_)
  · obtain ⟨p, c, rfl, _⟩ := h
    rfl
  · obtain ⟨r, c, rfl, g, hr', q⟩ := h
    refine ⟨_, (pss_one (ps_ret (pe_ma DB (hr.mono (by decide)) (by rfl) pass0 (pa_cons (pe_ix ix_tup (pv 0) pe_int (fun _ _ => rfl)) (pa_cons (pe_ix ix_tup (pv 0) pe_int (fun _ _ => rfl)) (pa_cons (pe_ix ix_tup (pv 0) pe_int (fun _ _ => rfl)) (pa_cons (pe_ix ix_tup (pv 0) pe_int (fun _ _ => rfl)) (pa_cons (pe_ix ix_tup (pv 0) pe_int (fun _ _ => rfl)) (pa_cons (pe_ix ix_tup (pv 0) pe_int (fun _ _ => rfl)) pa_nil))))))))), ?_⟩
    refine ⟨_, rfl, r, _, 0, _, rfl, rfl, .inl (.inl hr'), rfl, _, rfl, r, _, 1, _, rfl, rfl, .inl (.inl hr'), rfl, _, rfl, r, _, 2, _, rfl, rfl, .inl (.inl hr'), rfl, _, rfl, r, _, 3, _, rfl, rfl, .inl (.inl hr'), rfl, _, rfl, r, _, 4, _, rfl, rfl, .inl (.inl hr'), rfl, _, rfl, r, _, 5, _, rfl, rfl, .inl (.inl hr'), rfl, fun x dx hx hd _ => ?_⟩
    exact ⟨x, c, rfl, g, Makes.use q hx hd⟩
theorem ok_ship_anew {C : Addr} {f : Addr} {fd : FuncData} (F : Fun K "ship_anew" "ship_anew" s_ship_anew f fd) (DS : Ma P w K mg base CX0 5 "Ship" C ["self", "name", "port", "goal", "hour", "strength", "draught"] (spShpMk C)) : FnOk P w K mg base CX0 7 f fd ["row"] (spAnew C shpK Shp.Good Shp.vals Shp.row) := by
  refine F.ok sc_ship_anew (fun vs H Q E h => ?_) (fun cdv A outer s H vs Q E hr h => ?_)
  · obtain ⟨p, c, rfl, _⟩ := h
    rfl
  · obtain ⟨r, c, rfl, g, hr', q⟩ := h
    refine ⟨_, (pss_one (ps_ret (pe_ma DS (hr.mono (by decide)) (by rfl) pass0 (pa_cons (pe_ix ix_tup (pv 0) pe_int (fun _ _ => rfl)) (pa_cons (pe_ix ix_tup (pv 0) pe_int (fun _ _ => rfl)) (pa_cons (pe_ix ix_tup (pv 0) pe_int (fun _ _ => rfl)) (pa_cons (pe_ix ix_tup (pv 0) pe_int (fun _ _ => rfl)) (pa_cons (pe_ix ix_tup (pv 0) pe_int (fun _ _ => rfl)) (pa_cons (pe_ix ix_tup (pv 0) pe_int (fun _ _ => rfl)) pa_nil))))))))), ?_⟩
    refine ⟨_, rfl, r, _, 0, _, rfl, rfl, .inl (.inl hr'), rfl, _, rfl, r, _, 1, _, rfl, rfl, .inl (.inl hr'), rfl, _, rfl, r, _, 2, _, rfl, rfl, .inl (.inl hr'), rfl, _, rfl, r, _, 3, _, rfl, rfl, .inl (.inl hr'), rfl, _, rfl, r, _, 4, _, rfl, rfl, .inl (.inl hr'), rfl, _, rfl, r, _, 5, _, rfl, rfl, .inl (.inl hr'), rfl, fun x dx hx hd _ => ?_⟩
    exact ⟨x, c, rfl, g, Makes.use q hx hd⟩
theorem ok_wldAnew {k : KA} {f : Addr} {fd : FuncData} (F : Fun K "world_anew" "world_anew" s_world_anew f fd) (DC : Dn P w K mg base CX0 6 "channel_anew" ["row"] (spAnew k.C chanK Chan.Good Chan.vals Chan.vals)) (DB : Dn P w K mg base CX0 7 "breaker_anew" ["row"] (spAnew k.B brkK Brk.Good Brk.vals Brk.vals))
    (DS : Dn P w K mg base CX0 7 "ship_anew" ["row"] (spAnew k.S shpK Shp.Good Shp.vals Shp.row)) (DW : Ma P w K mg base CX0 3 "World" k.W ["self", "begin", "ports", "channels", "breakers", "ships"] (spWldMk K k)) : FnOk P w K mg base CX0 8 f fd ["told"] (spWldAnew K k) := by
  refine F.ok sc_world_anew (fun vs H Q E h => ?_) (fun cdv A outer s H vs Q E hr h => ?_)
  · obtain ⟨t, W, ap, ac, ab, as, yc, yb, ys, rfl, _⟩ := h
    rfl
  · obtain ⟨t, W, ap, ac, ab, as, yc, yb, ys, rfl, g, ht, hp, hc, rc, hb, rb, hs, rs, q⟩ := h
    refine ⟨_, (pss_cons (ps_asg (pv 0) (pg_tup rfl (pgs_cons (pg_name (i := 1) sc_world_anew.nd rfl (.inl rfl)) (pgs_cons (pg_name (i := 2) sc_world_anew.nd rfl (.inl rfl)) (pgs_cons (pg_name (i := 3) sc_world_anew.nd rfl (.inl rfl)) (pgs_cons (pg_name (i := 4) sc_world_anew.nd rfl (.inl rfl)) (pgs_cons (pg_name (i := 5) sc_world_anew.nd rfl (.inl rfl)) pgs_nil)))))))
      (pss_cons (ps_setLc (i := 6) (own := [("row", 7)]) (g := gName 7) (tt := tYes) rfl sc_world_anew.nd rfl rfl (by rfl) (pi_seq (pv 3)) (blkOk_by (N := ["told", "begin", "ports", "channels", "breakers", "ships", "made", "row"]) (sc := defScope s_world_anew) (by decide +kernel)) (fun _ _ _ _ _ => pg_name (i := 7) sc_world_anew.nd rfl (Or.inl rfl)) (fun _ _ _ _ _ => pts_nil) (fun _ _ _ _ _ => (pe_d DC (hr.mono (by decide)) (by rfl) pass0 (pa_cons (pv 7) pa_nil))))
      (pss_one (ps_ret (pe_ma DW (hr.mono (by decide)) (by rfl) pass0 (pa_cons (pv 1) (pa_cons (pv 2) (pa_cons (pv 6) (pa_cons (pe_lc (own := [("row", 7)]) (g := gName 7) (tt := tYes) rfl sc_world_anew.nd (pi_seq (pv 4)) (blkOk_by (N := ["told", "begin", "ports", "channels", "breakers", "ships", "made", "row"]) (sc := defScope s_world_anew) (by decide +kernel)) (fun _ _ _ _ _ => pg_name (i := 7) sc_world_anew.nd rfl (Or.inl rfl)) (fun _ _ _ _ _ => pts_nil) (fun _ _ _ _ _ => (pe_d DB (hr.mono (by decide)) (by rfl) pass0 (pa_cons (pv 7) pa_nil)))) (pa_cons (pe_lc (own := [("row", 7)]) (g := gName 7) (tt := tYes) rfl sc_world_anew.nd (pi_seq (pv 5)) (blkOk_by (N := ["told", "begin", "ports", "channels", "breakers", "ships", "made", "row"]) (sc := defScope s_world_anew) (by decide +kernel)) (fun _ _ _ _ _ => pg_name (i := 7) sc_world_anew.nd rfl (Or.inl rfl)) (fun _ _ _ _ _ => pts_nil) (fun _ _ _ _ _ => (pe_d DS (hr.mono (by decide)) (by rfl) pass0 (pa_cons (pv 7) pa_nil)))) pa_nil)))))))))), ?_⟩
    have lc1 : yc.length ≤ 12 := by rw [rc.1, List.length_map]; exact g.chans
    have lb1 : yb.length ≤ 4 := by rw [rb.1, List.length_map]; exact g.brks
    have ls1 : ys.length ≤ 6 := by rw [rs.1, List.length_map]; exact g.shps
    have sm := Same.refl H
    refine ⟨_, rfl, t, _, rfl, .inl (.inl ht), rfl, _, _, rfl, _, _, rfl, _, _, rfl, _, _, rfl, _, _, rfl, rfl, ?_⟩
    refine ⟨_, rfl, ac, rfl, lc_map (fun x y H' => ∃ p b, x = .ref p ∧ H p = some (.tup (Chan.vals b)) ∧ ∃ a, y = .ref a ∧ ObjAt k.C H' a chanK (Chan.vals b)) (hc.same sm) (Nat.lt_of_le_of_lt lc1 (by decide)) (fun x y H H' s ⟨p, b, e, o, a, e2, h⟩ => ⟨p, b, e, o, a, e2, h.same s⟩)
      (fun x y H D l hD ⟨p, b, e, o, a, e2, dx, h⟩ => ⟨p, b, e, o, a, e2, dx, hide_of hD (fun _ z => by cases z) h⟩) ?_ ?_⟩
    · intro x H3 kk hx s3 kq
      obtain ⟨o, b, rfl, hm, e⟩ := rc.mem hx
      refine ⟨rfl, _, rfl, o, b, rfl, g.good b hm, s3 _ _ (sm _ _ e), fun a H4 _ s4 h4 => ?_⟩
      exact kq _ _ s4 ⟨o, b, rfl, e, a, rfl, h4⟩
    intro D1 xc H1 hD1 s1 hy1 e1
    have oc := objs_of (fun _ _ e => e) rc e1
    have sm := sm.trans s1
    refine ⟨_, rfl, _, rfl, _, rfl, _, rfl, ab, rfl, lc_map (fun x y H' => ∃ p b, x = .ref p ∧ H p = some (.tup (Brk.vals b)) ∧ ∃ a, y = .ref a ∧ ObjAt k.B H' a brkK (Brk.vals b)) (hb.same sm) (Nat.lt_of_le_of_lt lb1 (by decide)) (fun x y H H' s ⟨p, b, e, o, a, e2, h⟩ => ⟨p, b, e, o, a, e2, h.same s⟩)
      (fun x y H D l hD ⟨p, b, e, o, a, e2, dx, h⟩ => ⟨p, b, e, o, a, e2, dx, hide_of hD (fun _ z => by cases z) h⟩) ?_ ?_⟩
    · intro x H3 kk hx s3 kq
      obtain ⟨o, b, rfl, hm, e⟩ := rb.mem hx
      refine ⟨rfl, _, rfl, o, b, rfl, g.bgood b hm, s3 _ _ (sm _ _ e), fun a H4 _ s4 h4 => ?_⟩
      exact kq _ _ s4 ⟨o, b, rfl, e, a, rfl, h4⟩
    intro D2 xb H2 hD2 s2 hy2 e2
    have ob := objs_of (fun _ _ e => e) rb e2
    have sm := sm.trans s2
    refine ⟨_, rfl, as, rfl, lc_map (fun x y H' => ∃ p b, x = .ref p ∧ H p = some (.tup (Shp.row b)) ∧ ∃ a, y = .ref a ∧ ObjAt k.S H' a shpK (Shp.vals b)) (hs.same sm) (Nat.lt_of_le_of_lt ls1 (by decide)) (fun x y H H' s ⟨p, b, e, o, a, e2, h⟩ => ⟨p, b, e, o, a, e2, h.same s⟩)
      (fun x y H D l hD ⟨p, b, e, o, a, e2, dx, h⟩ => ⟨p, b, e, o, a, e2, dx, hide_of hD (fun _ z => by cases z) h⟩) ?_ ?_⟩
    · intro x H3 kk hx s3 kq
      obtain ⟨o, b, rfl, hm, e⟩ := rs.mem hx
      refine ⟨rfl, _, rfl, o, b, rfl, g.sgood b hm, s3 _ _ (sm _ _ e), fun a H4 _ s4 h4 => ?_⟩
      exact kq _ _ s4 ⟨o, b, rfl, e, a, rfl, h4⟩
    intro D3 xs H3 hD3 s3 hy3 e3
    have os := objs_of shp_vals rs e3
    have sm := sm.trans s3
    intro x dx hx hd hne
    have sx : Same H3 (upd (upd H3 dx (.own x)) x (.ins k.W dx [])) := fun b o e => by
      rw [upd_ne (ne_of_none e hx), upd_ne (ne_of_none e hd)]
      exact e
    refine ⟨x, W, ap, D1, D2, D3, xc, xb, xs, rfl, g, ⟨hp.same (sm.trans sx), .l (sx _ _ (s3 _ _ (s2 _ _ hy1))), oc.same (s2.trans (s3.trans sx)), .l (sx _ _ (s3 _ _ hy2)), ob.same (s3.trans sx), .l (sx _ _ hy3), os.same sx⟩, ⟨dx, upd_same⟩, fun H4 b4 f4 => ⟨rfl, ?_⟩⟩
    have s4 : Same H3 H4 := fun b o e => b4 b o (ne_of_none e hx) (sx _ _ e)
    exact q x H4 (none_back sm hx) (sm.trans s4) ⟨xc, xb, xs, f4.f, oc.same (s2.trans (s3.trans s4)), ob.same (s3.trans s4), os.same s4⟩
end
end Law
end
section
set_option Elab.async false
set_option linter.all false
set_option maxRecDepth 100000
set_option maxHeartbeats 4000000
namespace Law
open PySem PySem.Spec PyProof.Rows L2 IK SX
/-! ### tables -/
abbrev Ent := Int × List Nat
def entV (e : Ent) : List V := [.int e.1, .str (S e.2)]
/-- hours from lo on that rise, channels of these names -/
def Rise (chs : List (List Nat)) : Int → List Ent → Prop
  | _, [] => True
  | lo, e :: r => lo ≤ e.1 ∧ e.1 ≤ 100000000 ∧ e.2 ∈ chs ∧ Rise chs (e.1 + 1) r
abbrev Tab := List (List Nat × List Ent)
def kvsOf (T : Tab) (vs : List V) : List (Key × V) := (T.map fun e => (Sum.inr (S e.1) : Key)).zip vs
def EntsAt (K : PySem.W.Frag) (H : Hp) (vs : List V) (T : Tab) : Prop := vs.length = T.length ∧ ∀ (i : Nat) (v : V) (e : List Nat × List Ent), vs[i]? = some v → T[i]? = some e → ∃ b ys, v = .ref b ∧ SqA K H b ys ∧ RowsIs H ys (e.2.map entV)
theorem EntsAt.same {K : PySem.W.Frag} {H H' : Hp} {vs : List V} {T : Tab} (h : EntsAt K H vs T) (s : Same H H') : EntsAt K H' vs T := ⟨h.1, fun i v e h1 h2 => by
  obtain ⟨b, ys, e1, e2, e3⟩ := h.2 i v e h1 h2
  exact ⟨b, ys, e1, e2.same s, e3.same s⟩⟩
/-- the dict at d may be another one -/
theorem EntsAt.bar {K : PySem.W.Frag} {d : Addr} {kvs : List (Key × V)} {H H' : Hp} {vs : List V} {T : Tab} (h : EntsAt K H vs T) (b : Bar d H H') (hd : H d = some (.dK kvs)) : EntsAt K H' vs T := ⟨h.1, fun i v e h1 h2 => by
  obtain ⟨a, ys, e1, e2, e3⟩ := h.2 i v e h1 h2
  refine ⟨a, ys, e1, sqA_kp e2 (kp_bar b hd), e3.1, fun j y r h3 h4 => ?_⟩
  obtain ⟨q, e4, e5⟩ := e3.2 j y r h3 h4
  exact ⟨q, e4, b _ _ (fun z => by rw [z, hd] at e5; cases e5) e5⟩⟩
def TabAt (K : PySem.W.Frag) (H : Hp) (a : Addr) (T : Tab) : Prop := ∃ vs, H a = some (.dK (kvsOf T vs)) ∧ EntsAt K H vs T
theorem TabAt.same {K : PySem.W.Frag} {H H' : Hp} {a : Addr} {T : Tab} (h : TabAt K H a T) (s : Same H H') : TabAt K H' a T := by
  obtain ⟨vs, h1, h2⟩ := h
  exact ⟨vs, s _ _ h1, h2.same s⟩
/-- the same, its values lists -/
def ValsL (H : Hp) (vs : List V) (T : Tab) : Prop := vs.length = T.length ∧ ∀ (i : Nat) (v : V) (e : List Nat × List Ent), vs[i]? = some v → T[i]? = some e → ∃ b ys, v = .ref b ∧ H b = some (.lst ys) ∧ RowsIs H ys (e.2.map entV)
def TabL (H : Hp) (a : Addr) (T : Tab) : Prop := ∃ vs, H a = some (.dK (kvsOf T vs)) ∧ ValsL H vs T
theorem ValsL.ents {K : PySem.W.Frag} {H : Hp} {vs : List V} {T : Tab} (h : ValsL H vs T) : EntsAt K H vs T := ⟨h.1, fun i v e e1 e2 => by
  obtain ⟨b, ys, e3, e4, e5⟩ := h.2 i v e e1 e2
  exact ⟨b, ys, e3, .l e4, e5⟩⟩
theorem TabL.at {K : PySem.W.Frag} {H : Hp} {a : Addr} {T : Tab} (h : TabL H a T) : TabAt K H a T := by
  obtain ⟨vs, h1, h2⟩ := h
  exact ⟨vs, h1, h2.ents⟩
theorem ValsL.same {H H' : Hp} {vs : List V} {T : Tab} (h : ValsL H vs T) (s : Same H H') : ValsL H' vs T := ⟨h.1, fun i v e e1 e2 => by
  obtain ⟨b, ys, e3, e4, e5⟩ := h.2 i v e e1 e2
  exact ⟨b, ys, e3, s _ _ e4, e5.same s⟩⟩
theorem RowsIs.bar {d : Addr} {kvs : List (Key × V)} {H H' : Hp} {ys : List V} {rows : List (List V)} (h : RowsIs H ys rows) (b : Bar d H H') (hd : H d = some (.dK kvs)) : RowsIs H' ys rows := ⟨h.1, fun j y r h3 h4 => by
  obtain ⟨q, e4, e5⟩ := h.2 j y r h3 h4
  exact ⟨q, e4, b _ _ (fun z => by rw [z, hd] at e5; cases e5) e5⟩⟩
theorem ValsL.bar {d : Addr} {kvs : List (Key × V)} {H H' : Hp} {vs : List V} {T : Tab} (h : ValsL H vs T) (b : Bar d H H') (hd : H d = some (.dK kvs)) : ValsL H' vs T := ⟨h.1, fun i v e e1 e2 => by
  obtain ⟨q, ys, e3, e4, e5⟩ := h.2 i v e e1 e2
  exact ⟨q, ys, e3, b _ _ (fun z => by rw [z, hd] at e4; cases e4) e4, e5.bar b hd⟩⟩
theorem TabL.same {H H' : Hp} {a : Addr} {T : Tab} (h : TabL H a T) (s : Same H H') : TabL H' a T := by
  obtain ⟨vs, h1, h2⟩ := h
  exact ⟨vs, s _ _ h1, h2.same s⟩
theorem ValsL.snoc {H : Hp} {vs : List V} {T : Tab} {l : Addr} {ys : List V} {n : List Nat} {es : List Ent} (h : ValsL H vs T) (hl : H l = some (.lst ys)) (hr : RowsIs H ys (es.map entV)) : ValsL H (vs ++ [.ref l]) (T ++ [(n, es)]) := by
  refine ⟨by rw [List.length_append, List.length_append, h.1]; rfl, fun i v e e1 e2 => ?_⟩
  by_cases hi : i < T.length
  · rw [List.getElem?_append_left (by rw [h.1]; exact hi)] at e1
    rw [List.getElem?_append_left hi] at e2
    exact h.2 i v e e1 e2
  · rw [List.getElem?_append_right (by rw [h.1]; omega), h.1] at e1
    rw [List.getElem?_append_right (by omega)] at e2
    have e0 : i - T.length = 0 := by
      have := (List.getElem?_eq_some_iff.mp e2).1
      simp at this
      omega
    rw [e0] at e1 e2
    obtain rfl : V.ref l = v := by simpa using e1
    obtain rfl : (n, es) = e := by simpa using e2
    exact ⟨l, ys, rfl, hl, hr⟩
theorem kvsOf_snoc {vs : List V} {T : Tab} {v : V} {n : List Nat} {es : List Ent} (h : vs.length = T.length) : kvsOf (T ++ [(n, es)]) (vs ++ [v]) = kvsOf T vs ++ [(.inr (S n), v)] := by
  unfold kvsOf
  rw [List.map_append, List.zip_append (by rw [List.length_map, h])]
  rfl
theorem val_none {T : Tab} {vs : List V} {n : List Nat} (h : ∀ e ∈ T, e.1 ≠ n) : valV (kvsOf T vs) (.inr (S n)) = none := by
  unfold valV
  rw [List.find?_eq_none.mpr]
  · rfl
  · rintro ⟨k, v⟩ hk
    have h1 := (List.of_mem_zip hk).1
    obtain ⟨e, he, rfl⟩ := List.mem_map.mp h1
    simp only [decide_eq_true_eq]
    intro z
    injection z with z
    exact h e he (S_inj z)
theorem lock_same {d : Addr} {u o : HO} {H H' : Hp} (b : Bar d (upd H d o) H') (hd : H d = some u) : Same H (upd H' d u) := fun x y e => by
  by_cases z : x = d
  · rw [z, upd_same, ← e, z, hd]
  · rw [upd_ne z]
    exact b x y z (by rw [upd_ne z]; exact e)
/-- the names of a world's vessels, in order -/
def Wld.vnames (W : Wld) : List (List Nat) := W.brks.map (fun b => b.name) ++ W.shps.map (fun b => b.name)
def Wld.cnames (W : Wld) : List (List Nat) := W.chans.map Chan.name
structure TGood (W : Wld) (T : Tab) : Prop where
  nd : (T.map (·.1)).Nodup
  ves : ∀ e ∈ T, e.1 ∈ W.vnames
  rise : ∀ e ∈ T, Rise W.cnames W.begin e.2
  few : ∀ e ∈ T, e.2.length ≤ 1000
/-- the table as it is told: the vessels that have entries, in order -/
def entsOf (T : Tab) (n : List Nat) : List Ent := match T.find? (fun e => e.1 == n) with
  | some e => e.2
  | none => []
def tabTold (W : Wld) (T : Tab) : Tab := (W.vnames.map fun n => (n, entsOf T n)).filter fun e => !e.2.isEmpty
theorem ents_val {K : PySem.W.Frag} {H : Hp} {n : List Nat} : ∀ {T : Tab} {vs : List V}, EntsAt K H vs T → (valV (kvsOf T vs) (.inr (S n)) = none ∧ entsOf T n = []) ∨ ∃ b ys, valV (kvsOf T vs) (.inr (S n)) = some (.ref b) ∧ SqA K H b ys ∧ RowsIs H ys ((entsOf T n).map entV)
  | [], vs, _ => .inl ⟨by simp [kvsOf, valV_nil], rfl⟩
  | e :: T, [], h => by have := h.1; simp at this
  | e :: T, v :: vs, h => by
    by_cases z : e.1 = n
    · obtain ⟨b, ys, h1, h2, h3⟩ := h.2 0 v e rfl rfl
      refine .inr ⟨b, ys, ?_, h2, ?_⟩
      · show valV ((_, v) :: _) _ = _
        rw [valV_pos (by show (Sum.inr (S e.1) : Key) = _; rw [z]), h1]
      · have : entsOf (e :: T) n = e.2 := by simp [entsOf, z]
        rw [this]
        exact h3
    · have e1 : valV (kvsOf (e :: T) (v :: vs)) (.inr (S n)) = valV (kvsOf T vs) (.inr (S n)) := by
        show valV ((_, v) :: _) _ = _
        rw [valV_neg (fun y => z (S_inj (by injection y)))]
        rfl
      have e2 : entsOf (e :: T) n = entsOf T n := by simp [entsOf, z]
      rw [e1, e2]
      exact ents_val ⟨by simpa using h.1, fun i v e h1 h2 => h.2 (i + 1) v e (by simpa using h1) (by simpa using h2)⟩
/-- the data of entries -/
def entsD (es : List Ent) : PyData := .list (es.map fun e => .tuple [.int e.1, .str (S e.2)])
theorem dp_ents {K : PySem.W.Frag} {H : Hp} : ∀ {ys : List V} {es : List Ent}, RowsIs H ys (es.map entV) → DpAll K H ys (es.map fun e => .tuple [.int e.1, .str (S e.2)])
  | [], [], _ => .nil
  | [], e :: es, h => by have := h.1; simp at this
  | y :: ys, [], h => by have := h.1; simp at this
  | y :: ys, e :: es, h => by
    obtain ⟨a, rfl, ha⟩ := h.2 0 y (entV e) rfl rfl
    exact .cons (.tup (.inl (.inl ha)) (.cons (.int _) (.cons (.str _) .nil))) (dp_ents ⟨by simpa using h.1, fun i v e h1 h2 => h.2 (i + 1) v e (by simpa using h1) (by simpa using h2)⟩)
theorem ents_shaped {es : List Ent} (h : ∀ e ∈ es, PyData.strOk (S e.2) = true) : SeqAt.shaped (entsD es) = true := by
  have h1 : PyData.canLayAll0 (es.map fun e => PyData.tuple [.int e.1, .str (S e.2)]) = true ∧ PyData.depthAll (es.map fun e => PyData.tuple [.int e.1, .str (S e.2)]) ≤ 2 := by
    induction es with
    | nil => exact ⟨rfl, by decide⟩
    | cons e es ih =>
      obtain ⟨i1, i2⟩ := ih fun x hx => h x (List.mem_cons_of_mem _ hx)
      constructor
      · simp [PyData.canLayAll0, PyData.canLay0, h e List.mem_cons_self, i1]
      · simp only [List.map_cons, PyData.depthAll, PyData.depth]
        omega
  simp only [SeqAt.shaped, entsD, PyData.canLay0, PyData.depth, h1.1, Bool.true_and, decide_eq_true_eq]
  omega
theorem ents_eqv (es : List Ent) : PyData.eqv (entsD es) (.list []) = es.isEmpty := by
  cases es with
  | nil => rfl
  | cons e es => rfl
theorem name_ok {l : List Nat} (h : isName l = true) : PyData.strOk (S l) = true := by
  unfold PyData.strOk
  rw [← Array.all_toList, List.all_eq_true]
  intro c hc
  have := (isName_len h).2.2 c (by simpa [S] using hc)
  simp only [decide_eq_true_eq]
  omega
theorem Rise.mem {chs : List (List Nat)} : ∀ {lo : Int} {es : List Ent}, Rise chs lo es → ∀ e ∈ es, e.2 ∈ chs
  | _, [], _, e, h => by cases h
  | _, e :: es, ⟨_, _, h3, h4⟩, x, hx => by
    rcases List.mem_cons.mp hx with rfl | hx
    · exact h3
    · exact h4.mem x hx
theorem entsOf_mem {T : Tab} {n : List Nat} : entsOf T n = [] ∨ ∃ e ∈ T, e.1 = n ∧ entsOf T n = e.2 := by
  unfold entsOf
  cases h : T.find? (fun e => e.1 == n) with
  | none => exact .inl rfl
  | some e => exact .inr ⟨e, List.mem_of_find?_eq_some h, by simpa using List.find?_some h, rfl⟩
/-- a vessel of the world by its place: its name -/
theorem ves_at {K : PySem.W.Frag} {CB CS : Addr} {H : Hp} {xb xs : List V} {W : Wld} (TB : Cl K CB brkK) (TS : Cl K CS shpK) (ob : Objs CB H brkK xb (W.brks.map Brk.vals)) (os : Objs CS H shpK xs (W.shps.map Shp.vals)) {i : Nat} {x : V} (hx : (xb ++ xs)[i]? = some x) :
    ∃ n o C dx fs, W.vnames[i]? = some n ∧ x = .ref o ∧ H o = some (.ins C dx fs) ∧ Cls K C ∧ NoAttr K C "name" ∧ fs.lookup ("name" : Str) = some (.str (S n)) := by
  have l1 : xb.length = W.brks.length := by rw [ob.1, List.length_map]
  have l2 : xs.length = W.shps.length := by rw [os.1, List.length_map]
  by_cases hi : i < W.brks.length
  · rw [List.getElem?_append_left (by omega)] at hx
    obtain ⟨o, e, dx, h⟩ := ob.2 i x (W.brks[i]).vals hx (by rw [List.getElem?_map, List.getElem?_eq_getElem hi]; rfl)
    refine ⟨(W.brks[i]).name, o, CB, dx, _, ?_, e, h, TB.cls, TB.no _ (by decide +kernel), look_zip (i := 0) brk_nd rfl rfl⟩
    unfold Wld.vnames
    rw [List.getElem?_append_left (by rw [List.length_map]; exact hi), List.getElem?_map, List.getElem?_eq_getElem hi]
    rfl
  · rw [List.getElem?_append_right (by omega)] at hx
    have hj : i - xb.length < W.shps.length := by
      have := (List.getElem?_eq_some_iff.mp hx).1
      omega
    obtain ⟨o, e, dx, h⟩ := os.2 _ x (W.shps[i - xb.length]).vals hx (by rw [List.getElem?_map, List.getElem?_eq_getElem hj]; rfl)
    refine ⟨(W.shps[i - xb.length]).name, o, CS, dx, _, ?_, e, h, TS.cls, TS.no _ (by decide +kernel), look_zip (i := 0) shp_nd rfl rfl⟩
    unfold Wld.vnames
    rw [List.getElem?_append_right (by rw [List.length_map]; omega), List.length_map, List.getElem?_map, ← l1, List.getElem?_eq_getElem hj]
    rfl
def spIsEntry (K : PySem.W.Frag) : Sp := fun vs H Q _ => ∃ (lo : Int) (c t : Addr) (chs : List (List Nat)) (e : Ent), vs = [.int lo, .ref c, .ref t] ∧ SqA K H c (txts chs) ∧ H t = some (.tup (entV e)) ∧ lo ≤ e.1 ∧ e.1 ≤ 100000000 ∧ e.2 ∈ chs ∧ Q (.bl true) H
def spAreEntries (K : PySem.W.Frag) : Sp := fun vs H Q _ => ∃ (lo : Int) (c a : Addr) (chs : List (List Nat)) (ys : List V) (es : List Ent), vs = [.int lo, .ref c, .ref a] ∧ SqA K H c (txts chs) ∧ SqA K H a ys ∧ RowsIs H ys (es.map entV) ∧ Rise chs lo es ∧ ∀ H', Same H H' → Q (.bl true) H'
def spIsTable (K : PySem.W.Frag) (k : KA) : Sp := fun vs H Q _ => ∃ (p a : Addr) (W : Wld) (T : Tab), vs = [.ref p, .ref a] ∧ WldAt k H p W ∧ W.Good ∧ TabAt K H a T ∧ TGood W T ∧ ∀ H', Same H H' → Q (.bl true) H'
def spTableTold (K : PySem.W.Frag) (k : KA) : Sp := fun vs H Q _ => ∃ (p a : Addr) (W : Wld) (T : Tab), vs = [.ref p, .ref a] ∧ WldAt k H p W ∧ W.Good ∧ TabAt K H a T ∧ TGood W T ∧ ∀ b H', H b = none → Same H H' → TabL H' b (tabTold W T) → Q (.ref b) H'
def spChannels (k : KA) : Sp := fun vs H Q _ => ∃ (p : Addr) (W : Wld) (xc xb xs : List V), vs = [.ref p] ∧ WldF k.W H p W xc xb xs ∧ xc.length ≤ 12 ∧ ∀ a H', H a = none → Same H H' → H' a = some (.lst xc) → Q (.ref a) H'
section
variable {P : Program} {w : World} {K : PySem.W.Frag} {mg : Str → Option Value} {base : Heap}
theorem ok_channels {k : KA} {f : Addr} {fd : FuncData} (F : Fun K "channels" "World.channels" s_World_channels f fd) (B : Blt mg) (TW : Cl K k.W wldK) : FnOk P w K mg base CX0 1 f fd ["self"] (spChannels k) := by
  refine F.ok sc_World_channels (fun vs H Q E h => ?_) (fun cdv A outer s H vs Q E hr h => ?_)
  · obtain ⟨p, W, xc, xb, xs, rfl, _⟩ := h
    rfl
  · obtain ⟨p, W, xc, xb, xs, rfl, ⟨dx, lp, lc, lb, ls, h1, h2, h3, h4, h5⟩, hl, q⟩ := h
    refine ⟨_, (pss_one (ps_ret (pe_callTy call_list_of (by rfl) B.list (by decide +kernel) (pa_cons (pe_fld (pv 0) rfl) pa_nil)))), ?_⟩
    refine ⟨_, rfl, ?_⟩
    refine ⟨_, _, _, _, _, rfl, h1, Cl.cls TW, Cl.no TW _ (by decide +kernel), look_zip (i := 2) wld_nd rfl rfl, ?_⟩
    refine ⟨lc, _, rfl, SqA.l h3, fun l hl => ?_⟩
    generalize hXq : upd _ l _ = H1
    have s1 := laid_same hXq hl
    have e1 := laid_at hXq
    clear hXq
    exact q l H1 hl s1 e1
theorem ok_isEntry {f : Addr} {fd : FuncData} (F : Fun K "is_entry" "is_entry" s_is_entry f fd) (B : Blt mg) (gL : GI mg "LAST_HOUR" 100000000) (DW : Dn P w K mg base CX0 2 "is_within" ["thing", "low", "high"] (spWithin K)) : FnOk P w K mg base CX0 3 f fd ["begin", "channels", "thing"] (spIsEntry K) := by
  refine F.ok sc_is_entry (fun vs H Q E h => ?_) (fun cdv A outer s H vs Q E hr h => ?_)
  · obtain ⟨lo, c, t, chs, e, rfl, _⟩ := h
    rfl
  · obtain ⟨lo, c, t, chs, e, rfl, hc, ht, h1, h2, h3, q⟩ := h
    refine ⟨_, (pss_cons (ps_if (PW.pt (pw_or (pt_not (pt_val (pe_callB call_isi (by rfl) B.isi (by decide +kernel) (pa_cons (pv 2) (pa_cons (pe_bltn (v := .ty "tuple") (by rfl) B.tuple (by decide +kernel) rfl) pa_nil))))) (pw_or1 (pt_cmpR op_ne (pe_callB call_len_seq (by rfl) B.len PySem.boot_len (pa_cons (pv 2) pa_nil)) pe_int (nomark _))))) (pss_one (ps_ret pe_bl)) pss_nil)
      (pss_one (ps_ret (pe_and (pe_d DW (hr.mono (by decide)) (by rfl) pass0 (pa_cons (pe_ix ix_tup (pv 2) pe_int (fun _ _ => rfl)) (pa_cons (pv 0) (pa_cons (C8.pe_gc (by rfl) gL) pa_nil)))) (pe_and (pe_callB call_isi (by rfl) B.isi (by decide +kernel) (pa_cons (pe_ix ix_tup (pv 2) pe_int (fun _ _ => rfl)) (pa_cons (pe_bltn (v := .ty "str") (by rfl) B.str (by decide +kernel) rfl) pa_nil))) (pe_one (pe_cmpR op_in_seq (pe_ix ix_tup (pv 2) pe_int (fun _ _ => rfl)) (pv 1) (by rfl)))))))), ?_⟩
    refine ⟨_, rfl, _, _, _, _, true, rfl, .ty "tuple", .base (.tup ht), kit_ty (by decide +kernel), true, rfl, iteF ?_⟩
    refine ⟨_, rfl, t, _, rfl, SqA.t ht, rfl, _, rfl, iteF ?_⟩
    refine ⟨_, rfl, t, _, 0, _, rfl, rfl, .inl (.inl ht), rfl, _, rfl, _, _, _, rfl, .inl ⟨_, rfl, ?_⟩⟩
    rw [decide_eq_true h1, decide_eq_true h2]
    refine ⟨true, rfl, iteT ?_⟩
    refine ⟨_, rfl, t, _, 1, _, rfl, rfl, .inl (.inl ht), rfl, _, _, _, _, true, rfl, .ty "str", .base (.str _), kit_ty (by decide +kernel), true, rfl, iteT ?_⟩
    refine ⟨_, rfl, t, _, 1, _, rfl, rfl, .inl (.inl ht), rfl, _, rfl, c, _, rfl, hc, rfl, flat_txts, ?_⟩
    rw [inV_txts h3]
    exact q
theorem ok_areEntries {f : Addr} {fd : FuncData} (F : Fun K "are_entries" "are_entries" s_are_entries f fd) (B : Blt mg) (DE : Dn P w K mg base CX0 3 "is_entry" ["begin", "channels", "thing"] (spIsEntry K)) : FnOk P w K mg base CX0 4 f fd ["begin", "channels", "thing"] (spAreEntries K) := by
  refine F.ok sc_are_entries (fun vs H Q E h => ?_) (fun cdv A outer s H vs Q E hr h => ?_)
  · obtain ⟨lo, c, t, chs, e, es, rfl, _⟩ := h
    rfl
  · obtain ⟨lo, c, a, chs, ys, es, rfl, hc, ha, hy, hR, q⟩ := h
    refine ⟨_, (pss_cons (ps_if (pt_not (pt_val (pe_callB call_isiT (by rfl) B.isi (by decide +kernel) (pa_cons (pv 2) (pa_cons (pe_tup (pa_cons (pe_bltn (v := .ty "list") (by rfl) B.list (by decide +kernel) rfl) (pa_cons (pe_bltn (v := .ty "tuple") (by rfl) B.tuple (by decide +kernel) rfl) pa_nil))) pa_nil))))) (pss_one (ps_ret pe_bl)) pss_nil)
      (pss_cons (ps_set (i := 3) sc_are_entries.nd rfl (.inl rfl) (pe_op op_sub (pv 0) pe_int))
      (pss_cons (ps_for PassesOwn.never rfl (pi_seq (pv 2)) (pg_name (i := 4) sc_are_entries.nd rfl (.inl rfl))
      (pss_cons (ps_if (PW.pt (pw_or (pt_not (pt_val (pe_d DE (hr.mono (by decide)) (by rfl) pass0 (pa_cons (pv 0) (pa_cons (pv 1) (pa_cons (pv 4) pa_nil)))))) (pw_or1 (pt_cmpR op_le (pe_ix ix_tup (pv 4) pe_int (fun _ _ => rfl)) (pv 3) (nomark _))))) (pss_one (ps_ret pe_bl)) pss_nil)
      (pss_one (ps_set (i := 3) sc_are_entries.nd rfl (.inl rfl) (pe_ix ix_tup (pv 4) pe_int (fun _ _ => rfl))))))
      (pss_one (ps_ret pe_bl))))), ?_⟩
    refine ⟨_, rfl, ?_⟩
    refine ⟨Nat.le_of_ble_eq_true rfl, fun t ht => ?_⟩
    generalize hXq : upd _ t _ = H1
    have s1 := laid_same hXq ht
    have e1 := laid_at hXq
    clear hXq
    obtain ⟨ty, t1, t2⟩ := sqA_ty (ha.same s1)
    refine ⟨_, _, _, _, _, true, rfl, e1, .cons (.ty _) (.cons (.ty _) .nil), t1, t2, true, rfl, iteF ?_⟩
    refine ⟨_, rfl, _, _, rfl, rfl, ?_⟩
    refine ⟨_, rfl, a, rfl, for_seq (ha.same s1) (fun i σ H' => ∃ n y, σ = [some (.int lo), some (.ref c), some (.ref a), some (.int n), y] ∧ Same H1 H' ∧ Rise chs (n + 1) (es.drop i) ∧ lo ≤ n + 1) ⟨_, _, rfl, Same.refl _, by rw [Int.sub_add_cancel]; exact hR, by omega⟩ ?_ ?_ ?_⟩
    · rintro i σ H' ⟨n, y, rfl, s, _⟩
      exact Same.kp s
    · rintro i x σ H' hx ⟨n, y, rfl, s, hr', hn⟩
      have hi : i < es.length := by
        have h1 := (List.getElem?_eq_some_iff.mp hx).1
        have h2 := hy.1
        rw [List.length_map] at h2
        omega
      rw [List.drop_eq_getElem_cons hi] at hr'
      obtain ⟨r1, r2, r3, r4⟩ := hr'
      obtain ⟨b, rfl, hb⟩ := (hy.same (s1.trans s)).2 i x (entV es[i]) hx (by rw [List.getElem?_map, List.getElem?_eq_getElem hi]; rfl)
      refine ⟨_, rfl, _, rfl, _, rfl, lo, c, b, chs, es[i], rfl, hc.same (s1.trans s), hb, by omega, r2, r3, true, rfl, iteF ?_⟩
      refine ⟨_, rfl, b, _, 0, _, rfl, rfl, .inl (.inl hb), rfl, _, rfl, _, _, rfl, rfl, _, rfl, ?_⟩
      rw [decide_eq_false (show ¬ es[i].1 ≤ n by omega)]
      refine iteF ?_
      refine ⟨_, rfl, b, _, 0, _, rfl, rfl, .inl (.inl hb), rfl, ?_⟩
      exact ⟨_, _, rfl, s, r4, by omega⟩
    · rintro σ H' ⟨n, y, rfl, s, _⟩
      exact q H' (s1.trans s)
theorem ok_isTable {k : KA} {f : Addr} {fd : FuncData} (F : Fun K "is_table" "is_table" s_is_table f fd) (B : Blt mg) (TW : Cl K k.W wldK) (TC : Cl K k.C chanK) (TB : Cl K k.B brkK) (TS : Cl K k.S shpK) (MV : Me P w K mg base CX0 1 k.W "vessels" ["self"] (spVessels k))
    (MC : Me P w K mg base CX0 1 k.W "channels" ["self"] (spChannels k)) (MB : Me P w K mg base CX0 1 k.W "begin_hour" ["self"] (spBegin k)) (DA : Dn P w K mg base CX0 4 "are_entries" ["begin", "channels", "thing"] (spAreEntries K)) : FnOk P w K mg base CX0 5 f fd ["world", "thing"] (spIsTable K k) := by
  refine F.ok sc_is_table (fun vs H Q E h => ?_) (fun cdv A outer s H vs Q E hr h => ?_)
  · obtain ⟨p, a, W, T, rfl, _⟩ := h
    rfl
  · obtain ⟨p, a, W, T, rfl, ⟨xc, xb, xs, hF, oc, ob, os⟩, g, ⟨vs, ha, hv⟩, tg, q⟩ := h
    refine ⟨_, (pss_cons (ps_if (pt_not (pt_val (pe_callB call_isi (by rfl) B.isi (by decide +kernel) (pa_cons (pv 1) (pa_cons (pe_bltn (v := .ty "dict") (by rfl) B.dict (by decide +kernel) rfl) pa_nil))))) (pss_one (ps_ret pe_bl)) pss_nil)
      (pss_cons (ps_setLc (i := 2) (own := [("vessel", 6)]) (g := gName 6) (tt := tYes) rfl sc_is_table.nd rfl rfl (by rfl) (pi_seq (pe_me0 MV TW.cls (hr.mono (by decide)) pass0 (pv 0))) (blkOk_by (N := ["world", "thing", "names", "channels", "name", "entries", "vessel", "channel"]) (sc := defScope s_is_table) (by decide +kernel)) (fun _ _ _ _ _ => pg_name (i := 6) sc_is_table.nd rfl (Or.inl rfl)) (fun _ _ _ _ _ => pts_nil) (fun _ _ _ _ _ => (pe_fldK (K := K) rfl (pv 6) rfl)))
      (pss_cons (ps_setLc (i := 3) (own := [("channel", 7)]) (g := gName 7) (tt := tYes) rfl sc_is_table.nd rfl rfl (by rfl) (pi_seq (pe_me0 MC TW.cls (hr.mono (by decide)) pass0 (pv 0))) (blkOk_by (N := ["world", "thing", "names", "channels", "name", "entries", "vessel", "channel"]) (sc := defScope s_is_table) (by decide +kernel)) (fun _ _ _ _ _ => pg_name (i := 7) sc_is_table.nd rfl (Or.inl rfl)) (fun _ _ _ _ _ => pts_nil) (fun _ _ _ _ _ => (pe_fldK (K := K) rfl (pv 7) rfl)))
      (pss_cons (ps_lock (ps_for PassesOwn.never rfl (pi_items (pv 1)) (pg_tup rfl (pgs_cons (pg_name (i := 4) sc_is_table.nd rfl (.inl rfl)) (pgs_cons (pg_name (i := 5) sc_is_table.nd rfl (.inl rfl)) pgs_nil)))
      (pss_cons (ps_if (PW.pt (pw_or (pt_not (pt_val (pe_callB call_isi (by rfl) B.isi (by decide +kernel) (pa_cons (pv 4) (pa_cons (pe_bltn (v := .ty "str") (by rfl) B.str (by decide +kernel) rfl) pa_nil))))) (pw_or1 (pt_cmpR op_notIn_seq (pv 4) (pv 2) (by rfl))))) (pss_one (ps_ret pe_bl)) pss_nil)
      (pss_one (ps_if (pt_not (pt_val (pe_d DA (hr.mono (by decide)) (by rfl) pass0 (pa_cons (pe_me0 MB TW.cls (hr.mono (by decide)) pass0 (pv 0)) (pa_cons (pv 3) (pa_cons (pv 5) pa_nil)))))) (pss_one (ps_ret pe_bl)) pss_nil)))))
      (pss_one (ps_ret pe_bl)))))), ?_⟩
    have lc1 : xc.length ≤ 12 := by rw [oc.1, List.length_map]; exact g.chans
    have lb1 : xb.length ≤ 4 := by rw [ob.1, List.length_map]; exact g.brks
    have ls1 : xs.length ≤ 6 := by rw [os.1, List.length_map]; exact g.shps
    obtain ⟨dx, lp, lc, lb, ls, hp, _⟩ := id hF
    refine ⟨_, rfl, _, _, _, _, true, rfl, .ty "dict", .base (.dK ha), kit_ty (by decide +kernel), true, rfl, iteF ?_⟩
    refine ⟨_, rfl, p, dx, _, rfl, hp, look_no (by decide +kernel), p, W, xc, xb, xs, rfl, hF, by omega, fun l H1 hl s1 e1 => ?_⟩
    refine ⟨l, rfl, lc_map (fun x y _ => ∃ p C dx fs, x = .ref p ∧ H p = some (.ins C dx fs) ∧ fs.lookup ("name" : Str) = some y) (.l e1) (Nat.lt_of_le_of_lt (by rw [List.length_append]; omega : (xb ++ xs).length ≤ 100) (by decide)) (fun _ _ _ _ _ e => e) (fun _ _ _ _ _ _ e => e) ?_ ?_⟩
    · intro x H3 kk hx s3 kq
      rcases List.mem_append.mp hx with hx | hx
      · obtain ⟨o, c, rfl, _, dy, e⟩ := ob.mem hx
        refine ⟨rfl, _, rfl, ?_⟩
        refine ⟨_, _, _, _, _, rfl, (s3 _ _ (s1 _ _ e)), Cl.cls TB, Cl.no TB _ (by decide +kernel), look_zip (i := 0) brk_nd rfl rfl, ?_⟩
        exact kq _ _ (Same.refl _) ⟨o, _, dy, _, rfl, e, look_zip (i := 0) brk_nd rfl rfl⟩
      · obtain ⟨o, c, rfl, _, dy, e⟩ := os.mem hx
        refine ⟨rfl, _, rfl, ?_⟩
        refine ⟨_, _, _, _, _, rfl, (s3 _ _ (s1 _ _ e)), Cl.cls TS, Cl.no TS _ (by decide +kernel), look_zip (i := 0) shp_nd rfl rfl, ?_⟩
        exact kq _ _ (Same.refl _) ⟨o, _, dy, _, rfl, e, look_zip (i := 0) shp_nd rfl rfl⟩
    intro D2 ys H8 hD2 s8 hy e
    obtain ⟨e3, e2⟩ := e.split
    have z1 := flds_of (k := "name") (j := 0) (f := fun c : Brk => V.str (S c.name)) brk_nd rfl (fun _ => rfl) ob e3
    have z2 := flds_of (k := "name") (j := 0) (f := fun c : Shp => V.str (S c.name)) shp_nd rfl (fun _ => rfl) os e2
    have z3 := List.take_append_drop xb.length ys
    rw [z1, z2] at z3
    have hN : H8 D2 = some (.lst (txts W.vnames)) := by
      rw [hy, ← z3, txts, Wld.vnames, List.map_append, List.map_map, List.map_map]
      rfl
    have sm := s1.trans s8
    clear hy e e2 e3 z1 z2 z3 e1
    refine ⟨_, rfl, p, dx, _, rfl, sm _ _ hp, look_no (by decide +kernel), p, W, xc, xb, xs, rfl, hF.same sm, by omega, fun l H9 hl s1 e1 => ?_⟩
    refine ⟨l, rfl, lc_map (fun x y _ => ∃ p C dx fs, x = .ref p ∧ H p = some (.ins C dx fs) ∧ fs.lookup ("name" : Str) = some y) (.l e1) (Nat.lt_of_le_of_lt lc1 (by decide)) (fun _ _ _ _ _ e => e) (fun _ _ _ _ _ _ e => e) ?_ ?_⟩
    · intro x H3 kk hx s3 kq
      obtain ⟨o, c, rfl, _, dy, e⟩ := oc.mem hx
      refine ⟨rfl, _, rfl, ?_⟩
      refine ⟨_, _, _, _, _, rfl, (s3 _ _ (s1 _ _ (sm _ _ e))), Cl.cls TC, Cl.no TC _ (by decide +kernel), look_zip (i := 0) chan_nd rfl rfl, ?_⟩
      exact kq _ _ (Same.refl _) ⟨o, _, dy, _, rfl, e, look_zip (i := 0) chan_nd rfl rfl⟩
    intro D3 ys H10 hD3 s10 hy e
    obtain rfl := flds_of (k := "name") (j := 0) (f := fun c : Chan => V.str (S c.name)) chan_nd rfl (fun _ => rfl) oc e
    have hM : H10 D3 = some (.lst (txts W.cnames)) := by rw [hy, txts, Wld.cnames, List.map_map]; rfl
    have hN := s10 _ _ (s1 _ _ hN)
    have sm := sm.trans (s1.trans s10)
    clear hy e e1
    have ha := sm _ _ ha
    refine ⟨a, _, ha, trivial, fun od => ?_⟩
    refine ⟨_, rfl, a, od, _, rfl, upd_same, ?_⟩
    refine for_it walk_items (fun i σ H' => ∃ y z u t, σ = [some (.ref p), some (.ref a), some (.ref D2), some (.ref D3), y, z, u, t] ∧ Bar a (upd H10 a (.frz od (.dK (kvsOf T vs)))) H' ∧ H' a = some (.frz od (.dK (kvsOf T vs)))) ⟨_, _, _, _, rfl, Bar.refl, upd_same⟩ (fun i σ H' _ ⟨_, _, _, _, _, _, e⟩ => e) ?_ ?_
    · rintro i x σ H' H2 hi ⟨_, _, _, _, rfl, b, hf⟩ ⟨t, kx, v, rfl, ht, rfl, hk, hvx⟩
      have hi2 : i < T.length := by
        have : (kvsOf T vs).length = T.length := by unfold kvsOf; rw [List.length_zip, List.length_map, hv.1, Nat.min_self]
        omega
      have hkv : (kvsOf T vs)[i]? = some (.inr (S T[i].1), vs[i]'(by rw [hv.1]; exact hi2)) := by
        unfold kvsOf
        rw [List.getElem?_eq_getElem (by rw [List.length_zip, List.length_map, hv.1, Nat.min_self]; exact hi2), List.getElem_zip, List.getElem_map]
      dsimp only at hk hvx
      rw [hkv] at hk hvx
      obtain rfl : kx = .str (S T[i].1) := (Option.some.inj hk).symm
      obtain rfl : v = vs[i]'(by rw [hv.1]; exact hi2) := (Option.some.inj hvx).symm
      have hm : T[i] ∈ T := List.getElem_mem hi2
      have nta : t ≠ a := fun z => by rw [z, hf] at ht; cases ht
      have b0 : Bar a H10 (upd H10 a (.frz od (.dK (kvsOf T vs)))) := Bar.at_
      have b2 : Bar a H10 (upd H' t (.tup [.str (S T[i].1), vs[i]'(by rw [hv.1]; exact hi2)])) := b0.trans (b.trans (Bar.new ht))
      generalize hX : upd H' t _ = H2 at b2 ⊢
      have e2 := laid_at hX
      have hf2 : H2 a = some (.frz od (.dK (kvsOf T vs))) := laid_same hX ht _ _ hf
      have b3 : Bar a (upd H10 a (.frz od (.dK (kvsOf T vs)))) H2 := b.trans (Bar.same (laid_same hX ht))
      clear hX
      obtain ⟨l, ys, ev, hl, hr2⟩ := ((hv.same sm).bar b2 ha).2 i _ T[i] (by rw [List.getElem?_eq_getElem (by rw [hv.1]; exact hi2)]) (List.getElem?_eq_getElem hi2)
      have nN : D2 ≠ a := fun z => by rw [z, ha] at hN; cases hN
      have nM : D3 ≠ a := fun z => by rw [z, ha] at hM; cases hM
      have np : p ≠ a := fun z => by rw [z] at hp; rw [sm _ _ hp] at ha; cases ha
      have hF2 : WldF k.W H2 p W xc xb xs := by
        obtain ⟨dx, lp, lc, lb, ls, h1, h2, h3, h4, h5⟩ := hF.same sm
        have ne : ∀ {x o}, H10 x = some o → (∀ kv, o ≠ .dK kv) → x ≠ a := fun h n z => by rw [z, ha] at h; exact n _ (Option.some.inj h).symm
        exact ⟨dx, lp, lc, lb, ls, b2 _ _ (ne h1 fun _ z => by cases z) h1, b2 _ _ (ne h2 fun _ z => by cases z) h2, b2 _ _ (ne h3 fun _ z => by cases z) h3, b2 _ _ (ne h4 fun _ z => by cases z) h4, b2 _ _ (ne h5 fun _ z => by cases z) h5⟩
      refine ⟨t, _, rfl, .inl (.inl e2), rfl, _, _, rfl, _, _, rfl, rfl, ?_⟩
      refine ⟨_, rfl, _, _, _, _, true, rfl, .ty "str", .base (.str _), kit_ty (by decide +kernel), true, rfl, iteF ?_⟩
      refine ⟨_, rfl, _, rfl, D2, _, rfl, .inl (.inl (.inl (b2 _ _ nN hN))), rfl, flat_txts, ?_⟩
      rw [inV_txts (tg.ves _ hm)]
      refine ⟨_, rfl, iteF ?_⟩
      refine ⟨_, rfl, p, dx, _, rfl, b2 _ _ np (sm _ _ hp), look_no (by decide +kernel), p, W, xc, xb, xs, rfl, hF2, ?_⟩
      refine ⟨_, rfl, _, rfl, W.begin, D3, l, W.cnames, ys, T[i].2, by rw [ev], .l (b2 _ _ nM hM), hl, hr2, tg.rise _ hm, fun H5 s5 => ?_⟩
      refine ⟨true, rfl, iteF ?_⟩
      exact ⟨_, _, _, _, rfl, b3.trans (Bar.same s5), s5 _ _ hf2⟩
    · rintro σ H' ⟨_, _, _, _, rfl, b, hf⟩
      exact ⟨hf, q _ (sm.trans (lock_same b ha))⟩
theorem ok_tableTold {k : KA} {f : Addr} {fd : FuncData} (F : Fun K "table_told" "table_told" s_table_told f fd) (B : Blt mg) (TB : Cl K k.B brkK) (TS : Cl K k.S shpK) (TW : Cl K k.W wldK) (MV : Me P w K mg base CX0 1 k.W "vessels" ["self"] (spVessels k))
    (DT : Dn P w K mg base CX0 5 "is_table" ["world", "thing"] (spIsTable K k)) : FnOk P w K mg base CX0 6 f fd ["world", "table"] (spTableTold K k) := by
  refine F.ok sc_table_told (fun vs H Q E h => ?_) (fun cdv A outer s H vs Q E hr h => ?_)
  · obtain ⟨p, a, W, T, rfl, _⟩ := h
    rfl
  · obtain ⟨p, a, W, T, rfl, hW, g, hT, tg, q⟩ := h
    have hu := room_u1 hr
    have hu2 := hr.units
    refine ⟨_, (pss_cons (ps_if (pt_not (pt_val (pe_d DT (hr.mono (by decide)) (by rfl) pass0 (pa_cons (pv 0) (pa_cons (pv 1) pa_nil))))) pss_dead pss_nil)
      (pss_cons (ps_set (i := 2) sc_table_told.nd rfl (.inl rfl) pe_dnewK)
      (pss_cons (ps_for PassesOwn.never rfl (pi_seq (pe_me0 MV TW.cls (hr.mono (by decide)) pass0 (pv 0))) (pg_name (i := 3) sc_table_told.nd rfl (.inl rfl))
      (pss_cons (ps_set (i := 4) sc_table_told.nd rfl (.inl rfl) (pe_callTy call_list_of (by rfl) B.list (by decide +kernel) (pa_cons (pe_dget2 hu (pv 1) (pe_fld (pv 3) rfl) (pe_tup pa_nil) ⟨rfl, rfl, rfl, rfl⟩) pa_nil)))
      (pss_one (ps_if (pt_cmpR (op_neD hu2) (pv 4) (pe_lst pa_nil) (nomark _)) (pss_one (ps_dput hu (pv 2) (pe_fld (pv 3) rfl) (pv 4) rfl)) pss_nil))))
      (pss_one (ps_ret (pv 2)))))), ?_⟩
    obtain ⟨xc, xb, xs, hF, oc, ob, os⟩ := id hW
    have lb1 : xb.length ≤ 4 := by rw [ob.1, List.length_map]; exact g.brks
    have ls1 : xs.length ≤ 6 := by rw [os.1, List.length_map]; exact g.shps
    obtain ⟨dx, lp, lc, lb, ls, hp, _⟩ := id hF
    refine ⟨_, rfl, _, rfl, p, a, W, T, rfl, hW, g, hT, tg, fun H1 s1 => ?_⟩
    refine ⟨true, rfl, iteF ?_⟩
    intro d hd
    generalize hXq : upd _ d _ = H2
    have s2 := laid_same hXq hd
    have e2 := laid_at hXq
    clear hXq
    have sm := s1.trans s2
    refine ⟨_, rfl, p, dx, _, rfl, sm _ _ hp, look_no (by decide +kernel), p, W, xc, xb, xs, rfl, hF.same sm, by omega, fun l H3 hl s3 e3 => ?_⟩
    have sm := sm.trans s3
    obtain ⟨vs, ha, hv⟩ := hT.same sm
    have hOb := ob.same sm
    have hOs := os.same sm
    refine ⟨l, rfl, for_seq (.l e3) (fun i σ H' => ∃ y z, σ = [some (.ref p), some (.ref a), some (.ref d), y, z] ∧ Bar d H3 H' ∧ ∃ us, H' d = some (.dK (kvsOf (((W.vnames.take i).map fun n => (n, entsOf T n)).filter fun e => !e.2.isEmpty) us)) ∧ ValsL H' us (((W.vnames.take i).map fun n => (n, entsOf T n)).filter fun e => !e.2.isEmpty))
      ⟨_, _, rfl, Bar.refl, [], s3 _ _ e2, rfl, fun i v e h1 _ => by simp at h1⟩ ?_ ?_ ?_⟩
    · rintro i σ H' ⟨_, _, rfl, b, _⟩
      exact kp_bar b (s3 _ _ e2)
    · rintro i x σ H' hx ⟨_, _, rfl, b, us, hd', hus⟩
      have e2' := s3 _ _ e2
      obtain ⟨n, o, C, dy, fs, hn, rfl, ho, c1, c2, c3⟩ := ves_at TB TS hOb hOs hx
      have hi : i < W.vnames.length := (List.getElem?_eq_some_iff.mp hn).1
      have od : o ≠ d := fun z => by rw [z, e2'] at ho; cases ho
      have ad : a ≠ d := fun z => by
        obtain ⟨_, q0, _⟩ := hT
        rw [z] at q0
        rw [s1 _ _ q0] at hd
        cases hd
      have ho' := b _ _ od ho
      have ha' := b _ _ ad ha
      have hv' := hv.bar b e2'
      have tk : W.vnames.take (i + 1) = W.vnames.take i ++ [n] := by rw [List.take_succ, hn]; rfl
      have nn : ∀ e ∈ (((W.vnames.take i).map fun n => (n, entsOf T n)).filter fun e => !e.2.isEmpty), e.1 ≠ n := by
        intro e he z
        obtain ⟨n', hn', rfl⟩ := List.mem_map.mp (List.mem_filter.mp he).1
        have nd := g.vnd
        have hnd : W.vnames.Nodup := nd
        obtain ⟨j, hj⟩ := List.getElem?_of_mem hn'
        rw [List.getElem?_take] at hj
        split at hj
        · have hjl : j < W.vnames.length := (List.getElem?_eq_some_iff.mp hj).1
          have z' : n' = n := z
          subst z'
          have := (List.getElem?_inj hjl hnd).mp (hj.trans hn.symm)
          omega
        · cases hj
      refine ⟨_, rfl, a, rfl, .inl ⟨_, .inl ha'⟩, ?_⟩
      refine ⟨_, rfl, o, C, dy, fs, _, rfl, ho', c1, c2, c3, ?_⟩
      refine ⟨Nat.le_of_ble_eq_true rfl, fun e0 he0 => ?_⟩
      generalize hXq : upd _ e0 _ = H4
      have s4 := laid_same hXq he0
      have e4 := laid_at hXq
      clear hXq
      have ha4 := s4 _ _ ha'
      refine ⟨_, DGet.k (k := .inr (S n)) ha4, ?_⟩
      have key : ∃ b' ys, (valV (kvsOf T vs) (.inr (S n))).getD (.ref e0) = .ref b' ∧ SqA K H4 b' ys ∧ RowsIs H4 ys ((entsOf T n).map entV) := by
        rcases ents_val (hv'.same s4) (n := n) with ⟨h1, h2⟩ | ⟨b', ys, h1, h2, h3⟩
        · rw [h1, h2]
          exact ⟨e0, [], rfl, .t e4, rfl, fun i y r h _ => by simp at h⟩
        · rw [h1]
          exact ⟨b', ys, rfl, h2, h3⟩
      obtain ⟨b', ys, h1, h2, h3⟩ := key
      rw [h1]
      refine ⟨b', ys, rfl, h2, fun l2 hl2 => ?_⟩
      generalize hXq : upd _ l2 _ = H5
      have s5 := laid_same hXq hl2
      have e5 := laid_at hXq
      clear hXq
      refine ⟨_, rfl, ?_⟩
      refine ⟨Nat.le_of_ble_eq_true rfl, fun l3 hl3 => ?_⟩
      generalize hXq : upd _ l3 _ = H6
      have s6 := laid_same hXq hl3
      have e6 := laid_at hXq
      clear hXq
      have h3 := h3.same (s5.trans s6)
      have e5 := s6 _ _ e5
      have fine : ∀ e ∈ entsOf T n, PyData.strOk (S e.2) = true := by
        intro e he
        rcases entsOf_mem (T := T) (n := n) with z | ⟨x, hx, _, z⟩
        · rw [z] at he; cases he
        · rw [z] at he
          obtain ⟨c, hc, hc2⟩ := List.mem_map.mp ((tg.rise x hx).mem e he)
          rw [← hc2]
          exact name_ok (g.good c hc).name
      refine ⟨entsD (entsOf T n), .list [], .lst (.inl (.inl e5)) (dp_ents h3), .lst (.inl (.inl e6)) .nil, ents_shaped fine, by decide, ?_⟩
      rw [ents_eqv]
      refine ⟨_, rfl, ?_⟩
      have s46 := s4.trans (s5.trans s6)
      have hd6 := s46 _ _ hd'
      have b6 := b.trans (Bar.same (p := d) s46)
      by_cases hz : (entsOf T n).isEmpty = true
      · rw [hz]
        refine iteF ?_
        refine ⟨_, _, rfl, b6, us, ?_, ?_⟩
        · rw [tk, List.map_append, List.filter_append]
          simp only [List.map_cons, List.map_nil, List.filter_cons, hz, Bool.not_true, Bool.false_eq_true, if_false, List.filter_nil, List.append_nil]
          exact hd6
        · rw [tk, List.map_append, List.filter_append]
          simp only [List.map_cons, List.map_nil, List.filter_cons, hz, Bool.not_true, Bool.false_eq_true, if_false, List.filter_nil, List.append_nil]
          exact hus.same s46
      · have hz' : (entsOf T n).isEmpty = false := by simpa using hz
        rw [hz']
        refine iteT ?_
        have hlen : (kvsOf (((W.vnames.take i).map fun n => (n, entsOf T n)).filter fun e => !e.2.isEmpty) us).length ≤ 100 := by
          unfold kvsOf
          have h1 := List.length_filter_le (fun e : List Nat × List Ent => !e.2.isEmpty) ((W.vnames.take i).map fun n => (n, entsOf T n))
          rw [List.length_map, List.length_take] at h1
          have h2 : W.vnames.length ≤ 10 := by
            unfold Wld.vnames
            rw [List.length_append, List.length_map, List.length_map]
            have := g.brks
            have := g.shps
            omega
          rw [List.length_zip, List.length_map]
          omega
        refine ⟨_, rfl, _, rfl, _, rfl, o, C, dy, fs, _, rfl, s46 _ _ ho', c1, c2, c3, d, _, rfl, DPut.k (k := .inr (S n)) hd6 (Nat.lt_of_le_of_lt hlen (by decide)), ?_⟩
        refine ⟨_, _, rfl, b6.trans Bar.at_, us ++ [.ref l2], ?_, ?_⟩
        · rw [upd_same, putK_new _ (val_none nn), tk, List.map_append, List.filter_append]
          simp only [List.map_cons, List.map_nil, List.filter_cons, hz', Bool.not_false, if_true, List.filter_nil]
          rw [kvsOf_snoc hus.1]
        · rw [tk, List.map_append, List.filter_append]
          simp only [List.map_cons, List.map_nil, List.filter_cons, hz', Bool.not_false, if_true, List.filter_nil]
          exact ((hus.same s46).snoc e5 h3).bar Bar.at_ hd6
    · rintro σ H' ⟨_, _, rfl, b, us, hd', hus⟩
      have hlen : (xb ++ xs).length = W.vnames.length := by
        rw [List.length_append, ob.1, os.1, Wld.vnames, List.length_append]
        simp
      rw [hlen, List.take_length] at hd' hus
      refine ⟨_, rfl, q d H' (none_back s1 hd) (fun c o e => ?_) ⟨us, hd', hus⟩⟩
      exact b c o (fun z => by rw [z] at e; rw [s1 _ _ e] at hd; cases hd) (sm _ _ e)
end
end Law
end
section
set_option Elab.async false
set_option linter.all false
set_option maxRecDepth 100000
set_option maxHeartbeats 4000000
namespace Law
open PySem PySem.Spec PyProof.Rows L2 IK SX
/-! ### what told rows give -/
theorem pass00 {X : Cx} : Passes (L2.CX X.prog X.w) X E0 := fun _ _ _ _ _ _ _ ⟨_, _, _, _, _, _, _, _, _, _, _, _, h⟩ => h.elim
/-- C's refusal of x -/
def raised (CN : Addr) (x : V) (H : Hp) (E : XK) : Prop := ∀ d H', Same H H' → H d = none → H' d = some (.xd [("found", x)]) → E (.ref CN) (some d) H'
theorem raised.mono {CN : Addr} {x : V} {H H' : Hp} {E : XK} (h : raised CN x H E) (s : Same H H') : raised CN x H' E := fun d H2 s2 hd e => h d H2 (s.trans s2) (none_back s hd) e
theorem cells_of {α : Type} {H0 : Hp} {l : List α} {row : α → List V} {f : α → V} {j : Nat} {xs ys : List V} (hf : ∀ a, (row a)[j]? = some (f a)) (hR : RowsIs H0 xs (l.map row))
    (hE : Each (fun x y => ∃ p r, x = .ref p ∧ H0 p = some (.tup r) ∧ r[j]? = some y) xs ys) : ys = l.map f := by
  have hlen : ys.length = l.length := by rw [hE.1, hR.1, List.length_map]
  refine List.ext_getElem? fun i => ?_
  rw [List.getElem?_map]
  cases e : l[i]? with
  | none =>
    have e2 : l.length ≤ i := List.getElem?_eq_none_iff.mp e
    rw [List.getElem?_eq_none_iff.mpr (by omega)]
    rfl
  | some a =>
    have hi : i < l.length := (List.getElem?_eq_some_iff.mp e).1
    have hx : i < xs.length := by rw [← hE.1]; omega
    have hy : i < ys.length := by omega
    obtain ⟨p, e1, o1⟩ := hR.2 i xs[i] (row a) (by simp [hx]) (by rw [List.getElem?_map, e]; rfl)
    obtain ⟨p', r, e2, o2, e3⟩ := hE.2 i xs[i] ys[i] (by simp [hx]) (by simp [hy])
    rw [e1] at e2
    injection e2 with e2
    subst e2
    rw [o1] at o2
    have e4 := Option.some.inj o2
    injection e4 with e4
    subst e4
    rw [hf a] at e3
    rw [List.getElem?_eq_getElem hy, ← Option.some.inj e3]
    rfl
theorem rows_map {α : Type} {H0 H : Hp} {l : List α} {row row' : α → List V} {xs ys : List V} (hv : ∀ a b, row a = row b → row' a = row' b) (hR : RowsIs H0 xs (l.map row))
    (hE : Each (fun x y => ∃ p b, x = .ref p ∧ H0 p = some (.tup (row b)) ∧ ∃ a, y = .ref a ∧ H a = some (.tup (row' b))) xs ys) : RowsIs H ys (l.map row') := by
  refine ⟨by rw [hE.1, hR.1, List.length_map, List.length_map], fun i y r hy hr => ?_⟩
  rw [List.getElem?_map] at hr
  cases e : l[i]? with
  | none => rw [e] at hr; cases hr
  | some a =>
    rw [e] at hr
    obtain rfl := Option.some.inj hr
    have hx : i < xs.length := by rw [← hE.1]; exact (List.getElem?_eq_some_iff.mp hy).1
    obtain ⟨p, e1, o1⟩ := hR.2 i xs[i] (row a) (by simp [hx]) (by rw [List.getElem?_map, e]; rfl)
    obtain ⟨p', b, e2, o2, q, e3, h3⟩ := hE.2 i xs[i] y (by simp [hx]) hy
    rw [e1] at e2
    injection e2 with e2
    subst e2
    rw [o1] at o2
    have e4 := Option.some.inj o2
    injection e4 with e4
    exact ⟨q, e3, by rw [hv _ _ e4]; exact h3⟩
end Law
end
section
set_option Elab.async false
set_option linter.all false
set_option maxRecDepth 100000
set_option maxHeartbeats 4000000
namespace Law
open PySem PySem.Spec PyProof.Rows L2 IK SX
theorem kvsOf_at {T : Tab} {vs : List V} {i : Nat} (hl : vs.length = T.length) (hi : i < T.length) : (kvsOf T vs)[i]? = some (.inr (S (T[i]).1), vs[i]'(by omega)) := by
  unfold kvsOf
  rw [List.getElem?_eq_getElem (by rw [List.length_zip, List.length_map, hl, Nat.min_self]; exact hi), List.getElem_zip, List.getElem_map]
theorem kvsOf_len {T : Tab} {vs : List V} (hl : vs.length = T.length) : (kvsOf T vs).length = T.length := by
  unfold kvsOf
  rw [List.length_zip, List.length_map, hl, Nat.min_self]
theorem tabTold_nd {W : Wld} (g : W.Good) (T : Tab) : ((tabTold W T).map (·.1)).Nodup := by
  have h : W.vnames.Nodup := g.vnd
  unfold tabTold
  have : ((W.vnames.map fun n => (n, entsOf T n)).filter fun e => !e.2.isEmpty).map (·.1) = W.vnames.filter fun n => !(entsOf T n).isEmpty := by
    rw [List.filter_map, List.map_map]
    simp [Function.comp_def]
  rw [this]
  exact h.filter _
theorem tabTold_mem {W : Wld} {T : Tab} {e : List Nat × List Ent} (h : e ∈ tabTold W T) : e.1 ∈ W.vnames ∧ e.2 ≠ [] ∧ ∃ x ∈ T, x.1 = e.1 ∧ x.2 = e.2 := by
  obtain ⟨h1, h2⟩ := List.mem_filter.mp h
  obtain ⟨n, hn, rfl⟩ := List.mem_map.mp h1
  have h2' : entsOf T n ≠ [] := by simpa using h2
  refine ⟨hn, h2', ?_⟩
  rcases entsOf_mem (T := T) (n := n) with z | ⟨x, hx, e1, e2⟩
  · exact absurd z h2'
  · exact ⟨x, hx, e1, e2.symm⟩
theorem tabTold_len {W : Wld} (g : W.Good) (T : Tab) : (tabTold W T).length ≤ 10 := by
  unfold tabTold
  refine Nat.le_trans (List.length_filter_le _ _) ?_
  rw [List.length_map, Wld.vnames, List.length_append, List.length_map, List.length_map]
  have := g.brks
  have := g.shps
  omega
/-- the told table is a good one -/
theorem tabTold_good {W : Wld} (g : W.Good) {T : Tab} (tg : TGood W T) : TGood W (tabTold W T) := by
  refine ⟨tabTold_nd g T, fun e he => (tabTold_mem he).1, fun e he => ?_, fun e he => ?_⟩
  · obtain ⟨_, _, x, hx, _, e2⟩ := tabTold_mem he
    rw [← e2]
    exact tg.rise x hx
  · obtain ⟨_, _, x, hx, _, e2⟩ := tabTold_mem he
    rw [← e2]
    exact tg.few x hx
theorem ValsL.unlock {H : Hp} {vs : List V} {T : Tab} {d : Addr} {o u : HO} (h : ValsL H vs T) (hd : H d = some o) (ho : (∀ l, o ≠ .lst l) ∧ ∀ l, o ≠ .tup l) : ValsL (upd H d u) vs T := ⟨h.1, fun i v e h1 h2 => by
  obtain ⟨b, ys, e1, e2, e3⟩ := h.2 i v e h1 h2
  refine ⟨b, ys, e1, ?_, e3.1, fun j y r h3 h4 => ?_⟩
  · rw [upd_ne (fun z => by rw [z, hd] at e2; exact ho.1 _ (Option.some.inj e2))]
    exact e2
  · obtain ⟨q, e4, e5⟩ := e3.2 j y r h3 h4
    refine ⟨q, e4, ?_⟩
    rw [upd_ne (fun z => by rw [z, hd] at e5; exact ho.2 _ (Option.some.inj e5))]
    exact e5⟩
/-- what is no list and no tuple may be locked -/
theorem ValsL.lock {H : Hp} {vs : List V} {T : Tab} {d : Addr} {kvs : List (Key × V)} {u : HO} (h : ValsL H vs T) (hd : H d = some (.dK kvs)) : ValsL (upd H d u) vs T := h.bar Bar.at_ hd
/-- a dict of new lists: new since H0 -/
def TabF (H0 H : Hp) (a : Addr) (T : Tab) : Prop := ∃ vs, H a = some (.dK (kvsOf T vs)) ∧ ValsL H vs T ∧ ∀ v ∈ vs, ∃ b, v = .ref b ∧ H0 b = none
theorem TabF.l {H0 H : Hp} {a : Addr} {T : Tab} (h : TabF H0 H a T) : TabL H a T := by
  obtain ⟨vs, h1, h2, _⟩ := h
  exact ⟨vs, h1, h2⟩
end Law
end
section
set_option Elab.async false
set_option linter.all false
set_option maxRecDepth 100000
set_option maxHeartbeats 4000000
namespace Law
open PySem PySem.Spec PyProof.Rows L2 IK SX
/-! ### names for names -/
abbrev NM := List (List Nat × List Nat)
def nmKvs (M : NM) : List (Key × V) := M.map fun e => (.inr (S e.1), .str (S e.2))
def ren (M : NM) (n : List Nat) : List Nat := match M.find? (fun e => e.1 == n) with
  | some e => e.2
  | none => n
structure NGood (ns : List (List Nat)) (M : NM) : Prop where
  len : M.length = ns.length
  all : ∀ n ∈ ns, ∃ e ∈ M, e.1 = n
  keys : (M.map (·.1)).Nodup
  vals : (M.map (·.2)).Nodup
  name : ∀ e ∈ M, isName e.2 = true
  few : ns.length ≤ 12
  mem : ∀ e ∈ M, e.1 ∈ ns
theorem nm_find : ∀ {M : NM} {e : List Nat × List Nat}, (M.map (·.1)).Nodup → e ∈ M → M.find? (fun x => x.1 == e.1) = some e
  | [], _, _, h => by cases h
  | a :: M, e, nd, h => by
    rw [List.map_cons, List.nodup_cons] at nd
    rw [List.find?_cons]
    rcases List.mem_cons.mp h with rfl | h
    · simp
    · have : (a.1 == e.1) = false := by
        rw [beq_eq_false_iff_ne]
        exact fun z => nd.1 (z ▸ List.mem_map_of_mem h)
      rw [this]
      exact nm_find nd.2 h
theorem ren_of {M : NM} {e : List Nat × List Nat} (nd : (M.map (·.1)).Nodup) (h : e ∈ M) : ren M e.1 = e.2 := by
  unfold ren
  rw [nm_find nd h]
theorem nm_val {M : NM} {e : List Nat × List Nat} (nd : (M.map (·.1)).Nodup) (h : e ∈ M) : valV (nmKvs M) (.inr (S e.1)) = some (.str (S e.2)) := by
  induction M with
  | nil => cases h
  | cons a M ih =>
    rw [List.map_cons, List.nodup_cons] at nd
    show valV ((_, _) :: _) _ = _
    rcases List.mem_cons.mp h with rfl | h
    · rw [valV_pos rfl]
    · rw [valV_neg (fun y => nd.1 (by injection y with y; rw [S_inj y]; exact List.mem_map_of_mem h))]
      exact ih nd.2 h
section
variable {ns : List (List Nat)} {M : NM}
theorem NGood.val (g : NGood ns M) {n : List Nat} (h : n ∈ ns) : valV (nmKvs M) (.inr (S n)) = some (.str (S (ren M n))) := by
  obtain ⟨e, he, rfl⟩ := g.all n h
  rw [nm_val g.keys he, ren_of g.keys he]
theorem NGood.at (g : NGood ns M) {n : List Nat} (h : n ∈ ns) : ∃ e ∈ M, e.1 = n ∧ ren M n = e.2 := by
  obtain ⟨e, he, rfl⟩ := g.all n h
  exact ⟨e, he, rfl, ren_of g.keys he⟩
theorem NGood.is (g : NGood ns M) {n : List Nat} (h : n ∈ ns) : isName (ren M n) = true := by
  obtain ⟨e, he, _, z⟩ := g.at h
  rw [z]
  exact g.name e he
theorem snd_inj : ∀ {M : NM} {a b : List Nat × List Nat}, (M.map (·.2)).Nodup → a ∈ M → b ∈ M → a.2 = b.2 → a = b
  | [], _, _, _, h, _, _ => by cases h
  | x :: M, a, b, nd, ha, hb, e => by
    rw [List.map_cons, List.nodup_cons] at nd
    have m : ∀ c ∈ M, c.2 ∈ M.map (·.2) := fun c hc => List.mem_map_of_mem hc
    rcases List.mem_cons.mp ha with e1 | ha'
    · rcases List.mem_cons.mp hb with e2 | hb'
      · rw [e1, e2]
      · exact absurd (by rw [← e1, e]; exact m b hb') nd.1
    · rcases List.mem_cons.mp hb with e2 | hb'
      · exact absurd (by rw [← e2, ← e]; exact m a ha') nd.1
      · exact snd_inj nd.2 ha' hb' e
theorem NGood.inj (g : NGood ns M) {a b : List Nat} (ha : a ∈ ns) (hb : b ∈ ns) (h : ren M a = ren M b) : a = b := by
  obtain ⟨e, he, rfl, z⟩ := g.at ha
  obtain ⟨e', he', rfl, z'⟩ := g.at hb
  rw [snd_inj g.vals he he' (by rw [← z, ← z', h])]
theorem nodup_map_on {α β : Type} {f : α → β} : ∀ {l : List α}, (∀ a ∈ l, ∀ b ∈ l, f a = f b → a = b) → l.Nodup → (l.map f).Nodup
  | [], _, _ => List.nodup_nil
  | a :: l, h, nd => by
    rw [List.nodup_cons] at nd
    rw [List.map_cons, List.nodup_cons]
    refine ⟨fun z => ?_, nodup_map_on (fun x hx y hy => h x (List.mem_cons_of_mem _ hx) y (List.mem_cons_of_mem _ hy)) nd.2⟩
    obtain ⟨b, hb, e⟩ := List.mem_map.mp z
    exact nd.1 (h b (List.mem_cons_of_mem _ hb) a List.mem_cons_self e ▸ hb)
theorem NGood.nodup (g : NGood ns M) {l : List (List Nat)} (hl : ∀ n ∈ l, n ∈ ns) (nd : l.Nodup) : (l.map (ren M)).Nodup := nodup_map_on (fun a ha b hb e => g.inj (hl a ha) (hl b hb) e) nd
end
def Chan.ren (P C : NM) (c : Chan) : Chan := { c with name := Law.ren C c.name, one := Law.ren P c.one, other := Law.ren P c.other }
def Brk.ren (P V : NM) (c : Brk) : Brk := { c with name := Law.ren V c.name, port := Law.ren P c.port }
def Shp.ren (P V : NM) (c : Shp) : Shp := { c with name := Law.ren V c.name, port := Law.ren P c.port, goal := Law.ren P c.goal }
def Wld.ren (P C V : NM) (W : Wld) : Wld := ⟨W.begin, W.ports.map (Law.ren P), W.chans.map (Chan.ren P C), W.brks.map (Brk.ren P V), W.shps.map (Shp.ren P V)⟩
theorem Wld.Good.ren {W : Wld} (g : W.Good) {P C V : NM} (gP : NGood W.ports P) (gC : NGood W.cnames C) (gV : NGood W.vnames V) : (W.ren P C V).Good := by
  have mb : ∀ c ∈ W.brks, c.name ∈ W.vnames := fun c hc => List.mem_append_left _ (List.mem_map_of_mem (f := fun b : Brk => b.name) hc)
  have ms : ∀ c ∈ W.shps, c.name ∈ W.vnames := fun c hc => List.mem_append_right _ (List.mem_map_of_mem (f := fun b : Shp => b.name) hc)
  have mc : ∀ c ∈ W.chans, c.name ∈ W.cnames := fun c hc => List.mem_map_of_mem hc
  refine ⟨g.begin, ?_, ?_, gP.nodup (fun _ h => h) g.nd, ?_, ?_, ?_, ?_, ?_, ?_, ?_, ?_, ?_, ?_, ?_⟩
  · show 1 ≤ (W.ports.map _).length ∧ (W.ports.map _).length ≤ 8
    rw [List.length_map]
    exact g.ports
  · rintro w hw
    obtain ⟨n, hn, rfl⟩ := List.mem_map.mp hw
    exact gP.is hn
  · show (W.chans.map _).length ≤ 12
    rw [List.length_map]
    exact g.chans
  · rintro _ hc'
    obtain ⟨c, hc, rfl⟩ := List.mem_map.mp hc'
    have k := g.good c hc
    have e := g.ends c hc
    exact ⟨gC.is (mc c hc), gP.is e.1, gP.is e.2, fun z => k.ne (gP.inj e.1 e.2 z), k.hours, k.depth, k.first, k.growth, k.most⟩
  · show ((W.chans.map (Chan.ren P C)).map Chan.name).Nodup
    rw [List.map_map]
    have : (W.chans.map (Chan.name ∘ Chan.ren P C)) = (W.chans.map Chan.name).map (Law.ren C) := by rw [List.map_map]; rfl
    rw [this]
    exact gC.nodup (fun _ h => h) g.cnd
  · rintro _ hc'
    obtain ⟨c, hc, rfl⟩ := List.mem_map.mp hc'
    have e := g.ends c hc
    exact ⟨List.mem_map_of_mem e.1, List.mem_map_of_mem e.2⟩
  · show (W.brks.map _).length ≤ 4
    rw [List.length_map]
    exact g.brks
  · rintro _ hc'
    obtain ⟨c, hc, rfl⟩ := List.mem_map.mp hc'
    have k := g.bgood c hc
    exact ⟨⟨gV.is (mb c hc), gP.is (g.bports c hc), k.ves.hour, k.ves.strength, k.ves.draught⟩, k.cut⟩
  · rintro _ hc'
    obtain ⟨c, hc, rfl⟩ := List.mem_map.mp hc'
    exact List.mem_map_of_mem (g.bports c hc)
  · show (W.shps.map _).length ≤ 6
    rw [List.length_map]
    exact g.shps
  · rintro _ hc'
    obtain ⟨c, hc, rfl⟩ := List.mem_map.mp hc'
    have k := g.sgood c hc
    have e := g.sports c hc
    exact ⟨⟨gV.is (ms c hc), gP.is e.1, k.ves.hour, k.ves.strength, k.ves.draught⟩, gP.is e.2⟩
  · rintro _ hc'
    obtain ⟨c, hc, rfl⟩ := List.mem_map.mp hc'
    have e := g.sports c hc
    exact ⟨List.mem_map_of_mem e.1, List.mem_map_of_mem e.2⟩
  · have : (W.ren P C V).brks.map (fun b => b.name) ++ (W.ren P C V).shps.map (fun b => b.name) = W.vnames.map (Law.ren V) := by
      show (W.brks.map (Brk.ren P V)).map _ ++ (W.shps.map (Shp.ren P V)).map _ = _
      rw [Wld.vnames, List.map_append, List.map_map, List.map_map, List.map_map, List.map_map]
      rfl
    rw [this]
    exact gV.nodup (fun _ h => h) g.vnd
/-- what has names -/
def NamedAt (K : PySem.W.Frag) (H : Hp) (xs : List V) (ns : List (List Nat)) : Prop := xs.length = ns.length ∧ ∀ (i : Nat) (x : V) (n : List Nat), xs[i]? = some x → ns[i]? = some n → ∃ o C dx fs, x = .ref o ∧ H o = some (.ins C dx fs) ∧ Cls K C ∧ NoAttr K C "name" ∧ fs.lookup ("name" : Str) = some (.str (S n))
theorem NamedAt.same {K : PySem.W.Frag} {H H' : Hp} {xs : List V} {ns : List (List Nat)} (h : NamedAt K H xs ns) (s : Same H H') : NamedAt K H' xs ns := ⟨h.1, fun i x n h1 h2 => by
  obtain ⟨o, C, dx, fs, e, ho, r⟩ := h.2 i x n h1 h2
  exact ⟨o, C, dx, fs, e, s _ _ ho, r⟩⟩
theorem named_ves {K : PySem.W.Frag} {CB CS : Addr} {H : Hp} {xb xs : List V} {W : Wld} (TB : Cl K CB brkK) (TS : Cl K CS shpK) (ob : Objs CB H brkK xb (W.brks.map Brk.vals)) (os : Objs CS H shpK xs (W.shps.map Shp.vals)) : NamedAt K H (xb ++ xs) W.vnames := by
  refine ⟨by rw [List.length_append, ob.1, os.1, Wld.vnames, List.length_append, List.length_map, List.length_map, List.length_map, List.length_map], fun i x n h1 h2 => ?_⟩
  obtain ⟨n', o, C, dx, fs, hn, e, ho, r⟩ := ves_at TB TS ob os h1
  rw [h2] at hn
  obtain rfl := Option.some.inj hn
  exact ⟨o, C, dx, fs, e, ho, r⟩
theorem named_chan {K : PySem.W.Frag} {CC : Addr} {H : Hp} {xc : List V} {W : Wld} (TC : Cl K CC chanK) (oc : Objs CC H chanK xc (W.chans.map Chan.vals)) : NamedAt K H xc W.cnames := by
  refine ⟨by rw [oc.1, Wld.cnames, List.length_map, List.length_map], fun i x n h1 h2 => ?_⟩
  have hi : i < W.chans.length := by
    have := (List.getElem?_eq_some_iff.mp h2).1
    rw [Wld.cnames, List.length_map] at this
    exact this
  rw [Wld.cnames, List.getElem?_map, List.getElem?_eq_getElem hi] at h2
  obtain rfl := Option.some.inj h2
  obtain ⟨o, e, dx, h⟩ := oc.2 i x (W.chans[i]).vals h1 (by rw [List.getElem?_map, List.getElem?_eq_getElem hi]; rfl)
  exact ⟨o, CC, dx, _, e, h, TC.cls, TC.no _ (by decide +kernel), look_zip (i := 0) chan_nd rfl rfl⟩
theorem named_list {K : PySem.W.Frag} {H : Hp} {xs ys : List V} {ns : List (List Nat)} (h : NamedAt K H xs ns) (e : Each (fun x y => ∃ o C dx fs, x = .ref o ∧ H o = some (.ins C dx fs) ∧ fs.lookup ("name" : Str) = some y) xs ys) : ys = txts ns := by
  refine List.ext_getElem? fun i => ?_
  rw [txts, List.getElem?_map]
  cases hn : ns[i]? with
  | none =>
    have e2 : ns.length ≤ i := List.getElem?_eq_none_iff.mp hn
    rw [List.getElem?_eq_none_iff.mpr (by rw [e.1, h.1]; exact e2)]
    rfl
  | some n =>
    have hi : i < ns.length := (List.getElem?_eq_some_iff.mp hn).1
    have hx : i < xs.length := by rw [h.1]; exact hi
    have hy : i < ys.length := by rw [e.1]; exact hx
    obtain ⟨o, C, dx, fs, e1, e2, _, _, e3⟩ := h.2 i xs[i] n (by simp [hx]) hn
    obtain ⟨o', C', dx', fs', f1, f2, f3⟩ := e.2 i xs[i] ys[i] (by simp [hx]) (by simp [hy])
    rw [e1] at f1
    injection f1 with f1
    subst f1
    rw [e2] at f2
    have f2 := Option.some.inj f2
    injection f2 with _ _ f2
    subst f2
    rw [e3] at f3
    rw [List.getElem?_eq_getElem hy, ← Option.some.inj f3]
    rfl
def spNamesOf (K : PySem.W.Frag) : Sp := fun vs H Q _ => ∃ (l : Addr) (xs : List V) (ns : List (List Nat)), vs = [.ref l] ∧ H l = some (.lst xs) ∧ NamedAt K H xs ns ∧ ns.length ≤ 100 ∧ ∀ a H', H a = none → Same H H' → H' a = some (.lst (txts ns)) → Q (.ref a) H'
def spNamesFor : Sp := fun vs H Q _ => ∃ (l d : Addr) (ns : List (List Nat)) (M : NM), vs = [.ref l, .ref d] ∧ H l = some (.lst (txts ns)) ∧ H d = some (.dK (nmKvs M)) ∧ NGood ns M ∧ ∀ H', Same H H' → Q .non H'
theorem chan_ren (P C : NM) (a b : Chan) (h : a.vals = b.vals) : (a.ren P C).vals = (b.ren P C).vals := by
  simp only [Chan.vals, List.cons.injEq, V.int.injEq, V.str.injEq] at h
  obtain ⟨h1, h2, h3, h4, h5, h6, h7, h8, _⟩ := h
  simp only [Chan.vals, Chan.ren, S_inj h1, S_inj h2, S_inj h3, h4, h5, h6, h7, h8]
theorem brk_ren (P N : NM) (a b : Brk) (h : a.vals = b.vals) : (a.ren P N).vals = (b.ren P N).vals := by
  simp only [Brk.vals, Ves.vals, List.cons_append, List.nil_append, List.cons.injEq, V.int.injEq, V.str.injEq] at h
  obtain ⟨h1, h2, h3, h4, h5, h6, _⟩ := h
  simp only [Brk.vals, Ves.vals, Brk.ren, S_inj h1, S_inj h2, h3, h4, h5, h6]
theorem shp_ren (P N : NM) (a b : Shp) (h : a.row = b.row) : (a.ren P N).row = (b.ren P N).row := by
  simp only [Shp.row, List.cons.injEq, V.int.injEq, V.str.injEq] at h
  obtain ⟨h1, h2, h3, h4, h5, h6, _⟩ := h
  simp only [Shp.row, Shp.ren, S_inj h1, S_inj h2, S_inj h3, h4, h5, h6]
def spRenamed (k : KA) : Sp := fun vs H Q _ => ∃ (p a b c : Addr) (W : Wld) (P C N : NM), vs = [.ref p, .ref a, .ref b, .ref c] ∧ WldAt k H p W ∧ W.Good ∧ H a = some (.dK (nmKvs P)) ∧ H b = some (.dK (nmKvs C)) ∧ H c = some (.dK (nmKvs N)) ∧ NGood W.ports P ∧ NGood W.cnames C ∧ NGood W.vnames N ∧
  ∀ x H', H x = none → Same H H' → WldAt k H' x (W.ren P C N) → Q (.ref x) H'
theorem vnames_le {W : Wld} (g : W.Good) : W.vnames.length ≤ 10 := by
  have := g.brks
  have := g.shps
  rw [Wld.vnames, List.length_append, List.length_map, List.length_map]
  omega
section
variable {P : Program} {w : World} {K : PySem.W.Frag} {mg : Str → Option Value} {base : Heap}
theorem ok_namesOf {f : Addr} {fd : FuncData} (F : Fun K "names_of" "names_of" s_names_of f fd) : FnOk P w K mg base CX0 1 f fd ["things"] (spNamesOf K) := by
  refine F.ok sc_names_of (fun vs H Q E h => ?_) (fun cdv A outer s H vs Q E hr h => ?_)
  · obtain ⟨l, xs, ns, rfl, _⟩ := h
    rfl
  · obtain ⟨l, xs, ns, rfl, hl, hn, few, q⟩ := h
    refine ⟨_, (pss_one (ps_ret (pe_lc (own := [("thing", 1)]) (g := gName 1) (tt := tYes) rfl sc_names_of.nd (pi_seq (pv 0)) (blkOk_by (N := ["things", "thing"]) (sc := defScope s_names_of) (by decide +kernel)) (fun _ _ _ _ _ => pg_name (i := 1) sc_names_of.nd rfl (Or.inl rfl)) (fun _ _ _ _ _ => pts_nil) (fun _ _ _ _ _ => (pe_fldK (K := K) rfl (pv 1) rfl))))), ?_⟩
    refine ⟨_, rfl, l, rfl, lc_map (fun x y _ => ∃ o C dx fs, x = .ref o ∧ H o = some (.ins C dx fs) ∧ fs.lookup ("name" : Str) = some y) (.l hl) (Nat.lt_of_le_of_lt (show xs.length ≤ 100 by rw [hn.1]; exact few) (by decide)) (fun _ _ _ _ _ e => e) (fun _ _ _ _ _ _ e => e) ?_ ?_⟩
    · intro x H3 kk hx s3 kq
      obtain ⟨i, hi⟩ := List.getElem?_of_mem hx
      have hi2 : i < ns.length := by rw [← hn.1]; exact (List.getElem?_eq_some_iff.mp hi).1
      obtain ⟨o, C, dx, fs, rfl, ho, c1, c2, c3⟩ := hn.2 i x ns[i] hi (List.getElem?_eq_getElem hi2)
      refine ⟨rfl, _, rfl, o, C, dx, fs, _, rfl, s3 _ _ ho, c1, c2, c3, ?_⟩
      exact kq _ _ (Same.refl _) ⟨o, C, dx, fs, rfl, ho, c3⟩
    intro D ys H8 hD s8 hy e
    rw [named_list hn e] at hy
    exact q D H8 hD s8 hy
theorem ok_namesFor {f : Addr} {fd : FuncData} (F : Fun K "need_names_for" "need_names_for" s_need_names_for f fd) (B : Blt mg) (Bset : mg "set" = none) (DNm : Dn P w K mg base CX0 1 "is_name" ["thing"] spName) : FnOk P w K mg base CX0 2 f fd ["names", "thing"] spNamesFor := by
  refine F.ok sc_need_names_for (fun vs H Q E h => ?_) (fun cdv A outer s H vs Q E hr h => ?_)
  · obtain ⟨l, d, ns, M, rfl, _⟩ := h
    rfl
  · obtain ⟨l, d, ns, M, rfl, hl, hd, g, q⟩ := h
    have hu := room_u1 hr
    refine ⟨_, (pss_cons (ps_if (PW.pt (pw_or (pt_not (pt_val (pe_callB call_isi (by rfl) B.isi (by decide +kernel) (pa_cons (pv 1) (pa_cons (pe_bltn (v := .ty "dict") (by rfl) B.dict (by decide +kernel) rfl) pa_nil))))) (pw_or (pt_cmpR op_ne (pe_callB call_lenD (by rfl) B.len PySem.boot_len (pa_cons (pv 1) pa_nil)) (pe_callB call_len_seq (by rfl) B.len PySem.boot_len (pa_cons (pv 0) pa_nil)) (nomark _)) (pw_or1 (pt_not (pt_val (pe_callB (cr_all rfl) (by rfl) B.all (by decide +kernel) (pa_cons (pe_lc (own := [("name", 3)]) (g := gName 3) (tt := tYes) rfl sc_need_names_for.nd (pi_seq (pv 0)) (blkOk_by (N := ["names", "thing", "others", "name", "other"]) (sc := defScope s_need_names_for) (by decide +kernel)) (fun _ _ _ _ _ => pg_name (i := 3) sc_need_names_for.nd rfl (Or.inl rfl)) (fun _ _ _ _ _ => pts_nil) (fun _ _ _ _ _ => (pe_cmp (pc_din hu (pv 3) (pv 1))))) pa_nil)))))))) pss_dead pss_nil)
      (pss_cons (ps_set (i := 2) sc_need_names_for.nd rfl (.inl rfl) (pe_listVals rfl (pv 1) (by rfl) B.list))
      (pss_one (ps_if (PW.pt (pw_or (pt_not (pt_val (pe_callB (cr_all rfl) (by rfl) B.all (by decide +kernel) (pa_cons (pe_lc (own := [("other", 4)]) (g := gName 4) (tt := tYes) rfl sc_need_names_for.nd (pi_seq (pv 2)) (blkOk_by (N := ["names", "thing", "others", "name", "other"]) (sc := defScope s_need_names_for) (by decide +kernel)) (fun _ _ _ _ _ => pg_name (i := 4) sc_need_names_for.nd rfl (Or.inl rfl)) (fun _ _ _ _ _ => pts_nil) (fun _ _ _ _ _ => (pe_d DNm (hr.mono (by decide)) (by rfl) pass0 (pa_cons (pv 4) pa_nil)))) pa_nil)))) (pw_or1 (pt_cmpR op_ne (pe_lenSetN rfl (by rfl) B.len (by rfl) Bset (pv 2)) (pe_callB call_len_seq (by rfl) B.len PySem.boot_len (pa_cons (pv 2) pa_nil)) (nomark _))))) pss_dead pss_nil)))), ?_⟩
    have lM : (nmKvs M).length = ns.length := by unfold nmKvs; rw [List.length_map]; exact g.len
    refine ⟨_, rfl, _, _, _, _, true, rfl, .ty "dict", .base (.dK hd), kit_ty (by decide +kernel), true, rfl, iteF ?_⟩
    refine ⟨_, rfl, d, _, rfl, hd, _, rfl, l, _, rfl, .inl (.inl (.inl hl)), rfl, _, rfl, ?_⟩
    have e1 : (nmKvs M).length = (txts ns).length := by rw [lM, txts, List.length_map]
    rw [e1, decide_eq_true (rfl : V.int ((txts ns).length : Int) = V.int ((txts ns).length : Int))]
    refine iteF ?_
    refine ⟨_, rfl, l, rfl, lc_map (fun _ y _ => y = .bl true) (.l hl) (Nat.lt_of_le_of_lt (show (txts ns).length ≤ 12 by rw [txts, List.length_map]; exact g.few) (by decide)) (fun _ _ _ _ _ e => e) (fun _ _ _ _ _ _ e => e) ?_ ?_⟩
    · intro x H2 k hx s2 kk
      obtain ⟨n, hn, rfl⟩ := List.mem_map.mp hx
      refine ⟨rfl, _, rfl, _, rfl, d, _, rfl, DGet.k (k := .inr (S n)) (s2 _ _ hd), ?_⟩
      rw [g.val hn]
      exact kk _ _ (Same.refl _) rfl
    intro D ys H2 hD s2 hy e
    obtain rfl := each_true e
    refine ⟨D, _, rfl, .inl (.inl hy), ?_⟩
    rw [all_yes]
    refine ⟨true, rfl, iteF ?_⟩
    clear e hy
    refine ⟨_, rfl, d, _, rfl, s2 _ _ hd, fun o ho => ?_⟩
    generalize hXq : upd _ o _ = H3
    have s3 := laid_same hXq ho
    have e3 := laid_at hXq
    clear hXq
    have eo : (nmKvs M).map (·.2) = txts (M.map (·.2)) := by
      unfold nmKvs txts
      rw [List.map_map, List.map_map]
      rfl
    rw [eo] at e3
    have lv : (M.map (·.2)).length = ns.length := by rw [List.length_map]; exact g.len
    refine ⟨_, rfl, o, rfl, lc_map (fun _ y _ => y = .bl true) (.l e3) (Nat.lt_of_le_of_lt (show (txts (M.map (·.2))).length ≤ 12 by rw [txts, List.length_map, lv]; exact g.few) (by decide)) (fun _ _ _ _ _ e => e) (fun _ _ _ _ _ _ e => e) ?_ ?_⟩
    · intro x H4 k hx s4 kk
      obtain ⟨n, hn, rfl⟩ := List.mem_map.mp hx
      obtain ⟨e, he, rfl⟩ := List.mem_map.mp hn
      have nm := g.name e he
      refine ⟨rfl, _, rfl, e.2, rfl, Nat.le_trans (isName_len nm).2.1 (by decide), fun H5 s5 => ?_⟩
      rw [nm]
      exact kk _ _ s5 rfl
    intro D2 ys H4 hD2 s4 hy e
    obtain rfl := each_true e
    refine ⟨D2, _, rfl, .inl (.inl hy), ?_⟩
    rw [all_yes]
    refine ⟨true, rfl, iteF ?_⟩
    have e4 : H4 o = some (.lst (((M.map (·.2)).map S).map V.str)) := by
      rw [List.map_map]
      exact s4 _ _ e3
    have ls : ((M.map (·.2)).map S).length = ns.length := by rw [List.length_map, lv]
    have nds : ((M.map (·.2)).map S).Nodup := nodup_map_on (fun a _ b _ e => S_inj e) g.vals
    refine ⟨_, rfl, o, _, rfl, .inl (.inl e4), Nat.le_trans (Nat.le_of_eq ls) (Nat.le_trans g.few (by decide)), _, rfl, o, _, rfl, .inl (.inl (.inl e4)), rfl, _, rfl, ?_⟩
    rw [SS.cnt_all.mpr nds, show (((M.map (·.2)).map S).map V.str).length = ((M.map (·.2)).map S).length from List.length_map .., decide_eq_true (rfl : V.int ((((M.map (·.2)).map S).length : Nat) : Int) = V.int ((((M.map (·.2)).map S).length : Nat) : Int))]
    refine iteF ?_
    exact q H4 (s2.trans (s3.trans s4))
theorem ok_renamed {k : KA} {f : Addr} {fd : FuncData} (F : Fun K "renamed" "renamed" s_renamed f fd) (TW : Cl K k.W wldK) (TC : Cl K k.C chanK) (TB : Cl K k.B brkK) (TS : Cl K k.S shpK) (MP : Me P w K mg base CX0 1 k.W "ports" ["self"] (spPorts k)) (MC : Me P w K mg base CX0 1 k.W "channels" ["self"] (spChannels k)) (MV : Me P w K mg base CX0 1 k.W "vessels" ["self"] (spVessels k))
    (MT : Me P w K mg base CX0 3 k.W "told" ["self"] (spTold k)) (DF : Dn P w K mg base CX0 2 "need_names_for" ["names", "thing"] spNamesFor) (DO : Dn P w K mg base CX0 1 "names_of" ["things"] (spNamesOf K)) (DA : Dn P w K mg base CX0 8 "world_anew" ["told"] (spWldAnew K k)) : FnOk P w K mg base CX0 9 f fd ["world", "ports", "channels", "vessels"] (spRenamed k) := by
  refine F.ok sc_renamed (fun vs H Q E h => ?_) (fun cdv A outer s H vs Q E hr h => ?_)
  · obtain ⟨p, a, b, c, W, P, C, N, rfl, _⟩ := h
    rfl
  · obtain ⟨p, a, b, c, W, P, C, N, rfl, hW, g, ha, hb, hc, gP, gC, gN, q⟩ := h
    have hu := room_u1 hr
    refine ⟨_, (pss_cons (ps_expr (pe_d DF (hr.mono (by decide)) (by rfl) pass0 (pa_cons (pe_me0 MP TW.cls (hr.mono (by decide)) pass0 (pv 0)) (pa_cons (pv 1) pa_nil))))
      (pss_cons (ps_expr (pe_d DF (hr.mono (by decide)) (by rfl) pass0 (pa_cons (pe_d DO (hr.mono (by decide)) (by rfl) pass0 (pa_cons (pe_me0 MC TW.cls (hr.mono (by decide)) pass0 (pv 0)) pa_nil)) (pa_cons (pv 2) pa_nil))))
      (pss_cons (ps_expr (pe_d DF (hr.mono (by decide)) (by rfl) pass0 (pa_cons (pe_d DO (hr.mono (by decide)) (by rfl) pass0 (pa_cons (pe_me0 MV TW.cls (hr.mono (by decide)) pass0 (pv 0)) pa_nil)) (pa_cons (pv 3) pa_nil))))
      (pss_cons (ps_asg (pe_me0 MT TW.cls (hr.mono (by decide)) pass0 (pv 0)) (pg_tup rfl (pgs_cons (pg_name (i := 4) sc_renamed.nd rfl (.inl rfl)) (pgs_cons (pg_name (i := 5) sc_renamed.nd rfl (.inl rfl)) (pgs_cons (pg_name (i := 6) sc_renamed.nd rfl (.inl rfl)) (pgs_cons (pg_name (i := 7) sc_renamed.nd rfl (.inl rfl)) (pgs_cons (pg_name (i := 8) sc_renamed.nd rfl (.inl rfl)) pgs_nil)))))))
      (pss_one (ps_ret (pe_d DA (hr.mono (by decide)) (by rfl) pass0 (pa_cons (pe_tup (pa_cons (pv 4) (pa_cons (pe_lc (own := [("port", 9)]) (g := gName 9) (tt := tYes) rfl sc_renamed.nd (pi_seq (pv 5)) (blkOk_by (N := ["world", "ports", "channels", "vessels", "begin", "own", "ways", "breakers", "ships", "port", "row"]) (sc := defScope s_renamed) (by decide +kernel)) (fun _ _ _ _ _ => pg_name (i := 9) sc_renamed.nd rfl (Or.inl rfl)) (fun _ _ _ _ _ => pts_nil) (fun _ _ _ _ _ => (pe_dget hu (pv 1) (pv 9) (fun _ _ => rfl)))) (pa_cons (pe_lc (own := [("row", 10)]) (g := gName 10) (tt := tYes) rfl sc_renamed.nd (pi_seq (pv 6)) (blkOk_by (N := ["world", "ports", "channels", "vessels", "begin", "own", "ways", "breakers", "ships", "port", "row"]) (sc := defScope s_renamed) (by decide +kernel)) (fun _ _ _ _ _ => pg_name (i := 10) sc_renamed.nd rfl (Or.inl rfl)) (fun _ _ _ _ _ => pts_nil) (fun _ _ _ _ _ => (pe_op (show OpR _ (binaryOp .Add) (rCatT K) from op_catT) (pe_tup (pa_cons (pe_dget hu (pv 2) (pe_ix (show IxR _ (rIxT K) from ix_tup) (pv 10) pe_int (fun _ _ => rfl)) (fun _ _ => rfl)) (pa_cons (pe_dget hu (pv 1) (pe_ix (show IxR _ (rIxT K) from ix_tup) (pv 10) pe_int (fun _ _ => rfl)) (fun _ _ => rfl)) (pa_cons (pe_dget hu (pv 1) (pe_ix (show IxR _ (rIxT K) from ix_tup) (pv 10) pe_int (fun _ _ => rfl)) (fun _ _ => rfl)) pa_nil)))) (pe_slice (show SlR _ (rSlT K) from sl_tup) (pv 10) (po_some pe_int) po_none)))) (pa_cons (pe_lc (own := [("row", 10)]) (g := gName 10) (tt := tYes) rfl sc_renamed.nd (pi_seq (pv 7)) (blkOk_by (N := ["world", "ports", "channels", "vessels", "begin", "own", "ways", "breakers", "ships", "port", "row"]) (sc := defScope s_renamed) (by decide +kernel)) (fun _ _ _ _ _ => pg_name (i := 10) sc_renamed.nd rfl (Or.inl rfl)) (fun _ _ _ _ _ => pts_nil) (fun _ _ _ _ _ => (pe_op (show OpR _ (binaryOp .Add) (rCatT K) from op_catT) (pe_tup (pa_cons (pe_dget hu (pv 3) (pe_ix (show IxR _ (rIxT K) from ix_tup) (pv 10) pe_int (fun _ _ => rfl)) (fun _ _ => rfl)) (pa_cons (pe_dget hu (pv 1) (pe_ix (show IxR _ (rIxT K) from ix_tup) (pv 10) pe_int (fun _ _ => rfl)) (fun _ _ => rfl)) pa_nil))) (pe_slice (show SlR _ (rSlT K) from sl_tup) (pv 10) (po_some pe_int) po_none)))) (pa_cons (pe_lc (own := [("row", 10)]) (g := gName 10) (tt := tYes) rfl sc_renamed.nd (pi_seq (pv 8)) (blkOk_by (N := ["world", "ports", "channels", "vessels", "begin", "own", "ways", "breakers", "ships", "port", "row"]) (sc := defScope s_renamed) (by decide +kernel)) (fun _ _ _ _ _ => pg_name (i := 10) sc_renamed.nd rfl (Or.inl rfl)) (fun _ _ _ _ _ => pts_nil) (fun _ _ _ _ _ => (pe_op (show OpR _ (binaryOp .Add) (rCatT K) from op_catT) (pe_tup (pa_cons (pe_dget hu (pv 3) (pe_ix (show IxR _ (rIxT K) from ix_tup) (pv 10) pe_int (fun _ _ => rfl)) (fun _ _ => rfl)) (pa_cons (pe_dget hu (pv 1) (pe_ix (show IxR _ (rIxT K) from ix_tup) (pv 10) pe_int (fun _ _ => rfl)) (fun _ _ => rfl)) (pa_cons (pe_dget hu (pv 1) (pe_ix (show IxR _ (rIxT K) from ix_tup) (pv 10) pe_int (fun _ _ => rfl)) (fun _ _ => rfl)) pa_nil)))) (pe_slice (show SlR _ (rSlT K) from sl_tup) (pv 10) (po_some pe_int) po_none)))) pa_nil)))))) pa_nil)))))))), ?_⟩
    obtain ⟨xc, xb, xs, hF, oc, ob, os⟩ := id hW
    have lc1 : xc.length ≤ 12 := by rw [oc.1, List.length_map]; exact g.chans
    have lb1 : xb.length ≤ 4 := by rw [ob.1, List.length_map]; exact g.brks
    have ls1 : xs.length ≤ 6 := by rw [os.1, List.length_map]; exact g.shps
    have vn := vnames_le g
    have cn : W.cnames.length ≤ 12 := by rw [Wld.cnames, List.length_map]; exact g.chans
    obtain ⟨dx, _, _, _, _, hp, _⟩ := id hF
    refine ⟨_, rfl, p, dx, _, rfl, hp, look_no (by decide +kernel), p, W, xc, xb, xs, rfl, hF, g.ports.2, fun l H1 hl s1 e1 => ?_⟩
    refine ⟨_, rfl, l, a, W.ports, P, rfl, e1, s1 _ _ ha, gP, fun H2 s2 => ?_⟩
    have sm := s1.trans s2
    clear e1 hl
    refine ⟨_, rfl, p, dx, _, rfl, sm _ _ hp, look_no (by decide +kernel), p, W, xc, xb, xs, rfl, hF.same sm, lc1, fun l H3 hl s3 e3 => ?_⟩
    refine ⟨l, xc, W.cnames, rfl, e3, (named_chan TC oc).same (sm.trans s3), by omega, fun l2 H4 hl2 s4 e4 => ?_⟩
    refine ⟨_, rfl, l2, b, W.cnames, C, rfl, e4, s4 _ _ (s3 _ _ (sm _ _ hb)), gC, fun H5 s5 => ?_⟩
    have sm := sm.trans (s3.trans (s4.trans s5))
    clear e3 e4 hl hl2
    refine ⟨_, rfl, p, dx, _, rfl, sm _ _ hp, look_no (by decide +kernel), p, W, xc, xb, xs, rfl, hF.same sm, by omega, fun l H3 hl s3 e3 => ?_⟩
    refine ⟨l, xb ++ xs, W.vnames, rfl, e3, (named_ves TB TS ob os).same (sm.trans s3), by omega, fun l2 H4 hl2 s4 e4 => ?_⟩
    refine ⟨_, rfl, l2, c, W.vnames, N, rfl, e4, s4 _ _ (s3 _ _ (sm _ _ hc)), gN, fun H6 s6 => ?_⟩
    have sm := sm.trans (s3.trans (s4.trans s6))
    clear e3 e4 hl hl2
    refine ⟨_, rfl, p, dx, _, rfl, sm _ _ hp, look_no (by decide +kernel), p, W, rfl, hW.same sm, g, fun t H1 ht s7 hT => ?_⟩
    obtain ⟨ap, ac, ab, as, yc, yb, ys, t1, t2, t3, t4, t5, t6, t7, t8⟩ := id hT
    have lc2 : yc.length ≤ 12 := by rw [t4.1, List.length_map]; exact g.chans
    have lb2 : yb.length ≤ 4 := by rw [t6.1, List.length_map]; exact g.brks
    have ls2 : ys.length ≤ 6 := by rw [t8.1, List.length_map]; exact g.shps
    have so := sm.trans s7
    have ha := so _ _ ha
    have hb := so _ _ hb
    have hc := so _ _ hc
    refine ⟨t, _, rfl, .inl (.inl t1), rfl, _, _, rfl, _, _, rfl, _, _, rfl, _, _, rfl, _, _, rfl, rfl, ?_⟩
    refine ⟨_, rfl, _, rfl, ap, rfl, lc_map (fun x y _ => ∃ n, n ∈ W.ports ∧ x = .str (S n) ∧ y = .str (S (Law.ren P n))) (.t t2) (Nat.lt_of_le_of_lt (show (txts W.ports).length ≤ 8 by rw [txts, List.length_map]; exact g.ports.2) (by decide)) (fun _ _ _ _ _ e => e) (fun _ _ _ _ _ _ e => e) ?_ ?_⟩
    · intro x H3 kk hx s3 kq
      obtain ⟨n, hn, rfl⟩ := List.mem_map.mp hx
      refine ⟨rfl, _, rfl, _, rfl, a, _, rfl, (by rw [← gP.val hn]; exact DGet.k (k := .inr (S n)) (s3 _ _ ha)), ?_⟩
      exact kq _ _ (Same.refl _) ⟨n, hn, rfl, rfl⟩
    intro D0 zp J1 hD0 u1 hyp ep
    have ezp : zp = txts (W.ports.map (Law.ren P)) := by
      rw [txts, List.map_map]
      refine ep.map (f := fun n => V.str (S n)) (fun n _ y hy => ?_)
      obtain ⟨n', _, h1, h2⟩ := hy
      injection h1 with h1
      rw [h2, ← S_inj h1]
      rfl
    subst ezp
    clear ep
    have su := u1
    refine ⟨_, rfl, ac, rfl, lc_map (fun x y H' => ∃ p c, x = .ref p ∧ H1 p = some (.tup (Chan.vals c)) ∧ ∃ a, y = .ref a ∧ H' a = some (.tup (Chan.vals (Chan.ren P C c)))) (.t (su _ _ t3)) (Nat.lt_of_le_of_lt lc2 (by decide)) (fun x y H H' s ⟨p, b, e, o, a, e2, h⟩ => ⟨p, b, e, o, a, e2, s _ _ h⟩)
        (fun x y H D l hD ⟨p, b, e, o, a, e2, h⟩ => ⟨p, b, e, o, a, e2, hide_of hD (fun _ z => by cases z) h⟩) ?_ ?_⟩
    · intro x J0 kk hx s0 kq
      obtain ⟨o, r, rfl, hm, e⟩ := t4.mem hx
      have e0 := s0 _ _ (su _ _ e)
      have ha0 := s0 _ _ (su _ _ ha)
      have hb0 := s0 _ _ (su _ _ hb)
      have hc0 := s0 _ _ (su _ _ hc)
      have m1 : r.name ∈ W.cnames := List.mem_map_of_mem hm
      have m2 := g.ends r hm
      refine ⟨rfl, _, rfl, _, rfl, o, _, 0, _, rfl, rfl, .inl (.inl e0), rfl, b, _, rfl, (by rw [← gC.val m1]; exact DGet.k (k := .inr (S _)) hb0), _, rfl, _, rfl, o, _, 1, _, rfl, rfl, .inl (.inl e0), rfl, a, _, rfl, (by rw [← gP.val m2.1]; exact DGet.k (k := .inr (S _)) ha0), _, rfl, _, rfl, o, _, 2, _, rfl, rfl, .inl (.inl e0), rfl, a, _, rfl, (by rw [← gP.val m2.2]; exact DGet.k (k := .inr (S _)) ha0), ?_⟩
      refine ⟨Nat.le_of_ble_eq_true rfl, fun t ht => ?_⟩
      generalize hXq : upd _ t _ = J2
      have s2' := laid_same hXq ht
      have e2' := laid_at hXq
      clear hXq
      refine ⟨_, rfl, _, rfl, o, _, rfl, .inl (.inl (s2' _ _ e0)), (by show ¬ (HT.sIx 8 0 (some 3) = 0 ∧ HT.sIx 8 8 none = 8); decide +kernel), fun q3 hq3 => ?_⟩
      generalize hXq : upd _ q3 _ = J4
      have s4' := laid_same hXq hq3
      have e4' := laid_at hXq
      clear hXq
      refine ⟨t, q3, _, _, rfl, rfl, .inl (.inl (s4' _ _ e2')), .inl (.inl e4'), (by intro z; cases z), Nat.le_of_ble_eq_true rfl, (fun z => by cases z), fun _ q5 hq5 => ?_⟩
      generalize hXq : upd _ q5 _ = J5
      have s5' := laid_same hXq hq5
      have e5' := laid_at hXq
      clear hXq
      exact kq _ _ (s2'.trans (s4'.trans s5')) ⟨o, r, rfl, e, q5, rfl, e5'⟩
    intro D1 zc J2 hD1 u1 hyc e
    have fc := rows_map (chan_ren P C) t4 e
    clear e
    have su := su.trans u1
    have hyp := u1 _ _ hyp
    refine ⟨_, rfl, ab, rfl, lc_map (fun x y H' => ∃ p c, x = .ref p ∧ H1 p = some (.tup (Brk.vals c)) ∧ ∃ a, y = .ref a ∧ H' a = some (.tup (Brk.vals (Brk.ren P N c)))) (.t (su _ _ t5)) (Nat.lt_of_le_of_lt lb2 (by decide)) (fun x y H H' s ⟨p, b, e, o, a, e2, h⟩ => ⟨p, b, e, o, a, e2, s _ _ h⟩)
        (fun x y H D l hD ⟨p, b, e, o, a, e2, h⟩ => ⟨p, b, e, o, a, e2, hide_of hD (fun _ z => by cases z) h⟩) ?_ ?_⟩
    · intro x J0 kk hx s0 kq
      obtain ⟨o, r, rfl, hm, e⟩ := t6.mem hx
      have e0 := s0 _ _ (su _ _ e)
      have ha0 := s0 _ _ (su _ _ ha)
      have hb0 := s0 _ _ (su _ _ hb)
      have hc0 := s0 _ _ (su _ _ hc)
      have m1 : r.name ∈ W.vnames := List.mem_append_left _ (List.mem_map_of_mem (f := fun b : Brk => b.name) hm)
      have m2 := g.bports r hm
      refine ⟨rfl, _, rfl, _, rfl, o, _, 0, _, rfl, rfl, .inl (.inl e0), rfl, c, _, rfl, (by rw [← gN.val m1]; exact DGet.k (k := .inr (S _)) hc0), _, rfl, _, rfl, o, _, 1, _, rfl, rfl, .inl (.inl e0), rfl, a, _, rfl, (by rw [← gP.val m2]; exact DGet.k (k := .inr (S _)) ha0), ?_⟩
      refine ⟨Nat.le_of_ble_eq_true rfl, fun t ht => ?_⟩
      generalize hXq : upd _ t _ = J2
      have s2' := laid_same hXq ht
      have e2' := laid_at hXq
      clear hXq
      refine ⟨_, rfl, _, rfl, o, _, rfl, .inl (.inl (s2' _ _ e0)), (by show ¬ (HT.sIx 6 0 (some 2) = 0 ∧ HT.sIx 6 6 none = 6); decide +kernel), fun q3 hq3 => ?_⟩
      generalize hXq : upd _ q3 _ = J4
      have s4' := laid_same hXq hq3
      have e4' := laid_at hXq
      clear hXq
      refine ⟨t, q3, _, _, rfl, rfl, .inl (.inl (s4' _ _ e2')), .inl (.inl e4'), (by intro z; cases z), Nat.le_of_ble_eq_true rfl, (fun z => by cases z), fun _ q5 hq5 => ?_⟩
      generalize hXq : upd _ q5 _ = J5
      have s5' := laid_same hXq hq5
      have e5' := laid_at hXq
      clear hXq
      exact kq _ _ (s2'.trans (s4'.trans s5')) ⟨o, r, rfl, e, q5, rfl, e5'⟩
    intro D2 zb J3 hD2 u1 hyb e
    have fb := rows_map (brk_ren P N) t6 e
    clear e
    have su := su.trans u1
    have fc := fc.same u1
    have hyp := u1 _ _ hyp
    have hyc := u1 _ _ hyc
    refine ⟨_, rfl, as, rfl, lc_map (fun x y H' => ∃ p c, x = .ref p ∧ H1 p = some (.tup (Shp.row c)) ∧ ∃ a, y = .ref a ∧ H' a = some (.tup (Shp.row (Shp.ren P N c)))) (.t (su _ _ t7)) (Nat.lt_of_le_of_lt ls2 (by decide)) (fun x y H H' s ⟨p, b, e, o, a, e2, h⟩ => ⟨p, b, e, o, a, e2, s _ _ h⟩)
        (fun x y H D l hD ⟨p, b, e, o, a, e2, h⟩ => ⟨p, b, e, o, a, e2, hide_of hD (fun _ z => by cases z) h⟩) ?_ ?_⟩
    · intro x J0 kk hx s0 kq
      obtain ⟨o, r, rfl, hm, e⟩ := t8.mem hx
      have e0 := s0 _ _ (su _ _ e)
      have ha0 := s0 _ _ (su _ _ ha)
      have hb0 := s0 _ _ (su _ _ hb)
      have hc0 := s0 _ _ (su _ _ hc)
      have m1 : r.name ∈ W.vnames := List.mem_append_right _ (List.mem_map_of_mem (f := fun b : Shp => b.name) hm)
      have m2 := g.sports r hm
      refine ⟨rfl, _, rfl, _, rfl, o, _, 0, _, rfl, rfl, .inl (.inl e0), rfl, c, _, rfl, (by rw [← gN.val m1]; exact DGet.k (k := .inr (S _)) hc0), _, rfl, _, rfl, o, _, 1, _, rfl, rfl, .inl (.inl e0), rfl, a, _, rfl, (by rw [← gP.val m2.1]; exact DGet.k (k := .inr (S _)) ha0), _, rfl, _, rfl, o, _, 2, _, rfl, rfl, .inl (.inl e0), rfl, a, _, rfl, (by rw [← gP.val m2.2]; exact DGet.k (k := .inr (S _)) ha0), ?_⟩
      refine ⟨Nat.le_of_ble_eq_true rfl, fun t ht => ?_⟩
      generalize hXq : upd _ t _ = J2
      have s2' := laid_same hXq ht
      have e2' := laid_at hXq
      clear hXq
      refine ⟨_, rfl, _, rfl, o, _, rfl, .inl (.inl (s2' _ _ e0)), (by show ¬ (HT.sIx 6 0 (some 3) = 0 ∧ HT.sIx 6 6 none = 6); decide +kernel), fun q3 hq3 => ?_⟩
      generalize hXq : upd _ q3 _ = J4
      have s4' := laid_same hXq hq3
      have e4' := laid_at hXq
      clear hXq
      refine ⟨t, q3, _, _, rfl, rfl, .inl (.inl (s4' _ _ e2')), .inl (.inl e4'), (by intro z; cases z), Nat.le_of_ble_eq_true rfl, (fun z => by cases z), fun _ q5 hq5 => ?_⟩
      generalize hXq : upd _ q5 _ = J5
      have s5' := laid_same hXq hq5
      have e5' := laid_at hXq
      clear hXq
      exact kq _ _ (s2'.trans (s4'.trans s5')) ⟨o, r, rfl, e, q5, rfl, e5'⟩
    intro D3 zs J4 hD3 u1 hys e
    have fs := rows_map (shp_ren P N) t8 e
    clear e
    have su := su.trans u1
    have fc := fc.same u1
    have fb := fb.same u1
    have hyp := u1 _ _ hyp
    have hyc := u1 _ _ hyc
    have hyb := u1 _ _ hyb
    refine ⟨Nat.le_of_ble_eq_true rfl, fun t9 ht9 => ?_⟩
    generalize hXq : upd _ t9 _ = J9
    have u9 := laid_same hXq ht9
    have e9 := laid_at hXq
    clear hXq
    have su := su.trans u9
    have fc := fc.same u9
    have fb := fb.same u9
    have fs := fs.same u9
    refine ⟨t9, W.ren P C N, D0, D1, D2, D3, zc, zb, zs, rfl, g.ren gP gC gN, e9, .l (u9 _ _ hyp), .l (u9 _ _ hyc), ?_, .l (u9 _ _ hyb), ?_, .l (u9 _ _ hys), ?_, fun x H7 hx s10 hW7 => ?_⟩
    · show RowsIs J9 zc ((W.chans.map (Chan.ren P C)).map Chan.vals)
      rw [List.map_map]
      exact fc
    · show RowsIs J9 zb ((W.brks.map (Brk.ren P N)).map Brk.vals)
      rw [List.map_map]
      exact fb
    · show RowsIs J9 zs ((W.shps.map (Shp.ren P N)).map Shp.row)
      rw [List.map_map]
      exact fs
    · exact q x H7 (none_back (so.trans su) hx) (so.trans (su.trans s10)) hW7
end
end Law
end
section
set_option Elab.async false
set_option linter.all false
set_option maxRecDepth 100000
set_option maxHeartbeats 4000000
namespace Law
open PySem PySem.Spec PyProof.Rows L2 IK SX
def Ent.ren (C : NM) (e : Ent) : Ent := (e.1, Law.ren C e.2)
def tabRen (C N : NM) (T : Tab) : Tab := T.map fun e => (Law.ren N e.1, e.2.map (Ent.ren C))
theorem ent_ren (C : NM) (a b : Ent) (h : entV a = entV b) : entV (Ent.ren C a) = entV (Ent.ren C b) := by
  simp only [entV, List.cons.injEq, V.int.injEq, V.str.injEq] at h
  simp only [entV, Ent.ren, h.1, S_inj h.2.1]
def spRenT (K : PySem.W.Frag) (k : KA) : Sp := fun vs H Q _ => ∃ (p a bc bv : Addr) (W : Wld) (T : Tab) (C N : NM), vs = [.ref p, .ref a, .ref bc, .ref bv] ∧ WldAt k H p W ∧ W.Good ∧ TabAt K H a T ∧ TGood W T ∧ H bc = some (.dK (nmKvs C)) ∧ H bv = some (.dK (nmKvs N)) ∧ NGood W.cnames C ∧ NGood W.vnames N ∧
  ∀ x H', H x = none → Same H H' → TabF H H' x (tabRen C N (tabTold W T)) → Q (.ref x) H'
section
variable {P : Program} {w : World} {K : PySem.W.Frag} {mg : Str → Option Value} {base : Heap}
theorem ok_renT {k : KA} {f : Addr} {fd : FuncData} (F : Fun K "renamed_table" "renamed_table" s_renamed_table f fd) (TW : Cl K k.W wldK) (TC : Cl K k.C chanK) (TB : Cl K k.B brkK) (TS : Cl K k.S shpK) (MC : Me P w K mg base CX0 1 k.W "channels" ["self"] (spChannels k)) (MV : Me P w K mg base CX0 1 k.W "vessels" ["self"] (spVessels k))
    (DF : Dn P w K mg base CX0 2 "need_names_for" ["names", "thing"] spNamesFor) (DO : Dn P w K mg base CX0 1 "names_of" ["things"] (spNamesOf K)) (DT : Dn P w K mg base CX0 6 "table_told" ["world", "table"] (spTableTold K k)) : FnOk P w K mg base CX0 7 f fd ["world", "table", "channels", "vessels"] (spRenT K k) := by
  refine F.ok sc_renamed_table (fun vs H Q E h => ?_) (fun cdv A outer s H vs Q E hr h => ?_)
  · obtain ⟨p, a, bc, bv, W, T, C, N, rfl, _⟩ := h
    rfl
  · obtain ⟨p, a, bc, bv, W, T, C, N, rfl, hW, g, hT, tg, hb1, hc1, gC, gN, hyes⟩ := h
    have hu := room_u1 hr
    refine ⟨_, (pss_cons (ps_set (i := 4) sc_renamed_table.nd rfl (.inl rfl) (pe_d DT (hr.mono (by decide)) (by rfl) pass0 (pa_cons (pv 0) (pa_cons (pv 1) pa_nil))))
      (pss_cons (ps_expr (pe_d DF (hr.mono (by decide)) (by rfl) pass0 (pa_cons (pe_d DO (hr.mono (by decide)) (by rfl) pass0 (pa_cons (pe_me0 MC TW.cls (hr.mono (by decide)) pass0 (pv 0)) pa_nil)) (pa_cons (pv 2) pa_nil))))
      (pss_cons (ps_expr (pe_d DF (hr.mono (by decide)) (by rfl) pass0 (pa_cons (pe_d DO (hr.mono (by decide)) (by rfl) pass0 (pa_cons (pe_me0 MV TW.cls (hr.mono (by decide)) pass0 (pv 0)) pa_nil)) (pa_cons (pv 3) pa_nil))))
      (pss_cons (ps_set (i := 5) sc_renamed_table.nd rfl (.inl rfl) pe_dnewK)
      (pss_cons (ps_lock (ps_for PassesOwn.never rfl (pi_items (pv 4)) (pg_tup rfl (pgs_cons (pg_name (i := 6) sc_renamed_table.nd rfl (.inl rfl)) (pgs_cons (pg_name (i := 7) sc_renamed_table.nd rfl (.inl rfl)) pgs_nil)))
      (pss_one (ps_dput hu (pv 5) (pe_dget hu (pv 3) (pv 6) (fun _ _ => rfl)) (pe_lc (own := [("hour", 8), ("channel", 9)]) (g := gTup K 2 (gCons (gName 8) (gCons (gName 9) gNil))) (tt := tYes) rfl sc_renamed_table.nd (pi_seq (pv 7)) (blkOk_by (N := ["world", "table", "channels", "vessels", "own", "found", "name", "entries", "hour", "channel"]) (sc := defScope s_renamed_table) (by decide +kernel)) (fun _ _ _ _ _ => pg_tup rfl (pgs_cons (pg_name (i := 8) sc_renamed_table.nd rfl (Or.inl rfl)) (pgs_cons (pg_name (i := 9) sc_renamed_table.nd rfl (Or.inl rfl)) pgs_nil))) (fun _ _ _ _ _ => pts_nil) (fun _ _ _ _ _ => (pe_tup (pa_cons (pv 8) (pa_cons (pe_dget hu (pv 2) (pv 9) (fun _ _ => rfl)) pa_nil))))) rfl))))
      (pss_one (ps_ret (pv 5)))))))), ?_⟩
    refine ⟨_, rfl, _, rfl, p, a, W, T, rfl, hW, g, hT, tg, fun c H1 hc s1 hL => ?_⟩
    have vn := vnames_le g
    have cn : W.cnames.length ≤ 12 := by rw [Wld.cnames, List.length_map]; exact g.chans
    obtain ⟨xc, xb, xs, hF, oc, ob, os⟩ := id hW
    have lc1 : xc.length ≤ 12 := by rw [oc.1, List.length_map]; exact g.chans
    have lb1 : xb.length ≤ 4 := by rw [ob.1, List.length_map]; exact g.brks
    have ls1 : xs.length ≤ 6 := by rw [os.1, List.length_map]; exact g.shps
    obtain ⟨dx, _, _, _, _, hp, _⟩ := id hF
    refine ⟨_, rfl, p, dx, _, rfl, s1 _ _ hp, look_no (by decide +kernel), p, W, xc, xb, xs, rfl, hF.same s1, lc1, fun l H3 hl s3 e3 => ?_⟩
    refine ⟨l, xc, W.cnames, rfl, e3, (named_chan TC oc).same (s1.trans s3), by omega, fun l2 H4 hl2 s4 e4 => ?_⟩
    refine ⟨_, rfl, l2, bc, W.cnames, C, rfl, e4, s4 _ _ (s3 _ _ (s1 _ _ hb1)), gC, fun H5 s5 => ?_⟩
    have s1' := s3.trans (s4.trans s5)
    clear e3 e4 hl hl2
    refine ⟨_, rfl, p, dx, _, rfl, s1' _ _ (s1 _ _ hp), look_no (by decide +kernel), p, W, xc, xb, xs, rfl, hF.same (s1.trans s1'), by omega, fun l H3 hl s3 e3 => ?_⟩
    refine ⟨l, xb ++ xs, W.vnames, rfl, e3, (named_ves TB TS ob os).same ((s1.trans s1').trans s3), by omega, fun l2 H4 hl2 s4 e4 => ?_⟩
    refine ⟨_, rfl, l2, bv, W.vnames, N, rfl, e4, s4 _ _ (s3 _ _ (s1' _ _ (s1 _ _ hc1))), gN, fun H1' s6 => ?_⟩
    have s1' := s1'.trans (s3.trans (s4.trans s6))
    clear e3 e4 hl hl2
    have hL := hL.same s1'
    have s1 := s1.trans s1'
    clear s1'
    intro d hd
    generalize hXq : upd _ d _ = H2
    have s2 := laid_same hXq hd
    have e2 := laid_at hXq
    clear hXq
    obtain ⟨us0, c1, c2⟩ := hL
    have ncd : c ≠ d := fun z => by rw [z, hd] at c1; cases c1
    have g1 : ∀ {e : List Nat × List Ent}, e ∈ tabTold W T → e.1 ∈ W.vnames ∧ e.2 ≠ [] ∧ ∃ x ∈ T, x.1 = e.1 ∧ x.2 = e.2 := fun h => tabTold_mem h
    have g2 := tabTold_len g T
    have g3 := tabTold_nd g T
    have g4 : ∀ e ∈ tabTold W T, e.2.length ≤ 1000 := fun e he => by
      obtain ⟨_, _, x, hx, _, e2⟩ := g1 he
      rw [← e2]
      exact tg.few x hx
    have g5 : ∀ e ∈ tabTold W T, ∀ x ∈ e.2, x.2 ∈ W.cnames := fun e he => by
      obtain ⟨_, _, x, hx, _, e2⟩ := g1 he
      rw [← e2]
      exact (tg.rise x hx).mem
    generalize tabTold W T = T' at c1 c2 g1 g2 g3 g4 g5 hyes ⊢
    have bvd : bv ≠ d := fun z => by rw [z] at hc1; rw [s1 _ _ hc1] at hd; cases hd
    have bvc : bv ≠ c := fun z => by rw [z] at hc1; rw [hc1] at hc; cases hc
    have bcd : bc ≠ d := fun z => by rw [z] at hb1; rw [s1 _ _ hb1] at hd; cases hd
    have bcc : bc ≠ c := fun z => by rw [z] at hb1; rw [hb1] at hc; cases hc
    have hv2 := s2 _ _ (s1 _ _ hc1)
    have hb2 := s2 _ _ (s1 _ _ hb1)
    have c1' := s2 _ _ c1
    have c2' := c2.same s2
    refine ⟨c, _, c1', trivial, fun od => ?_⟩
    refine ⟨_, rfl, c, od, _, rfl, upd_same, ?_⟩
    have c3 := c2'.lock (u := .frz od (.dK (kvsOf T' us0))) c1'
    refine for_it walk_items (fun i σ H' => ∃ y z u t, σ = [some (.ref p), some (.ref a), some (.ref bc), some (.ref bv), some (.ref c), some (.ref d), y, z, u, t] ∧ Bar d (upd H2 c (.frz od (.dK (kvsOf T' us0)))) H' ∧ H' c = some (.frz od (.dK (kvsOf T' us0))) ∧
      ∃ us, H' d = some (.dK (kvsOf (tabRen C N (T'.take i)) us)) ∧ ValsL H' us (tabRen C N (T'.take i)) ∧ ∀ v ∈ us, ∃ b, v = .ref b ∧ H b = none) ⟨_, _, _, _, rfl, Bar.refl, upd_same, [], by rw [upd_ne (Ne.symm ncd)]; exact e2, ⟨rfl, fun i v e h1 _ => by simp at h1⟩, fun _ h => by cases h⟩ (fun i σ H' _ ⟨_, _, _, _, _, _, e, _⟩ => e) ?_ ?_
    · rintro i x σ H' H3 hi ⟨_, _, _, _, rfl, b, hfz, us, hd', hus, hfr⟩ ⟨t, kx, v, rfl, ht, rfl, hk, hvx⟩
      rw [kvsOf_len c2.1] at hi
      have hkv := kvsOf_at c2.1 hi
      dsimp only at hk hvx
      rw [hkv] at hk hvx
      obtain rfl : kx = .str (S (T'[i]).1) := (Option.some.inj hk).symm
      obtain rfl : v = us0[i]'(by rw [c2.1]; exact hi) := (Option.some.inj hvx).symm
      have hm : T'[i] ∈ T' := List.getElem_mem hi
      generalize hXq : upd _ t _ = H3
      have s3 := laid_same hXq ht
      have e3 := laid_at hXq
      clear hXq
      have hus3 := hus.same s3
      have hd3 := s3 _ _ hd'
      have hfz3 := s3 _ _ hfz
      have b3 := b.trans (Bar.same (p := d) s3)
      obtain ⟨l, ys, ev, hl, hr3⟩ := c3.2 i _ T'[i] (by rw [List.getElem?_eq_getElem (by rw [c2.1]; exact hi)]) (List.getElem?_eq_getElem hi)
      have dd : upd H2 c (.frz od (.dK (kvsOf T' us0))) d = some (.dK []) := by rw [upd_ne (Ne.symm ncd)]; exact e2
      have nld : l ≠ d := fun z => by rw [z, dd] at hl; cases hl
      have hl3 := b3 _ _ nld hl
      have hr4 : RowsIs H3 ys ((T'[i]).2.map entV) := hr3.bar b3 dd
      refine ⟨t, _, rfl, .inl (.inl e3), rfl, _, _, rfl, _, _, rfl, rfl, ?_⟩
      rw [ev]
      refine ⟨_, rfl, l, rfl, lc_map (fun x y H' => ∃ p b, x = .ref p ∧ H3 p = some (.tup (entV b)) ∧ ∃ a, y = .ref a ∧ H' a = some (.tup (entV (Ent.ren C b)))) (.l hl3) (Nat.lt_of_le_of_lt (by rw [hr4.1, List.length_map]; exact g4 _ hm : ys.length ≤ 1000) (by decide)) (fun x y H H' s ⟨p, b, e, o, a, e2, h⟩ => ⟨p, b, e, o, a, e2, s _ _ h⟩)
        (fun x y H D l hD ⟨p, b, e, o, a, e2, h⟩ => ⟨p, b, e, o, a, e2, hide_of hD (fun _ z => by cases z) h⟩) ?_ ?_⟩
      · intro x J0 kk hx s0 kq
        obtain ⟨o, e, rfl, hme, he⟩ := hr4.mem hx
        refine ⟨o, _, rfl, .inl (.inl (s0 _ _ he)), rfl, _, _, rfl, _, _, rfl, rfl, rfl, ?_⟩
        refine ⟨_, rfl, _, rfl, _, rfl, bc, _, rfl, (by rw [← gC.val (g5 _ hm e hme)]; exact DGet.k (k := .inr (S _)) (s0 _ _ (b3 bc _ bcd (by rw [upd_ne bcc]; exact hb2)))), ?_⟩
        refine ⟨Nat.le_of_ble_eq_true rfl, fun q hq => ?_⟩
        generalize hXq : upd _ q _ = J1
        have s1' := laid_same hXq hq
        have e1' := laid_at hXq
        clear hXq
        exact kq _ _ s1' ⟨o, e, rfl, he, q, rfl, e1'⟩
      intro D zs J6 hD s7 hy e
      have rD := rows_map (ent_ren C) hr4 e
      have nv := (g1 hm).1
      refine ⟨_, rfl, _, rfl, _, rfl, bv, .str (S (Law.ren N (T'[i]).1)), rfl, (by rw [← gN.val nv]; exact DGet.k (k := .inr (S _)) (s7 _ _ (b3 bv _ bvd (by rw [upd_ne bvc]; exact hv2)))), d, _, rfl, DPut.k (k := .inr (S (Law.ren N (T'[i]).1))) (s7 _ _ hd3) (Nat.lt_of_le_of_lt ?_ (by decide : 100 < sizeLine)), ?_⟩
      · rw [kvsOf_len hus.1]
        unfold tabRen
        rw [List.length_map, List.length_take]
        omega
      have tk : tabRen C N (T'.take (i + 1)) = tabRen C N (T'.take i) ++ [(Law.ren N (T'[i]).1, (T'[i]).2.map (Ent.ren C))] := by
        unfold tabRen
        rw [List.take_succ, List.getElem?_eq_getElem hi, List.map_append]
        rfl
      have nn : ∀ e ∈ tabRen C N (T'.take i), e.1 ≠ Law.ren N (T'[i]).1 := by
        intro e he z
        obtain ⟨x, hx, rfl⟩ := List.mem_map.mp he
        obtain ⟨j, hj⟩ := List.getElem?_of_mem hx
        rw [List.getElem?_take] at hj
        split at hj
        · have hjl : j < T'.length := (List.getElem?_eq_some_iff.mp hj).1
          have hjl2 : j < (T'.map (·.1)).length := by rw [List.length_map]; exact hjl
          have := (List.getElem?_inj hjl2 g3 (j := i)).mp (by rw [List.getElem?_map, List.getElem?_map, hj, List.getElem?_eq_getElem hi]; exact congrArg some (gN.inj (g1 (List.mem_of_getElem? hj)).1 nv z))
          omega
        · cases hj
      refine ⟨_, _, _, _, rfl, (b3.trans (Bar.same s7)).trans Bar.at_, ?_, us ++ [.ref D], ?_, ?_, ?_⟩
      · rw [upd_ne ncd]
        exact s7 _ _ hfz3
      · rw [upd_same, putK_new _ (val_none nn), tk, kvsOf_snoc hus.1]
      · rw [tk]
        refine ((hus3.same s7).snoc hy ?_).bar Bar.at_ (s7 _ _ hd3)
        rw [List.map_map]
        exact rD
      · intro v hv
        rcases List.mem_append.mp hv with hv | hv
        · exact hfr v hv
        · obtain rfl := List.mem_singleton.mp hv
          refine ⟨D, rfl, ?_⟩
          cases e : H D with
          | none => rfl
          | some o =>
            have e1 := s2 _ _ (s1 _ _ e)
            have Dd : D ≠ d := fun z => by rw [z] at e; rw [s1 _ _ e] at hd; cases hd
            by_cases Dc : D = c
            · rw [Dc, hfz3] at hD
              cases hD
            · rw [b3 D o Dd (by rw [upd_ne Dc]; exact e1)] at hD
              cases hD
    · rintro σ H' ⟨_, _, _, _, rfl, b, hfz, us, hd', hus, hfr⟩
      rw [kvsOf_len c2.1, List.take_length] at hd' hus
      refine ⟨hfz, _, rfl, ?_⟩
      refine hyes d _ (none_back s1 hd) (fun x o e => ?_) ⟨us, ?_, ?_, hfr⟩
      · have e1 := s2 _ _ (s1 _ _ e)
        have xd : x ≠ d := fun z => by rw [z] at e; rw [s1 _ _ e] at hd; cases hd
        by_cases xc : x = c
        · rw [xc, upd_same, ← e1, xc, c1']
        · rw [upd_ne xc]
          exact b x o xd (by rw [upd_ne xc]; exact e1)
      · rw [upd_ne (Ne.symm ncd)]
        exact hd'
      · exact hus.unlock hfz ⟨fun _ z => (by cases z), fun _ z => (by cases z)⟩
end
end Law
end
section
set_option Elab.async false
set_option linter.all false
set_option maxRecDepth 100000
set_option maxHeartbeats 4000000
namespace Law
open PySem PySem.Spec PyProof.Rows L2 IK SX
/-! ### the law's draws -/
/-- the box at p: what is left of a cell's digits, its mixed number, how often it was asked (at most c) -/
def BoxAt (H : Hp) (p : Addr) (c : Nat) : Prop := ∃ a b d : Int, H p = some (.lst [.int a, .int b, .int d]) ∧ 0 ≤ b ∧ b < 2147483648 ∧ 0 ≤ d ∧ d ≤ c
theorem BoxAt.mono {H : Hp} {p : Addr} {c c' : Nat} (h : BoxAt H p c) (hc : c ≤ c') : BoxAt H p c' := by
  obtain ⟨a, b, d, h1, h2, h3, h4, h5⟩ := h
  exact ⟨a, b, d, h1, h2, h3, h4, by omega⟩
theorem BoxAt.some {H : Hp} {p : Addr} {c : Nat} (h : BoxAt H p c) : H p ≠ none := by
  obtain ⟨a, b, d, h1, _⟩ := h
  rw [h1]
  exact fun z => nomatch z
theorem BoxAt.same {H H' : Hp} {p : Addr} {c : Nat} (h : BoxAt H p c) (s : Same H H') : BoxAt H' p c := by
  obtain ⟨a, b, d, h1, h2⟩ := h
  exact ⟨a, b, d, s _ _ h1, h2⟩
/-- no box -/
def nb : HO → Bool
  | .lst [.int _, .int _, .int _] => false
  | _ => true
def Nb (H H' : Hp) : Prop := ∀ b o, nb o = true → H b = some o → H' b = some o
theorem Nb.refl {H : Hp} : Nb H H := fun _ _ _ h => h
theorem Nb.trans {H H1 H2 : Hp} (h : Nb H H1) (k : Nb H1 H2) : Nb H H2 := fun b o n e => k b o n (h b o n e)
theorem Nb.same {H H' : Hp} (s : Same H H') : Nb H H' := fun b o _ e => s b o e
/-- where only the box is another one -/
theorem BoxAt.nb {H H' : Hp} {p : Addr} {c : Nat} (h : BoxAt H p c) (b : Bar p H H') : Nb H H' := fun x o n e => b x o (fun z => by
  obtain ⟨u, v, w, h1, _⟩ := h
  rw [z, h1] at e
  rw [← Option.some.inj e] at n
  cases n) e
theorem nb_rd {H H' : Hp} {a : Addr} {u : HO} (s : Nb H H') (n : nb u = true) (h : Rd H a u) : Rd H' a u := by
  rcases h with h | ⟨o, h⟩
  · exact .inl (s _ _ n h)
  · exact .inr ⟨o, s _ _ rfl h⟩
theorem nb_seq {K : PySem.W.Frag} {H H' : Hp} {a : Addr} {xs : List V} (s : Nb H H') (n : nb (.lst xs) = true) (h : SqA K H a xs) : SqA K H' a xs := by
  rcases h with (h | h) | (h | h)
  · exact .inl (.inl (nb_rd s n h))
  · exact .inl (.inr h)
  · exact .inr (.inl (nb_rd s rfl h))
  · exact .inr (.inr h)
theorem nb_lst {xs : List V} (h : ∀ x ∈ xs, ∀ i, x ≠ .int i) : nb (.lst xs) = true := by
  rcases xs with _ | ⟨a, _ | ⟨b, _ | ⟨c, _ | ⟨d, l⟩⟩⟩⟩
  · rfl
  · cases a <;> rfl
  · cases a <;> cases b <;> rfl
  · have := h a (by simp)
    cases a <;> first | rfl | exact absurd rfl (this _)
  · cases a <;> cases b <;> cases c <;> rfl
theorem nb_txts {ws : List (List Nat)} : nb (.lst (txts ws)) = true := nb_lst fun x hx i z => by
  obtain ⟨w, _, rfl⟩ := List.mem_map.mp hx
  cases z
theorem nb_objs {C : Addr} {H : Hp} {ks : List Str} {xs : List V} {vss : List (List V)} (h : Objs C H ks xs vss) : nb (.lst xs) = true := nb_lst fun x hx i z => by
  obtain ⟨j, hj⟩ := List.getElem?_of_mem hx
  have h1 : j < vss.length := by rw [← h.1]; exact (List.getElem?_eq_some_iff.mp hj).1
  obtain ⟨p, e, _⟩ := h.2 j x vss[j] hj (List.getElem?_eq_getElem h1)
  rw [e] at z
  cases z
theorem nb_rows {H : Hp} {xs : List V} {vss : List (List V)} (h : RowsIs H xs vss) : nb (.lst xs) = true := nb_lst fun x hx i z => by
  obtain ⟨j, hj⟩ := List.getElem?_of_mem hx
  have h1 : j < vss.length := by rw [← h.1]; exact (List.getElem?_eq_some_iff.mp hj).1
  obtain ⟨p, e, _⟩ := h.2 j x vss[j] hj (List.getElem?_eq_getElem h1)
  rw [e] at z
  cases z
theorem Objs.nb {C : Addr} {H H' : Hp} {ks : List Str} {xs : List V} {vss : List (List V)} (h : Objs C H ks xs vss) (s : Nb H H') : Objs C H' ks xs vss := ⟨h.1, fun i x vs h1 h2 => by
  obtain ⟨p, e, dx, h⟩ := h.2 i x vs h1 h2
  exact ⟨p, e, dx, s _ _ rfl h⟩⟩
theorem RowsIs.nb {H H' : Hp} {ys : List V} {rows : List (List V)} (h : RowsIs H ys rows) (s : Nb H H') : RowsIs H' ys rows := ⟨h.1, fun i y r h1 h2 => by
  obtain ⟨a, e, h⟩ := h.2 i y r h1 h2
  exact ⟨a, e, s _ _ rfl h⟩⟩
theorem ToldAt.nb {H H' : Hp} {a : Addr} {W : Wld} (h : ToldAt H a W) (s : Nb H H') : ToldAt H' a W := by
  obtain ⟨ap, ac, ab, as, yc, yb, ys, h1, h2, h3, h4, h5, h6, h7, h8⟩ := h
  exact ⟨ap, ac, ab, as, yc, yb, ys, s _ _ rfl h1, s _ _ rfl h2, s _ _ rfl h3, h4.nb s, s _ _ rfl h5, h6.nb s, s _ _ rfl h7, h8.nb s⟩
theorem WldAt.nb {k : KA} {H H' : Hp} {p : Addr} {W : Wld} (h : WldAt k H p W) (s : Nb H H') : WldAt k H' p W := by
  obtain ⟨xc, xb, xs, ⟨dx, lp, lc, lb, ls, h1, h2, h3, h4, h5⟩, oc, ob, os⟩ := h
  exact ⟨xc, xb, xs, ⟨dx, lp, lc, lb, ls, s _ _ rfl h1, s _ _ nb_txts h2, s _ _ (nb_objs oc) h3, s _ _ (nb_objs ob) h4, s _ _ (nb_objs os) h5⟩, oc.nb s, ob.nb s, os.nb s⟩
theorem EntsAt.nb {K : PySem.W.Frag} {H H' : Hp} {vs : List V} {T : Tab} (h : EntsAt K H vs T) (s : Nb H H') : EntsAt K H' vs T := ⟨h.1, fun i v e h1 h2 => by
  obtain ⟨b, ys, e1, e2, e3⟩ := h.2 i v e h1 h2
  exact ⟨b, ys, e1, nb_seq s (nb_rows e3) e2, e3.nb s⟩⟩
theorem TabAt.nb {K : PySem.W.Frag} {H H' : Hp} {a : Addr} {T : Tab} (h : TabAt K H a T) (s : Nb H H') : TabAt K H' a T := by
  obtain ⟨vs, h1, h2⟩ := h
  exact ⟨vs, s _ _ rfl h1, h2.nb s⟩
theorem ValsL.nb {H H' : Hp} {vs : List V} {T : Tab} (h : ValsL H vs T) (s : Nb H H') : ValsL H' vs T := ⟨h.1, fun i v e h1 h2 => by
  obtain ⟨b, ys, e1, e2, e3⟩ := h.2 i v e h1 h2
  exact ⟨b, ys, e1, s _ _ (nb_rows e3) e2, e3.nb s⟩⟩
theorem TabL.nb {H H' : Hp} {a : Addr} {T : Tab} (h : TabL H a T) (s : Nb H H') : TabL H' a T := by
  obtain ⟨vs, h1, h2⟩ := h
  exact ⟨vs, s _ _ rfl h1, h2.nb s⟩
/-- number r of a list, r drawn below its length -/
theorem at_drawn {α : Type} {xs : List α} {r : Int} (h0 : 0 ≤ r) (h1 : r < (xs.length : Int)) : ∃ x, atI xs r = some x ∧ x ∈ xs := by
  obtain ⟨n, rfl⟩ := Int.eq_ofNat_of_zero_le h0
  have hn : n < xs.length := by omega
  exact ⟨xs[n], atI_nat (List.getElem?_eq_getElem hn), List.getElem_mem hn⟩
def spCell (K : PySem.W.Frag) : Sp := fun vs H Q _ => ∃ (a : Addr) (ns : List Int) (k : Nat), vs = [.ref a, .int k] ∧ SqL K H a (ns.map V.int) ∧ ns.length ≤ 63 ∧ ∀ n : Int, Q (.int n) H
def spBox : Sp := fun vs H Q _ => ∃ n : Int, vs = [.int n] ∧ ∀ p H', H p = none → BoxAt H' p 0 → Same H H' → Q (.ref p) H'
def spTake : Sp := fun vs H Q _ => ∃ (p : Addr) (m : Int) (c : Nat), vs = [.ref p, .int m] ∧ BoxAt H p c ∧ c < 100000 ∧ 0 < m ∧ m < 1000000000 ∧ ∀ (r : Int) H', 0 ≤ r → r < m → BoxAt H' p (c + 1) → Bar p H H' → Q (.int r) H'
def spNumber : Sp := fun vs H Q _ => ∃ (p : Addr) (lo hi : Int) (c : Nat), vs = [.ref p, .int lo, .int hi] ∧ BoxAt H p c ∧ c < 90000 ∧ lo ≤ hi ∧ hi - lo < 100000000 ∧ ∀ (r : Int) H', lo ≤ r → r ≤ hi → BoxAt H' p (c + 2) → Bar p H H' → Q (.int r) H'
section
variable {P : Program} {w : World} {K : PySem.W.Frag} {mg : Str → Option Value} {base : Heap}
theorem ok_cell {f : Addr} {fd : FuncData} (F : Fun K "_law_cell" "_law_cell" s__law_cell f fd) (B : Blt mg) : FnOk P w K mg base CX0 1 f fd ["_law_script", "_law_k"] (spCell K) := by
  refine F.ok sc__law_cell (fun vs H Q E h => ?_) (fun cdv A outer s H vs Q E hr h => ?_)
  · obtain ⟨a, ns, k, rfl, _⟩ := h
    rfl
  · obtain ⟨a, ns, k, rfl, hS, hl, q⟩ := h
    refine ⟨_, (pss_cons (ps_if (pt_cmpR op_lt (pv 1) (pe_callB call_len_seq (by rfl) B.len PySem.boot_len (pa_cons (pv 0) pa_nil)) (nomark _)) (pss_one (ps_ret (pe_ix ix_list (pv 0) (pv 1) (fun _ _ => rfl)))) pss_nil)
      (pss_one (ps_ret (pe_op op_add (pe_op op_mul pe_int (pv 1)) pe_int)))), ?_⟩
    refine ⟨_, rfl, _, rfl, a, _, rfl, .inl hS, _, _, rfl, rfl, _, rfl, ?_⟩
    rw [List.length_map]
    refine ite2 (fun hk => ?_) (fun _ => ?_)
    · have hk' : k < ns.length := by simpa using hk
      exact ⟨_, rfl, _, rfl, a, _, _, .int ns[k], rfl, rfl, hS, (by rw [atI_nat] <;> simp [hk']), q _⟩
    · exact ⟨_, rfl, _, _, rfl, rfl, .inl (by decide), _, _, rfl, rfl, q _⟩
theorem ok_box {f : Addr} {fd : FuncData} (F : Fun K "_law_box" "_law_box" s__law_box f fd) (B : Blt mg) : FnOk P w K mg base CX0 1 f fd ["_law_cell_here"] spBox := by
  refine F.ok sc__law_box (fun vs H Q E h => ?_) (fun cdv A outer s H vs Q E hr h => ?_)
  · obtain ⟨n, rfl, _⟩ := h
    rfl
  · obtain ⟨n, rfl, q⟩ := h
    refine ⟨_, (pss_one (ps_ret (pe_lst (pa_cons (pe_callB (call_max2 rfl) (by rfl) B.max (by decide +kernel) (pa_cons pe_int (pa_cons (pe_op op_sub (pv 0) (pe_op op_pow pe_int pe_int)) pa_nil))) (pa_cons (pe_op op_mod (pv 0) pe_int) (pa_cons pe_int pa_nil)))))), ?_⟩
    refine ⟨_, rfl, _, _, rfl, rfl, ⟨by decide, by decide, by decide⟩, _, _, rfl, rfl, _, _, rfl, _, rfl, _, _, rfl, rfl, (by show (0 : Int) < 2147483629; decide), Nat.le_of_ble_eq_true rfl, fun p hp => ?_⟩
    refine q p _ hp ⟨_, _, _, upd_same, ?_, ?_, by decide, by decide⟩ (same_new hp)
    · show 0 ≤ n % 2147483629
      omega
    · show n % 2147483629 < 2147483648
      omega
theorem at0 (a b c : V) : atI [a, b, c] 0 = some a := rfl
theorem at1 (a b c : V) : atI [a, b, c] 1 = some b := rfl
theorem at2 (a b c : V) : atI [a, b, c] 2 = some c := rfl
theorem ok_take {f : Addr} {fd : FuncData} (F : Fun K "_law_take" "_law_take" s__law_take f fd) : FnOk P w K mg base CX0 1 f fd ["_law_box_here", "_law_many"] spTake := by
  refine F.ok sc__law_take (fun vs H Q E h => ?_) (fun cdv A outer s H vs Q E hr h => ?_)
  · obtain ⟨p, m, c, rfl, _⟩ := h
    rfl
  · obtain ⟨p, m, c, rfl, ⟨a, b, d, hp, b0, b1, d0, d1⟩, hc, m0, m1, q⟩ := h
    refine ⟨_, (pss_cons (ps_if (pt_cmpR op_gt (pe_ix ix_list (pv 0) pe_int (fun _ _ => rfl)) pe_int (nomark _)) (pss_cons (ps_set (i := 2) sc__law_take.nd rfl (.inl rfl) (pe_op op_mod (pe_ix ix_list (pv 0) pe_int (fun _ _ => rfl)) (pv 1)))
      (pss_cons (ps_asg (pe_op op_fdivW (pe_ix ix_list (pv 0) pe_int (fun _ _ => rfl)) (pv 1)) (pg_sub (pv 0) pe_int set_list))
      (pss_one (ps_ret (pv 2))))) pss_nil)
      (pss_cons (ps_asg (pe_op op_add (pe_ix ix_list (pv 0) pe_int (fun _ _ => rfl)) pe_int) (pg_sub (pv 0) pe_int set_list))
      (pss_cons (ps_set (i := 3) sc__law_take.nd rfl (.inl rfl) (pe_op op_mod (pe_op op_pow (pe_op op_add (pe_op op_add (pe_ix ix_list (pv 0) pe_int (fun _ _ => rfl)) (pe_op op_mul pe_int (pe_ix ix_list (pv 0) pe_int (fun _ _ => rfl)))) pe_int) pe_int) pe_int))
      (pss_cons (ps_set (i := 4) sc__law_take.nd rfl (.inl rfl) (pe_op op_mod (pe_op op_pow (pe_op op_add (pe_op op_add (pe_op op_fdiv (pv 3) pe_int) (pe_op op_mul pe_int (pe_ix ix_list (pv 0) pe_int (fun _ _ => rfl)))) pe_int) pe_int) pe_int))
      (pss_one (ps_ret (pe_op op_mod (pe_op op_add (pe_op op_fdiv (pv 3) pe_int) (pe_op op_mul pe_int (pe_op op_fdiv (pv 4) pe_int))) (pv 1)))))))), ?_⟩
    refine ⟨_, rfl, p, _, _, _, rfl, rfl, SqL.of hp, at0 _ _ _, _, _, rfl, rfl, _, rfl, ?_⟩
    refine ite2 (fun ha => ?_) (fun ha => ?_)
    · have ha' : 0 < a := by simpa using ha
      refine ⟨_, rfl, p, _, _, _, rfl, rfl, SqL.of hp, at0 _ _ _, _, rfl, _, _, rfl, rfl, m0, ?_⟩
      refine ⟨_, rfl, p, _, _, _, rfl, rfl, SqL.of hp, at0 _ _ _, _, rfl, _, _, rfl, rfl, wide_div m0 (b := 30) (by omega) (by decide) (by decide), _, rfl, p, _, _, 0, rfl, rfl, hp, rfl, _, rfl, ?_⟩
      refine q _ _ ?_ ?_ ⟨_, b, d, upd_same, b0, b1, d0, by omega⟩ Bar.at_
      · exact Int.emod_nonneg _ (by omega)
      · exact Int.emod_lt_of_pos _ m0
    · refine ⟨_, rfl, p, _, _, _, rfl, rfl, SqL.of hp, at2 _ _ _, _, _, rfl, rfl, _, rfl, p, _, _, 2, rfl, rfl, hp, rfl, ?_⟩
      have hp2 : upd H p (.lst [.int a, .int b, .int (d + 1)]) p = some (.lst [.int a, .int b, .int (d + 1)]) := upd_same
      show tSeq _ _ _ _ (upd H p (.lst [.int a, .int b, .int (d + 1)]))
      generalize hH2 : upd H p (.lst [.int a, .int b, .int (d + 1)]) = H2 at hp2 ⊢
      have small1 : (b + 7919 * (d + 1) + 74).natAbs < 2 ^ 64 := by omega
      refine ⟨_, rfl, p, _, _, _, rfl, rfl, SqL.of hp2, at1 _ _ _, _, rfl, p, _, _, _, rfl, rfl, SqL.of hp2, at2 _ _ _, _, _, rfl, rfl, .inl (by decide), _, _, rfl, rfl, _, _, rfl, rfl, _, _, rfl, rfl, ⟨by decide, by decide, small1⟩, _, _, rfl, rfl, (by show (0 : Int) < 2147483647; decide), ?_⟩
      have n1 : 0 ≤ (b + 7919 * (d + 1) + 74) ^ (5 : Int).toNat % 2147483647 := Int.emod_nonneg _ (by decide)
      have n2 : (b + 7919 * (d + 1) + 74) ^ (5 : Int).toNat % 2147483647 < 2147483647 := Int.emod_lt_of_pos _ (by decide)
      dsimp only
      generalize (b + 7919 * (d + 1) + 74) ^ (5 : Int).toNat % 2147483647 = one at n1 n2 ⊢
      have q1 : 0 ≤ one / 8 ∧ one / 8 < 2147483647 := by omega
      have q2 : 0 ≤ 104729 * (d + 1) ∧ 104729 * (d + 1) ≤ 104729 * 100000 := by omega
      have small2 : (one / 8 + 104729 * (d + 1) + 3).natAbs < 2 ^ 64 := by omega
      refine ⟨_, rfl, _, _, rfl, rfl, ⟨by decide, by decide⟩, _, rfl, p, _, _, _, rfl, rfl, SqL.of hp2, at2 _ _ _, _, _, rfl, rfl, .inl (by decide), _, _, rfl, rfl, _, _, rfl, rfl, _, _, rfl, rfl, ⟨by decide, by decide, small2⟩, _, _, rfl, rfl, (by show (0 : Int) < 2147483629; decide), ?_⟩
      dsimp only
      generalize (one / 8 + 104729 * (d + 1) + 3) ^ (3 : Int).toNat % 2147483629 = other
      refine ⟨_, rfl, _, _, rfl, rfl, ⟨by decide, by decide⟩, _, rfl, _, _, rfl, rfl, ⟨by decide, by decide⟩, _, _, rfl, rfl, .inl (by decide), _, _, rfl, rfl, _, rfl, _, _, rfl, rfl, m0, ?_⟩
      refine q _ _ ?_ ?_ ⟨a, b, d + 1, hp2, b0, b1, by omega, by omega⟩ (by rw [← hH2]; exact Bar.at_)
      · exact Int.emod_nonneg _ (by omega)
      · exact Int.emod_lt_of_pos _ m0
theorem ok_number {f : Addr} {fd : FuncData} (F : Fun K "_law_number" "_law_number" s__law_number f fd) (DT : Dn P w K mg base CX0 1 "_law_take" ["_law_box_here", "_law_many"] spTake) : FnOk P w K mg base CX0 2 f fd ["_law_box_here", "_law_low", "_law_high"] spNumber := by
  refine F.ok sc__law_number (fun vs H Q E h => ?_) (fun cdv A outer s H vs Q E hr h => ?_)
  · obtain ⟨p, lo, hi, c, rfl, _⟩ := h
    rfl
  · obtain ⟨p, lo, hi, c, rfl, hp, hc, h1, h2, q⟩ := h
    refine ⟨_, (pss_cons (ps_set (i := 3) sc__law_number.nd rfl (.inl rfl) (pe_d DT (hr.mono (by decide)) (by rfl) pass0 (pa_cons (pv 0) (pa_cons pe_int pa_nil))))
      (pss_cons (ps_set (i := 4) sc__law_number.nd rfl (.inl rfl) (pe_op op_add (pv 1) (pe_d DT (hr.mono (by decide)) (by rfl) pass0 (pa_cons (pv 0) (pa_cons (pe_op op_add (pe_op op_sub (pv 2) (pv 1)) pe_int) pa_nil)))))
      (pss_one (ps_ret (pe_ix ix_list (pe_lst (pa_cons (pv 1) (pa_cons (pv 2) (pa_cons (pv 4) (pa_cons (pv 4) (pa_cons (pe_op op_add (pv 1) (pe_op op_mod (pe_op op_mod (pe_op op_sub (pv 4) (pv 1)) pe_int) (pe_op op_add (pe_op op_sub (pv 2) (pv 1)) pe_int))) pa_nil)))))) (pv 3) (fun _ _ => rfl)))))), ?_⟩
    refine ⟨_, rfl, p, 5, c, rfl, hp, by omega, by decide, by decide, fun r H1 r0 r1 hp1 b1 => ?_⟩
    refine ⟨_, rfl, _, rfl, _, rfl, _, rfl, _, _, rfl, rfl, _, _, rfl, rfl, p, _, _, rfl, hp1, by omega, by omega, by omega, fun m H2 m0 m1 hp2 b2 => ?_⟩
    refine ⟨_, _, rfl, rfl, ?_⟩
    refine ⟨_, rfl, _, rfl, _, rfl, _, rfl, _, rfl, _, rfl, _, rfl, _, _, rfl, rfl, _, _, rfl, rfl, (by show (0 : Int) < 20; decide), _, rfl, _, rfl, _, _, rfl, rfl, _, _, rfl, rfl, _, _, rfl, rfl, (by show 0 < hi - lo + 1; omega), _, _, rfl, rfl, ?_⟩
    refine ⟨Nat.le_of_ble_eq_true rfl, fun l hl => ?_⟩
    generalize hXq : upd _ l _ = H3
    have s3 := laid_same hXq hl
    have e3 := laid_at hXq
    clear hXq
    obtain ⟨x, hx, hm⟩ := at_drawn (xs := [V.int lo, V.int hi, V.int (lo + m), V.int (lo + m), V.int (lo + (lo + m - lo) % 20 % (hi - lo + 1))]) r0 r1
    refine ⟨_, rfl, l, _, r, x, rfl, rfl, SqL.of e3, hx, ?_⟩
    have key : ∃ n : Int, x = .int n ∧ lo ≤ n ∧ n ≤ hi := by
      have z1 := Int.emod_nonneg ((lo + m - lo) % 20) (show hi - lo + 1 ≠ 0 by omega)
      have z2 := Int.emod_lt_of_pos ((lo + m - lo) % 20) (show 0 < hi - lo + 1 by omega)
      simp only [List.mem_cons, List.not_mem_nil, or_false] at hm
      rcases hm with rfl | rfl | rfl | rfl | rfl
      · exact ⟨_, rfl, by omega, by omega⟩
      · exact ⟨_, rfl, by omega, by omega⟩
      · exact ⟨_, rfl, by omega, by omega⟩
      · exact ⟨_, rfl, by omega, by omega⟩
      · exact ⟨_, rfl, by omega, by omega⟩
    obtain ⟨n, rfl, k1, k2⟩ := key
    exact q n H3 k1 k2 (hp2.same s3) (b1.trans (b2.trans (Bar.same s3)))
end
end Law
end
section
set_option Elab.async false
set_option linter.all false
set_option maxRecDepth 100000
set_option maxHeartbeats 4000000
namespace Law
open PySem PySem.Spec PyProof.Rows L2 IK SX
theorem BoxAt.hide {H : Hp} {p D : Addr} {c : Nat} (h : BoxAt H p c) (n : p ≠ D) : BoxAt (hide D H) p c := by
  obtain ⟨a, b, d, h1, h2⟩ := h
  exact ⟨a, b, d, by rw [hide_ne n]; exact h1, h2⟩
theorem Bar.hide {H H' : Hp} {p D : Addr} (h : Bar p H H') : Bar p (hide D H) (hide D H') := fun b o n e => by
  by_cases z : b = D
  · simp [Law.hide, z] at e
  · rw [hide_ne z] at e ⊢
    exact h b o n e
/-- a comprehension that draws k times for each -/
theorem lc_walkB {J : It} {n : Nat} {G : Hp → Prop} {it : Nat → V → Prop} (w : Walk J n G (fun i H x H' => H' = H ∧ it i x)) {g : TG} {te : TE} {vs : List Nat} {σ : L2.St} {H1 : Hp} {Qd : Addr → Hp → Prop} {p : Addr} {c : Nat} (k : Nat) (F : Nat → V → Hp → Prop)
    (hp : BoxAt H1 p c) (hn : n < sizeLine) (hG : ∀ H, Nb H1 H → G H) (hM : ∀ i y H H', Nb H H' → F i y H → F i y H') (hF : ∀ i y H D l, H D = some (.lst l) → F i y H → F i y (hide D H))
    (hs : ∀ i x H (kont : V → Hp → Prop), i < n → it i x → Bar p H1 H → BoxAt H p (c + k * i) → (∀ y H4, Bar p H H4 → BoxAt H4 p (c + k * i + k) → F i y H4 → kont y H4) → g x (wipe σ vs) H fun σ2 H2 => wipe σ2 vs = wipe σ vs ∧ te σ2 H2 kont)
    (hd : ∀ D ys H, H1 D = none → Bar p H1 H → BoxAt H p (c + k * n) → H D = some (.lst ys) → ys.length = n → (∀ (i : Nat) (y : V), ys[i]? = some y → F i y H) → Qd D H) :
    ∀ D, H1 D = none → ∃ W : Nat → Nat → Hp → Prop, (∃ m, W 0 m (upd H1 D (.lst []))) ∧ ∀ i m H, W i m H →
      (J.stop i H ∧ Qd D H) ∨ (J.go i H ∧ ∃ Nx : Hp → Prop, (∀ H', Nx H' → ∃ m', m' < m ∧ W (i + 1) m' H') ∧ ∀ x H', J.yld i H x H' → g x (wipe σ vs) H' fun σ2 H2 => wipe σ2 vs = wipe σ vs ∧ tYes σ2 H2 fun b H3 =>
        if b = true then te σ2 H3 fun y H4 => ∃ acc, H4 D = some (.lst acc) ∧ acc.length < sizeLine ∧ Nx (upd H4 D (.lst (acc ++ [y]))) else Nx H3) := by
  intro D hD
  have pD : p ≠ D := fun z => hp.some (by rw [z]; exact hD)
  have outD : ∀ {H : Hp} {o : HO}, Bar p H1 H → Bar p H1 (upd H D o) := fun b x o n e => by
    rw [upd_ne (ne_of_none e hD)]
    exact b x o n e
  refine lc_it w (fun i H => Bar p H1 H ∧ i ≤ n ∧ BoxAt H p (c + k * i) ∧ ∃ acc, H D = some (.lst acc) ∧ acc.length = i ∧ ∀ (j : Nat) (y : V), acc[j]? = some y → F j y (hide D H)) ?_ ?_ ?_ ?_
  · exact ⟨Bar.new hD, Nat.zero_le _, hp.same (same_new hD), [], upd_same, rfl, fun j y h => by simp at h⟩
  · rintro i H _ ⟨b, _⟩
    exact hG H (hp.nb b)
  · rintro i x H H' hi ⟨b, _, hb, acc, hA, ha, hf⟩ ⟨rfl, hx⟩
    have z := hs i x H' (fun y H4 => ∃ acc, H4 D = some (.lst acc) ∧ acc.length < sizeLine ∧ (Bar p H1 (upd H4 D (.lst (acc ++ [y]))) ∧ i + 1 ≤ n ∧ BoxAt (upd H4 D (.lst (acc ++ [y]))) p (c + k * (i + 1)) ∧ ∃ acc', upd H4 D (.lst (acc ++ [y])) D = some (.lst acc') ∧ acc'.length = i + 1 ∧
      ∀ (j : Nat) (y' : V), acc'[j]? = some y' → F j y' (Law.hide D (upd H4 D (.lst (acc ++ [y])))))) hi hx b hb fun y H4 b4 hb4 f4 => by
        have hA4 := b4 _ _ pD.symm hA
        refine ⟨acc, hA4, by omega, outD (b.trans b4), hi, ?_, acc ++ [y], upd_same, by simp [ha], fun j y' hy' => ?_⟩
        · obtain ⟨u, v, x, h1, h2, h3, h4, h5⟩ := hb4
          exact ⟨u, v, x, by rw [upd_ne pD]; exact h1, h2, h3, h4, by rw [Nat.mul_succ, ← Nat.add_assoc]; exact h5⟩
        · rw [hide_upd]
          by_cases hj : j < acc.length
          · rw [List.getElem?_append_left hj] at hy'
            exact hM _ _ _ _ ((hb.hide pD).nb b4.hide) (hf j y' hy')
          · rw [List.getElem?_append_right (by omega)] at hy'
            have e2 : j - acc.length = 0 := by
              have := (List.getElem?_eq_some_iff.mp hy').1
              simp at this
              omega
            have e3 : j = i := by omega
            rw [e2] at hy'
            have e4 : y = y' := by simpa using hy'
            subst e3 e4
            exact hF _ _ _ _ _ hA4 f4
    exact z
  · rintro H ⟨b, _, hb, acc, hA, ha, hf⟩
    exact hd D acc H hD b hb hA ha fun i y h => hM _ _ _ _ (Nb.same hide_le) (hf i y h)
end Law
end
section
set_option Elab.async false
set_option linter.all false
set_option maxRecDepth 100000
set_option maxHeartbeats 4000000
namespace Law
open PySem PySem.Spec PyProof.Rows L2 IK SX
/-! ### the names that are drawn: unlike, each a name -/
theorem nodup_range {α : Type} {f : Nat → α} {n : Nat} (h : ∀ i j, i < j → j < n → f i ≠ f j) : ((List.range n).map f).Nodup := by
  unfold List.Nodup
  rw [List.pairwise_map]
  refine List.Pairwise.imp_of_mem (R := (· < ·)) (fun ha hb hab => h _ _ hab (List.mem_range.mp hb)) List.pairwise_lt_range
def wl13 : List Str := ["begin", "ports", "channel", "breaker", "ship", "a", "ab", "abc", "none", "port", "train", "hour", "ice"]
theorem wl13_eq : Txt.split "begin ports channel breaker ship a ab abc none port train hour ice" " " = wl13 := by decide +kernel
theorem wl13_names : ∀ x ∈ wl13, isName x.cps.toList = true := by decide +kernel
theorem wl13_nd : (wl13.map fun x => x.cps.toList).Nodup := by decide +kernel
def steps : List Nat := [1, 3, 5, 7, 9, 11]
def nm0 (f s i : Nat) : List Nat := ((wl13[(f + s * i) % 13]?).getD "").cps.toList
theorem nm0_name (f s i : Nat) : isName (nm0 f s i) = true := by
  unfold nm0
  have h : (f + s * i) % 13 < wl13.length := Nat.mod_lt _ (by decide)
  rw [List.getElem?_eq_getElem h]
  exact wl13_names _ (List.getElem_mem h)
theorem nm0_nd {f s n : Nat} (hs : s ∈ steps) (hn : n ≤ 13) : ((List.range n).map (nm0 f s)).Nodup := nodup_range fun i j hij hj z => by
  unfold nm0 at z
  have h1 : (f + s * i) % 13 < wl13.length := Nat.mod_lt _ (by decide)
  have h2 : (f + s * j) % 13 < wl13.length := Nat.mod_lt _ (by decide)
  rw [List.getElem?_eq_getElem h1, List.getElem?_eq_getElem h2] at z
  have e : (wl13.map fun x => x.cps.toList)[(f + s * i) % 13]? = (wl13.map fun x => x.cps.toList)[(f + s * j) % 13]? := by
    rw [List.getElem?_map, List.getElem?_map, List.getElem?_eq_getElem h1, List.getElem?_eq_getElem h2]
    exact congrArg some z
  have k := (List.getElem?_inj (by rw [List.length_map]; exact h1) wl13_nd).mp e
  simp only [steps, List.mem_cons, List.not_mem_nil, or_false] at hs
  rcases hs with rfl | rfl | rfl | rfl | rfl | rfl <;> omega
def lt (c : Nat) : Nat := 97 + c % 26
theorem lt_ok (c : Nat) : letter (lt c) = true := by
  unfold letter lt
  simp only [Bool.and_eq_true, decide_eq_true_eq]
  omega
theorem isName_of {l : List Nat} (h1 : 1 ≤ l.length) (h2 : l.length ≤ 8) (h3 : ∀ c ∈ l, letter c = true) : isName l = true := by
  unfold isName
  simp only [Bool.and_eq_true, decide_eq_true_eq, List.all_eq_true]
  exact ⟨⟨h1, h2⟩, h3⟩
def nm1 (st : List Nat) (f i : Nat) : List Nat := lt (f + i / 8) :: st.take (i % 8)
theorem nm1_name {st : List Nat} (hl : st.length = 7) (ha : ∀ c ∈ st, letter c = true) (f i : Nat) : isName (nm1 st f i) = true := by
  refine isName_of (by simp [nm1]) (by simp [nm1]; omega) fun c hc => ?_
  rcases List.mem_cons.mp hc with rfl | hc
  · exact lt_ok _
  · exact ha c (List.mem_of_mem_take hc)
theorem nm1_nd {st : List Nat} {f n : Nat} (hl : st.length = 7) (hn : n ≤ 13) : ((List.range n).map (nm1 st f)).Nodup := nodup_range fun i j hij hj z => by
  unfold nm1 lt at z
  injection z with z1 z2
  have z3 := congrArg List.length z2
  rw [List.length_take, List.length_take, hl] at z3
  omega
def nm2 (st : List Nat) (a b f s i : Nat) : List Nat := st.take a ++ lt (f + s * i) :: (st.drop a).take (b - a)
theorem nm2_name {st : List Nat} (hl : st.length = 7) (ha : ∀ c ∈ st, letter c = true) {a b : Nat} (h1 : a ≤ 7) (h2 : b ≤ 7) (f s i : Nat) : isName (nm2 st a b f s i) = true := by
  refine isName_of (by simp [nm2]; omega) (by simp [nm2]; omega) fun c hc => ?_
  rcases List.mem_append.mp hc with hc | hc
  · exact ha c (List.mem_of_mem_take hc)
  rcases List.mem_cons.mp hc with rfl | hc
  · exact lt_ok _
  · exact ha c (List.mem_of_mem_drop (List.mem_of_mem_take hc))
theorem nm2_nd {st : List Nat} {a b f s n : Nat} (hs : s ∈ steps) (hn : n ≤ 13) : ((List.range n).map (nm2 st a b f s)).Nodup := nodup_range fun i j hij hj z => by
  unfold nm2 lt at z
  have z1 := List.append_cancel_left z
  injection z1 with z2 _
  simp only [steps, List.mem_cons, List.not_mem_nil, or_false] at hs
  rcases hs with rfl | rfl | rfl | rfl | rfl | rfl <;> omega
theorem turn_nd {ws : List (List Nat)} (h : ws.Nodup) (a : Nat) : (ws.drop a ++ (ws.take a).reverse).Nodup := by
  have p : (ws.drop a ++ (ws.take a).reverse).Perm ws := by
    have h1 : (ws.drop a ++ (ws.take a).reverse).Perm (ws.drop a ++ ws.take a) := List.Perm.append_left _ (List.reverse_perm _)
    have h2 : (ws.drop a ++ ws.take a).Perm (ws.take a ++ ws.drop a) := List.perm_append_comm
    have h3 := h1.trans h2
    rwa [List.take_append_drop] at h3
  exact p.nodup_iff.mpr h
theorem turn_mem {α : Type} {ws : List α} {a : Nat} {x : α} (h : x ∈ ws.drop a ++ (ws.take a).reverse) : x ∈ ws := by
  rcases List.mem_append.mp h with h | h
  · exact List.mem_of_mem_drop h
  · exact List.mem_of_mem_take (List.mem_reverse.mp h)
theorem turn_len {α : Type} {ws : List α} {a : Nat} : (ws.drop a ++ (ws.take a).reverse).length = ws.length := by
  rw [List.length_append, List.length_reverse, List.length_drop, List.length_take]
  omega
/-- the letter at a place -/
theorem letter_at {r : Int} {n : Nat} (h : r = ((n % 26 : Nat) : Int)) : atI (("abcdefghijklmnopqrstuvwxyz" : Str)).cps.toList r = some (lt n) := by
  rw [letters_list, h, atI_nat (j := n % 26) (v := lt n)]
  rw [List.getElem?_map, List.getElem?_range (Nat.mod_lt _ (by decide))]
  simp [lt, Nat.add_comm]
end Law
end
section
set_option Elab.async false
set_option linter.all false
set_option maxRecDepth 100000
set_option maxHeartbeats 4000000
namespace Law
open PySem PySem.Spec PyProof.Rows L2 IK SX
theorem cut_S {l : List Nat} {i j : Nat} (h : i ≤ j) : cutS (S l) (some (i : Int)) (some (j : Int)) = S ((l.drop i).take (j - i)) := by
  unfold cutS
  rw [HT.sIx_nat, HT.sIx_nat, S_len]
  have e : (S l).cps.toList = l := rfl
  rw [e]
  congr 1
  have e2 : (l.drop (min i l.length)).take (min j l.length - min i l.length) = (l.drop i).take (j - i) := by
    by_cases hi : i ≤ l.length
    · rw [Nat.min_eq_left hi]
      by_cases hj : j ≤ l.length
      · rw [Nat.min_eq_left hj]
      · rw [Nat.min_eq_right (show l.length ≤ j by omega), List.take_of_length_le (by rw [List.length_drop]; exact Nat.le_refl _), List.take_of_length_le (by rw [List.length_drop]; omega)]
    · rw [Nat.min_eq_right (show l.length ≤ i by omega), List.drop_length, List.drop_eq_nil_of_le (show l.length ≤ i by omega)]
      simp
  rw [e2]
theorem cut_S_from {l : List Nat} {i : Nat} : cutS (S l) (some (i : Int)) none = S (l.drop i) := by
  unfold cutS
  rw [HT.sIx_nat, HT.sIx_none, S_len]
  have e : (S l).cps.toList = l := rfl
  rw [e]
  congr 1
  by_cases hi : i ≤ l.length
  · rw [Nat.min_eq_left hi, List.take_of_length_le (by rw [List.length_drop]; exact Nat.le_refl _)]
  · rw [Nat.min_eq_right (show l.length ≤ i by omega), List.drop_length, List.drop_eq_nil_of_le (show l.length ≤ i by omega)]
    simp
theorem cut_S_to {l : List Nat} {j : Nat} : cutS (S l) none (some (j : Int)) = S (l.take j) := by
  unfold cutS
  rw [HT.sIx_nat, HT.sIx_none, S_len]
  have e : (S l).cps.toList = l := rfl
  rw [e]
  congr 1
  rw [List.drop_zero, Nat.sub_zero]
  by_cases hj : j ≤ l.length
  · rw [Nat.min_eq_left hj]
  · rw [Nat.min_eq_right (show l.length ≤ j by omega), List.take_of_length_le (Nat.le_refl _), List.take_of_length_le (show l.length ≤ j by omega)]
theorem cutV_from {l : List V} {i : Nat} (h : i ≤ l.length) : cutV l (some (i : Int)) none = l.drop i := by
  unfold cutV
  rw [HT.sIx_nat, HT.sIx_none, Nat.min_eq_left h, List.take_of_length_le (by rw [List.length_drop]; exact Nat.le_refl _)]
theorem cutV_to {l : List V} {i : Nat} (h : i ≤ l.length) : cutV l none (some (i : Int)) = l.take i := by
  unfold cutV
  rw [HT.sIx_none, HT.sIx_nat, Nat.min_eq_left h, List.drop_zero, Nat.sub_zero]
theorem empty_S : ("" : Str) = S [] := by decide +kernel
theorem S_of (x : Str) : x = S x.cps.toList := rfl
theorem join_ones : ∀ cs : List Nat, TL.joinL [] (cs.map fun c => [c]) = cs
  | [] => rfl
  | [c] => rfl
  | c :: e :: r => by
    show [c] ++ ([] ++ TL.joinL [] ((e :: r).map fun c => [c])) = _
    rw [join_ones (e :: r)]
    rfl
theorem walk_rng {n : Nat} : Walk (Itr 0 n) n (fun _ => True) (fun i H x H' => H' = H ∧ x = .int (0 + (i : Nat))) := walk_range
/-- texts that are told by their place -/
theorem txts_of {n : Nat} {f : Nat → List Nat} {ys : List V} (hl : ys.length = n) (h : ∀ (i : Nat) (y : V), ys[i]? = some y → y = .str (S (f i))) : ys = txts ((List.range n).map f) := by
  refine List.ext_getElem? fun i => ?_
  by_cases hi : i < n
  · have e : ys[i]? = some ys[i] := List.getElem?_eq_getElem (by omega)
    rw [e, h i _ e, List.getElem?_map, List.getElem?_map, List.getElem?_range hi]
    rfl
  · rw [List.getElem?_eq_none_iff.mpr (by omega), List.getElem?_eq_none_iff.mpr (by simp; omega)]
theorem ones_of : ∀ {ys : List V}, (∀ (i : Nat) (y : V), ys[i]? = some y → ∃ c, letter c = true ∧ y = .str (S [c])) → ∃ cs : List Nat, cs.length = ys.length ∧ (∀ c ∈ cs, letter c = true) ∧ ys = (cs.map fun c => V.str (S [c]))
  | [], _ => ⟨[], rfl, (fun _ h => by cases h), rfl⟩
  | y :: ys, h => by
    obtain ⟨c, h1, rfl⟩ := h 0 y rfl
    obtain ⟨cs, h2, h3, h4⟩ := ones_of (ys := ys) fun i y e => h (i + 1) y (by simpa using e)
    refine ⟨c :: cs, by simp [h2], fun x hx => ?_, by simp [← h4]⟩
    rcases List.mem_cons.mp hx with rfl | hx
    · exact h1
    · exact h3 x hx
theorem bb_none {H H' : Hp} {p d : Addr} {c : Nat} (b : Bar p H H') (hp' : BoxAt H' p c) (h : H' d = none) : H d = none := by
  cases e : H d with
  | none => rfl
  | some o =>
    by_cases z : d = p
    · rw [z] at h
      exact absurd h hp'.some
    · rw [b d o z e] at h
      cases h
def spNames : Sp := fun vs H Q _ => ∃ (p : Addr) (m c : Nat), vs = [.ref p, .int m] ∧ BoxAt H p c ∧ c < 90000 ∧ m ≤ 12 ∧ ∀ d (ws : List (List Nat)) H', H d = none → H' d = some (.lst (txts ws)) → ws.length = m → ws.Nodup → (∀ w ∈ ws, isName w = true) → BoxAt H' p (c + 12) → Bar p H H' → Q (.ref d) H'
section
variable {P : Program} {w : World} {K : PySem.W.Frag} {mg : Str → Option Value} {base : Heap}
theorem ok_names {f : Addr} {fd : FuncData} (F : Fun K "_law_names" "_law_names" s__law_names f fd) (B : Blt mg) (DT : Dn P w K mg base CX0 1 "_law_take" ["_law_box_here", "_law_many"] spTake) : FnOk P w K mg base CX0 2 f fd ["_law_box_here", "_law_many"] spNames := by
  refine F.ok sc__law_names (fun vs H Q E h => ?_) (fun cdv A outer s H vs Q E hr h => ?_)
  · obtain ⟨p, m, c, rfl, _⟩ := h
    rfl
  · obtain ⟨p, m, c, rfl, hp, hc, hm, q⟩ := h
    refine ⟨_, (pss_cons (ps_set (i := 2) sc__law_names.nd rfl (.inr rfl) pe_str)
      (pss_cons (ps_set (i := 3) sc__law_names.nd rfl (.inl rfl) (pe_d DT (hr.mono (by decide)) (by rfl) pass0 (pa_cons (pv 0) (pa_cons pe_int pa_nil))))
      (pss_cons (ps_set (i := 4) sc__law_names.nd rfl (.inr rfl) (pe_d DT (hr.mono (by decide)) (by rfl) pass0 (pa_cons (pv 0) (pa_cons pe_int pa_nil))))
      (pss_cons (ps_set (i := 5) sc__law_names.nd rfl (.inr rfl) (pe_ix ix_list (pe_lst (pa_cons pe_int (pa_cons pe_int (pa_cons pe_int (pa_cons pe_int (pa_cons pe_int (pa_cons pe_int pa_nil))))))) (pe_d DT (hr.mono (by decide)) (by rfl) pass0 (pa_cons (pv 0) (pa_cons pe_int pa_nil))) (fun _ _ => rfl)))
      (pss_cons (ps_if (pt_cmpR op_eq (pv 3) pe_int (nomark _)) (pss_cons (ps_set (i := 6) sc__law_names.nd rfl (.inr rfl) (pe_split pe_str pe_str))
      (pss_one (ps_ret (pe_lc (own := [("_law_k", 11)]) (g := gName 11) (tt := tYes) rfl sc__law_names.nd (pi_range1 (by rfl) B.range (pa_cons (pv 1) pa_nil)) (blkOk_by (N := ["_law_box_here", "_law_many", "_law_letters", "_law_way", "_law_first", "_law_step", "_law_words", "_law_stem", "_law_found", "_law_at", "_law_long", "_law_k"]) (sc := defScope s__law_names) (by decide +kernel)) (fun _ _ _ _ _ => pg_name (i := 11) sc__law_names.nd rfl (Or.inl rfl)) (fun _ _ _ _ _ => pts_nil) (fun _ _ _ _ _ => (pe_ix (show IxR _ (rIxL K) from ix_list) (pv 6) (pe_op op_mod (pe_op op_add (pv 4) (pe_op op_mul (pv 5) (pv 11))) pe_int) (fun _ _ => rfl))))))) pss_nil)
      (pss_cons (ps_set (i := 7) sc__law_names.nd rfl (.inr rfl) (pe_join pe_str (pe_lc (own := [("_law_k", 11)]) (g := gName 11) (tt := tYes) rfl sc__law_names.nd (pi_range1 (by rfl) B.range (pa_cons pe_int pa_nil)) (blkOk_by (N := ["_law_box_here", "_law_many", "_law_letters", "_law_way", "_law_first", "_law_step", "_law_words", "_law_stem", "_law_found", "_law_at", "_law_long", "_law_k"]) (sc := defScope s__law_names) (by decide +kernel)) (fun _ _ _ _ _ => pg_name (i := 11) sc__law_names.nd rfl (Or.inl rfl)) (fun _ _ _ _ _ => pts_nil) (fun _ _ _ _ _ => (pe_ix ix_str (pv 2) (pe_d DT (hr.mono (by decide)) (by rfl) pass0 (pa_cons (pv 0) (pa_cons pe_int pa_nil))) (fun _ _ => rfl))))))
      (pss_cons (ps_if (pt_cmpR op_eq (pv 3) pe_int (nomark _)) (pss_cons (ps_setLc (i := 8) (own := [("_law_k", 11)]) (g := gName 11) (tt := tYes) rfl sc__law_names.nd rfl rfl (by rfl) (pi_range1 (by rfl) B.range (pa_cons (pv 1) pa_nil)) (blkOk_by (N := ["_law_box_here", "_law_many", "_law_letters", "_law_way", "_law_first", "_law_step", "_law_words", "_law_stem", "_law_found", "_law_at", "_law_long", "_law_k"]) (sc := defScope s__law_names) (by decide +kernel)) (fun _ _ _ _ _ => pg_name (i := 11) sc__law_names.nd rfl (Or.inl rfl)) (fun _ _ _ _ _ => pts_nil) (fun _ _ _ _ _ => (pe_op op_add_str (pe_ix ix_str (pv 2) (pe_op op_mod (pe_op op_add (pv 4) (pe_op op_fdiv (pv 11) pe_int)) pe_int) (fun _ _ => rfl)) (pe_slice sl_str (pv 7) po_none (po_some (pe_op op_mod (pv 11) pe_int))))))
      (pss_cons (ps_set (i := 9) sc__law_names.nd rfl (.inr rfl) (pe_d DT (hr.mono (by decide)) (by rfl) pass0 (pa_cons (pv 0) (pa_cons (pe_op op_add (pv 1) pe_int) pa_nil))))
      (pss_one (ps_ret (pe_op op_cat (pe_slice sl_list (pv 8) (po_some (pv 9)) po_none) (pe_revL (pe_slice sl_list (pv 8) po_none (po_some (pv 9))))))))) pss_nil)
      (pss_cons (ps_set (i := 9) sc__law_names.nd rfl (.inr rfl) (pe_d DT (hr.mono (by decide)) (by rfl) pass0 (pa_cons (pv 0) (pa_cons pe_int pa_nil))))
      (pss_cons (ps_set (i := 10) sc__law_names.nd rfl (.inr rfl) (pe_callB (call_max2 rfl) (by rfl) B.max (by decide +kernel) (pa_cons (pv 9) (pa_cons (pe_d DT (hr.mono (by decide)) (by rfl) pass0 (pa_cons (pv 0) (pa_cons pe_int pa_nil))) pa_nil))))
      (pss_one (ps_ret (pe_lc (own := [("_law_k", 11)]) (g := gName 11) (tt := tYes) rfl sc__law_names.nd (pi_range1 (by rfl) B.range (pa_cons (pv 1) pa_nil)) (blkOk_by (N := ["_law_box_here", "_law_many", "_law_letters", "_law_way", "_law_first", "_law_step", "_law_words", "_law_stem", "_law_found", "_law_at", "_law_long", "_law_k"]) (sc := defScope s__law_names) (by decide +kernel)) (fun _ _ _ _ _ => pg_name (i := 11) sc__law_names.nd rfl (Or.inl rfl)) (fun _ _ _ _ _ => pts_nil) (fun _ _ _ _ _ => (pe_op op_add_str (pe_op op_add_str (pe_slice sl_str (pv 7) po_none (po_some (pv 9))) (pe_ix ix_str (pv 2) (pe_op op_mod (pe_op op_add (pv 4) (pe_op op_mul (pv 5) (pv 11))) pe_int) (fun _ _ => rfl))) (pe_slice sl_str (pv 7) (po_some (pv 9)) (po_some (pv 10))))))))))))))))), ?_⟩
    refine ⟨_, rfl, p, 3, c, rfl, hp, by omega, by decide, by decide, fun way H1 w0 w1 hp1 b1 => ?_⟩
    refine ⟨_, rfl, p, 26, _, rfl, hp1, by omega, by decide, by decide, fun r H2 r0 r1 hp2 b2 => ?_⟩
    obtain ⟨f, rfl⟩ := Int.eq_ofNat_of_zero_le r0
    refine ⟨Nat.le_of_ble_eq_true rfl, fun l hl => ?_⟩
    generalize hXq : upd _ l _ = H3
    have s3 := laid_same hXq hl
    have e3 := laid_at hXq
    clear hXq
    have hp3 := hp2.same s3
    refine ⟨_, rfl, p, 6, _, rfl, hp3, by omega, by decide, by decide, fun r H4 t0 t1 hp4 b4 => ?_⟩
    obtain ⟨x, hx, hxm⟩ := at_drawn (xs := [V.int 1, V.int 3, V.int 5, V.int 7, V.int 9, V.int 11]) t0 t1
    have e4 : H4 l = some (.lst [V.int 1, V.int 3, V.int 5, V.int 7, V.int 9, V.int 11]) := hp3.nb b4 _ _ rfl e3
    obtain ⟨st, hst, rfl⟩ : ∃ st : Nat, st ∈ steps ∧ x = .int st := by
      simp only [List.mem_cons, List.not_mem_nil, or_false] at hxm
      rcases hxm with rfl | rfl | rfl | rfl | rfl | rfl
      · exact ⟨1, by decide, rfl⟩
      · exact ⟨3, by decide, rfl⟩
      · exact ⟨5, by decide, rfl⟩
      · exact ⟨7, by decide, rfl⟩
      · exact ⟨9, by decide, rfl⟩
      · exact ⟨11, by decide, rfl⟩
    have hst1 : st ≤ 11 := by
      simp only [steps, List.mem_cons, List.not_mem_nil, or_false] at hst
      omega
    have hst2 : -2 ^ 64 < (st : Int) ∧ (st : Int) < 2 ^ 64 := by omega
    refine ⟨l, _, r, _, rfl, rfl, SqL.of e4, hx, ?_⟩
    have bb := b1.trans (b2.trans ((Bar.same s3).trans b4))
    clear e3 e4 hx hxm
    have hp5 : BoxAt H4 p (c + 3) := hp4.mono (by omega)
    refine ⟨_, rfl, rfl, _, rfl, ?_⟩
    refine ite2 (fun hw => ?_) (fun hw => ?_)
    · refine ⟨⟨_, rfl⟩, _, _, rfl, rfl, by decide +kernel, by decide +kernel, fun a ha => ?_⟩
      rw [wl13_eq]
      generalize hXq : upd _ a _ = H5
      have s5 := laid_same hXq ha
      have e5 := laid_at hXq
      clear hXq
      have hp6 := hp5.same s5
      refine ⟨_, rfl, (m : Int), rfl, by omega, by omega, lc_walkB walk_rng 0 (fun i y _ => y = .str (S (nm0 f st i))) hp6 (by rw [Int.toNat_natCast]; exact Nat.lt_of_le_of_lt hm (by decide)) (fun _ _ => trivial) (fun _ _ _ _ _ e => e) (fun _ _ _ _ _ _ e => e) ?_ ?_⟩
      · rintro i x H kk hi rfl b hb kq
        refine ⟨rfl, _, rfl, _, rfl, _, rfl, _, rfl, _, _, rfl, rfl, .inl hst2, _, _, rfl, rfl, _, _, rfl, rfl, (by show (0 : Int) < 13; decide), ?_⟩
        have hh : (f + st * i) % 13 < wl13.length := Nat.mod_lt _ (by decide)
        refine ⟨a, _, _, .str (S (nm0 f st i)), rfl, rfl, SqL.of (hp6.nb b _ _ (by rfl) e5), ?_, ?_⟩
        · have e : ((f : Int) + st * (0 + (i : Int))) % 13 = (((f + st * i) % 13 : Nat) : Int) := by
            rw [Int.zero_add]
            norm_cast
          rw [e]
          refine atI_nat ?_
          rw [List.getElem?_map, List.getElem?_eq_getElem hh]
          unfold nm0
          rw [List.getElem?_eq_getElem hh]
          rfl
        · exact kq _ _ Bar.refl (hb.mono (by omega)) rfl
      · intro D ys H6 hD b hb hy hl hf
        rw [Int.toNat_natCast] at hl
        have e := txts_of hl hf
        rw [e] at hy
        refine q D _ H6 (bb_none bb hp5 (none_back s5 hD)) hy (by simp) (nm0_nd hst (by omega)) (fun x hx => ?_) (hb.mono (by omega)) (bb.trans ((Bar.same s5).trans b))
        obtain ⟨i, _, rfl⟩ := List.mem_map.mp hx
        exact nm0_name _ _ _
    refine ⟨⟨_, rfl⟩, 7, rfl, by decide, by decide, lc_walkB walk_rng 1 (fun i y _ => ∃ c, letter c = true ∧ y = .str (S [c])) hp5 (by decide) (fun _ _ => trivial) (fun _ _ _ _ _ e => e) (fun _ _ _ _ _ _ e => e) ?_ ?_⟩
    · rintro i x H kk hi rfl b hb kq
      have hi7 : i < 7 := hi
      refine ⟨rfl, _, rfl, _, rfl, p, 26, _, rfl, hb, by omega, by decide, by decide, fun r H7 q0 q1 hb7 b7 => ?_⟩
      obtain ⟨ch, hc1, hc2⟩ := at_drawn (xs := (("abcdefghijklmnopqrstuvwxyz" : Str)).cps.toList) q0 (by rw [letters_list]; exact q1)
      refine ⟨_, _, ch, rfl, rfl, by decide +kernel, hc1, ?_⟩
      refine kq _ _ b7 hb7 ⟨ch, ?_, rfl⟩
      rw [← in_letters]
      exact decide_eq_true hc2
    intro D ys H5 hD b5 hb5 hy hl hf
    obtain ⟨cs, hcl, hca, rfl⟩ := ones_of hf
    have hl7 : cs.length = 7 := by rw [hcl, hl]; rfl
    refine ⟨_, D, (cs.map fun c => [c]).map S, rfl, rfl, .inl (.inl (.inl (by rw [hy, List.map_map, List.map_map]; rfl))), ?_, ?_⟩
    · rw [List.map_map, List.map_map, List.length_map, List.length_map]
      have e : (cs.map ((fun x : Str => x.length) ∘ S ∘ fun c => [c])).sum = cs.length := by
        clear hcl hca hl hy hf hl7
        induction cs with
        | nil => rfl
        | cons c cs ih =>
          rw [List.map_cons, List.sum_cons, ih, List.length_cons]
          show (S [c]).length + _ = _
          rw [S_len]
          simp [Nat.add_comm]
      rw [show ("" : Str).length = 0 by decide +kernel]
      first
        | (rw [e, hl7]; decide)
        | (simp only [Function.comp_def] at e ⊢; rw [e, hl7]; decide)
    rw [empty_S, join_S, join_ones]
    have bb5 := bb.trans b5
    have hb5 : BoxAt H5 p (c + 10) := hb5.mono (by omega)
    clear hcl hy hl hf
    refine ⟨_, rfl, rfl, _, rfl, ?_⟩
    refine ite2 (fun hw1 => ?_) (fun hw1 => ?_)
    · refine ⟨_, rfl, (m : Int), rfl, by omega, by omega, lc_walkB walk_rng 0 (fun i y _ => y = .str (S (nm1 cs f i))) hb5 (by rw [Int.toNat_natCast]; exact Nat.lt_of_le_of_lt hm (by decide)) (fun _ _ => trivial) (fun _ _ _ _ _ e => e) (fun _ _ _ _ _ _ e => e) ?_ ?_⟩
      · rintro i x H kk hi rfl b hb kq
        have hi' : i < m := by rwa [Int.toNat_natCast] at hi
        refine ⟨rfl, _, rfl, _, rfl, _, rfl, _, _, rfl, rfl, ⟨by decide, by decide⟩, _, _, rfl, rfl, _, _, rfl, rfl, (by show (0 : Int) < 26; decide), ?_⟩
        refine ⟨_, _, lt (f + i / 8), rfl, rfl, by decide +kernel, letter_at (by rw [Int.zero_add]; norm_cast), ?_⟩
        refine ⟨_, rfl, _, rfl, _, _, rfl, rfl, (by show (0 : Int) < 8; decide), _, rfl, S cs, rfl, (by rw [S_len, hl7]; decide), ?_⟩
        have e : cutS (S cs) none (some ((0 + (i : Int)) % 8)) = S (cs.take (i % 8)) := by
          rw [Int.zero_add, show ((i : Int) % 8) = ((i % 8 : Nat) : Int) by norm_cast, cut_S_to]
        rw [e]
        refine ⟨_, _, rfl, rfl, Nat.le_trans (show _ ≤ 10 by rw [S_len]; show 1 + (S (cs.take (i % 8))).length ≤ 10; rw [S_len, List.length_take]; omega) (by decide), ?_⟩
        refine kq _ _ Bar.refl (hb.mono (by omega)) ?_
        show V.str (S [lt (f + i / 8)] ++ S (cs.take (i % 8))) = _
        rw [S_cat]
        rfl
      intro D2 ys H6 hD2 b6 hb6 hy hl hf
      rw [Int.toNat_natCast] at hl
      have e := txts_of hl hf
      rw [e] at hy
      have hnd := nm1_nd (st := cs) (f := f) hl7 (show m ≤ 13 by omega)
      have hnn : ∀ w ∈ (List.range m).map (nm1 cs f), isName w = true := fun x hx => by
        obtain ⟨i, _, rfl⟩ := List.mem_map.mp hx
        exact nm1_name hl7 hca _ _
      have hlen : ((List.range m).map (nm1 cs f)).length = m := by simp
      generalize (List.range m).map (nm1 cs f) = ws at hy hnd hnn hlen
      have bb6 := bb5.trans b6
      have hb6 : BoxAt H6 p (c + 10) := hb6.mono (by omega)
      clear e hf hl
      refine ⟨_, rfl, _, rfl, _, _, rfl, rfl, p, _, _, rfl, hb6, by omega, by omega, by omega, fun r H7 q0 q1 hb7 b7 => ?_⟩
      obtain ⟨a, rfl⟩ := Int.eq_ofNat_of_zero_le q0
      have hy7 := hb6.nb b7 _ _ nb_txts hy
      refine ⟨_, rfl, _, rfl, _, rfl, D2, _, rfl, .inl (.inl hy7), fun l1 hl1 => ?_⟩
      generalize hXq : upd _ l1 _ = H8
      have s1 := laid_same hXq hl1
      have e1 := laid_at hXq
      clear hXq
      refine ⟨_, rfl, _, rfl, _, rfl, D2, _, rfl, .inl (.inl (s1 _ _ hy7)), fun l2 hl2 => ?_⟩
      generalize hXq : upd _ l2 _ = H9
      have s2 := laid_same hXq hl2
      have e2 := laid_at hXq
      clear hXq
      refine ⟨l2, _, rfl, .inl (.inl e2), fun l3 hl3 => ?_⟩
      generalize hXq : upd _ l3 _ = H10
      have s3 := laid_same hXq hl3
      have e3 := laid_at hXq
      clear hXq
      have ca : a ≤ (txts ws).length := by rw [List.length_map]; omega
      rw [cutV_from ca] at e1
      rw [cutV_to ca] at e3
      refine ⟨l1, l3, _, _, rfl, rfl, s3 _ _ (s2 _ _ e1), e3, Nat.le_trans (show _ ≤ 100 by simp; omega) (by decide), fun l4 hl4 => ?_⟩
      generalize hXq : upd _ l4 _ = H11
      have s4 := laid_same hXq hl4
      have e4 := laid_at hXq
      clear hXq
      have sm := s1.trans (s2.trans (s3.trans s4))
      have e5 : H11 l4 = some (.lst (txts (ws.drop a ++ (ws.take a).reverse))) := by
        rw [e4]
        simp only [txts, List.map_append, List.map_drop, List.map_reverse, List.map_take]
      exact q l4 _ H11 (bb_none (bb6.trans b7) hb7 (none_back (s1.trans (s2.trans s3)) hl4)) e5 (by rw [turn_len, hlen]) (turn_nd hnd a) (fun x hx => hnn x (turn_mem hx)) ((hb7.same sm).mono (by omega)) (bb6.trans (b7.trans (Bar.same sm)))
    · refine ⟨_, rfl, p, 8, _, rfl, hb5, by omega, by decide, by decide, fun r H6 q0 q1 hb6 b6 => ?_⟩
      obtain ⟨a, rfl⟩ := Int.eq_ofNat_of_zero_le q0
      refine ⟨_, rfl, _, rfl, p, 8, _, rfl, hb6, by omega, by decide, by decide, fun r H7 u0 u1 hb7 b7 => ?_⟩
      obtain ⟨b, rfl⟩ := Int.eq_ofNat_of_zero_le u0
      refine ⟨_, _, rfl, ?_⟩
      have emax : (if (b : Int) > (a : Int) then (b : Int) else (a : Int)) = ((max a b : Nat) : Int) := by
        split <;> omega
      rw [emax]
      have bb7 := bb5.trans (b6.trans b7)
      have hb7 : BoxAt H7 p (c + 12) := hb7.mono (by omega)
      have mx : max a b ≤ 7 ∧ a ≤ max a b := by omega
      generalize max a b = g at mx ⊢
      refine ⟨_, rfl, (m : Int), rfl, by omega, by omega, lc_walkB walk_rng 0 (fun i y _ => y = .str (S (nm2 cs a g f st i))) hb7 (by rw [Int.toNat_natCast]; exact Nat.lt_of_le_of_lt hm (by decide)) (fun _ _ => trivial) (fun _ _ _ _ _ e => e) (fun _ _ _ _ _ _ e => e) ?_ ?_⟩
      · rintro i x H kk hi rfl b hb kq
        refine ⟨rfl, _, rfl, _, rfl, _, rfl, S cs, rfl, (by rw [S_len, hl7]; decide), ?_⟩
        refine ⟨_, rfl, _, rfl, _, rfl, _, rfl, _, _, rfl, rfl, .inl hst2, _, _, rfl, rfl, _, _, rfl, rfl, (by show (0 : Int) < 26; decide), ?_⟩
        refine ⟨_, _, lt (f + st * i), rfl, rfl, by decide +kernel, letter_at (by rw [Int.zero_add]; norm_cast), ?_⟩
        rw [cut_S_to]
        refine ⟨_, _, rfl, rfl, Nat.le_trans (show _ ≤ 10 by rw [S_len, List.length_take]; show _ + 1 ≤ 10; omega) (by decide), ?_⟩
        refine ⟨_, rfl, _, rfl, _, rfl, _, rfl, _, rfl, S cs, rfl, (by rw [S_len, hl7]; decide), ?_⟩
        rw [cut_S mx.2]
        have es : S (cs.take a) ++ (⟨#[lt (f + st * i)]⟩ : Str) = S (cs.take a ++ [lt (f + st * i)]) := S_cat (cs.take a) [lt (f + st * i)]
        rw [es]
        refine ⟨_, _, rfl, rfl, Nat.le_trans (show _ ≤ 20 by rw [S_len, S_len]; simp; omega) (by decide), ?_⟩
        refine kq _ _ Bar.refl (hb.mono (by omega)) ?_
        rw [S_cat, nm2, List.append_assoc]
        rfl
      intro D2 ys H8 hD2 b8 hb8 hy hl hf
      rw [Int.toNat_natCast] at hl
      have e := txts_of hl hf
      rw [e] at hy
      refine q D2 _ H8 (bb_none bb7 hb7 hD2) hy (by simp) (nm2_nd hst (by omega)) (fun x hx => ?_) (hb8.mono (by omega)) (bb7.trans b8)
      obtain ⟨i, _, rfl⟩ := List.mem_map.mp hx
      exact nm2_name hl7 hca (by omega) mx.1 _ _ _
end
end Law
end
section
set_option Elab.async false
set_option linter.all false
set_option maxRecDepth 100000
set_option maxHeartbeats 4000000
namespace Law
open PySem PySem.Spec PyProof.Rows L2 IK SX
/-! ### the worlds that are drawn -/
def spLChan : Sp := fun vs H Q _ => ∃ (p a : Addr) (nm : List Nat) (ps : List (List Nat)) (c : Nat), vs = [.ref p, .str (S nm), .ref a] ∧ BoxAt H p c ∧ c < 80000 ∧ H a = some (.lst (txts ps)) ∧ 2 ≤ ps.length ∧ ps.length ≤ 8 ∧ ps.Nodup ∧ (∀ w ∈ ps, isName w = true) ∧ isName nm = true ∧
  ∀ t (x : Chan) H', H t = none → x.name = nm → x.Good → x.one ∈ ps → x.other ∈ ps → H' t = some (.tup x.vals) → BoxAt H' p (c + 12) → Bar p H H' → Q (.ref t) H'
def spLBrk : Sp := fun vs H Q _ => ∃ (p a : Addr) (nm : List Nat) (ps : List (List Nat)) (c : Nat), vs = [.ref p, .str (S nm), .ref a] ∧ BoxAt H p c ∧ c < 80000 ∧ H a = some (.lst (txts ps)) ∧ 1 ≤ ps.length ∧ ps.length ≤ 8 ∧ (∀ w ∈ ps, isName w = true) ∧ isName nm = true ∧
  ∀ t (x : Brk) H', H t = none → x.name = nm → x.Good → x.port ∈ ps → H' t = some (.tup x.vals) → BoxAt H' p (c + 12) → Bar p H H' → Q (.ref t) H'
def spLShp : Sp := fun vs H Q _ => ∃ (p a : Addr) (nm : List Nat) (ps : List (List Nat)) (c : Nat), vs = [.ref p, .str (S nm), .ref a] ∧ BoxAt H p c ∧ c < 80000 ∧ H a = some (.lst (txts ps)) ∧ 1 ≤ ps.length ∧ ps.length ≤ 8 ∧ (∀ w ∈ ps, isName w = true) ∧ isName nm = true ∧
  ∀ t (x : Shp) H', H t = none → x.name = nm → x.Good → x.port ∈ ps → x.goal ∈ ps → H' t = some (.tup x.row) → BoxAt H' p (c + 12) → Bar p H H' → Q (.ref t) H'
def spFew : Sp := fun vs H Q _ => ∃ (p : Addr) (c : Nat), vs = [.ref p] ∧ BoxAt H p c ∧ c < 80000 ∧ ∀ (l : Addr) (z1 z2 z3 z4 : Nat) H', 1 ≤ z1 ∧ z1 ≤ 8 → z2 ≤ 12 → z3 ≤ 4 → z4 ≤ 6 → H' l = some (.lst [.int (z1 : Int), .int (z2 : Int), .int (z3 : Int), .int (z4 : Int)]) → BoxAt H' p (c + 5) → Bar p H H' → Q (.ref l) H'
theorem other_ne {i j n : Nat} (hi : i < n) (hj : j + 1 < n) : (i + 1 + j) % n < n ∧ (i + 1 + j) % n ≠ i := by
  refine ⟨Nat.mod_lt _ (by omega), ?_⟩
  by_cases h : i + 1 + j < n
  · rw [Nat.mod_eq_of_lt h]
    omega
  · rw [Nat.mod_eq_sub_mod (by omega), Nat.mod_eq_of_lt (by omega)]
    omega
theorem port_at {ps : List (List Nat)} {i : Nat} (h : i < ps.length) : atI (txts ps) (i : Int) = some (.str (S ps[i])) := atI_nat (by rw [List.getElem?_map, List.getElem?_eq_getElem h]; rfl)
section
variable {P : Program} {w : World} {K : PySem.W.Frag} {mg : Str → Option Value} {base : Heap}
theorem ok_lchan {f : Addr} {fd : FuncData} (F : Fun K "_law_channel" "_law_channel" s__law_channel f fd) (B : Blt mg) (DT : Dn P w K mg base CX0 1 "_law_take" ["_law_box_here", "_law_many"] spTake) (DN : Dn P w K mg base CX0 2 "_law_number" ["_law_box_here", "_law_low", "_law_high"] spNumber) :
    FnOk P w K mg base CX0 3 f fd ["_law_box_here", "_law_name", "_law_ports"] spLChan := by
  refine F.ok sc__law_channel (fun vs H Q E h => ?_) (fun cdv A outer s H vs Q E hr h => ?_)
  · obtain ⟨p, a, nm, ps, c, rfl, _⟩ := h
    rfl
  · obtain ⟨p, a, nm, ps, c, rfl, hp, hc, ha, l1, l2, nd, hps, hnm, q⟩ := h
    refine ⟨_, (pss_cons (ps_set (i := 3) sc__law_channel.nd rfl (.inl rfl) (pe_d DT (hr.mono (by decide)) (by rfl) pass0 (pa_cons (pv 0) (pa_cons (pe_callB call_len_seq (by rfl) B.len PySem.boot_len (pa_cons (pv 2) pa_nil)) pa_nil))))
      (pss_cons (ps_set (i := 4) sc__law_channel.nd rfl (.inl rfl) (pe_op op_mod (pe_op op_add (pe_op op_add (pv 3) pe_int) (pe_d DT (hr.mono (by decide)) (by rfl) pass0 (pa_cons (pv 0) (pa_cons (pe_op op_sub (pe_callB call_len_seq (by rfl) B.len PySem.boot_len (pa_cons (pv 2) pa_nil)) pe_int) pa_nil)))) (pe_callB call_len_seq (by rfl) B.len PySem.boot_len (pa_cons (pv 2) pa_nil))))
      (pss_cons (ps_set (i := 5) sc__law_channel.nd rfl (.inl rfl) (pe_d DN (hr.mono (by decide)) (by rfl) pass0 (pa_cons (pv 0) (pa_cons pe_int (pa_cons (pe_op op_pow pe_int pe_int) pa_nil)))))
      (pss_cons (ps_set (i := 6) sc__law_channel.nd rfl (.inl rfl) (pe_tup (pa_cons (pv 1) (pa_cons (pe_ix ix_list (pv 2) (pv 3) (fun _ _ => rfl)) (pa_cons (pe_ix ix_list (pv 2) (pv 4) (fun _ _ => rfl)) (pa_cons (pe_d DN (hr.mono (by decide)) (by rfl) pass0 (pa_cons (pv 0) (pa_cons pe_int (pa_cons pe_int pa_nil)))) (pa_cons (pe_d DN (hr.mono (by decide)) (by rfl) pass0 (pa_cons (pv 0) (pa_cons pe_int (pa_cons pe_int pa_nil)))) (pa_cons (pv 5) pa_nil))))))))
      (pss_one (ps_ret (pe_op op_catT (pv 6) (pe_tup (pa_cons (pe_d DN (hr.mono (by decide)) (by rfl) pass0 (pa_cons (pv 0) (pa_cons pe_int (pa_cons pe_int pa_nil)))) (pa_cons (pe_d DN (hr.mono (by decide)) (by rfl) pass0 (pa_cons (pv 0) (pa_cons (pv 5) (pa_cons (pe_op op_pow pe_int pe_int) pa_nil)))) pa_nil)))))))))), ?_⟩
    have len : (txts ps).length = ps.length := List.length_map _
    refine ⟨_, rfl, _, rfl, a, _, rfl, SqA.l ha, p, _, c, rfl, hp, by omega, by rw [len]; omega, by rw [len]; omega, fun r H1 r0 r1 hp1 b1 => ?_⟩
    obtain ⟨i, rfl⟩ := Int.eq_ofNat_of_zero_le r0
    have hi : i < ps.length := by rw [len] at r1; omega
    have ha1 := hp.nb b1 _ _ nb_txts ha
    refine ⟨_, rfl, _, _, rfl, rfl, _, rfl, _, rfl, a, _, rfl, SqA.l ha1, _, _, rfl, rfl, p, _, _, rfl, hp1, by omega, by rw [len]; omega, by rw [len]; omega, fun r H2 q0 q1 hp2 b2 => ?_⟩
    obtain ⟨j, rfl⟩ := Int.eq_ofNat_of_zero_le q0
    have hj : j + 1 < ps.length := by rw [len] at q1; omega
    have ha2 := hp1.nb b2 _ _ nb_txts ha1
    refine ⟨_, _, rfl, rfl, _, rfl, a, _, rfl, SqA.l ha2, _, _, rfl, rfl, (by show (0 : Int) < ((txts ps).length : Int); rw [len]; omega), ?_⟩
    obtain ⟨k1, k2⟩ := other_ne hi hj
    have eo : ((i : Int) + 1 + (j : Int)) % ((txts ps).length : Int) = (((i + 1 + j) % ps.length : Nat) : Int) := by
      rw [len]
      norm_cast
    dsimp only
    rw [eo]
    generalize (i + 1 + j) % ps.length = o at k1 k2 ⊢
    refine ⟨_, rfl, _, _, rfl, rfl, ⟨by decide, by decide, by decide⟩, p, 0, 1000000, _, rfl, hp2, by omega, by decide, by decide, fun fi H3 f0 f1 hp3 b3 => ?_⟩
    have ha3 := hp2.nb b3 _ _ nb_txts ha2
    refine ⟨_, rfl, _, rfl, _, rfl, a, _, _, _, rfl, rfl, SqL.of ha3, port_at hi, _, rfl, _, rfl, a, _, _, _, rfl, rfl, SqL.of ha3, port_at k1, ?_⟩
    refine ⟨_, rfl, p, 1, 1000, _, rfl, hp3, by omega, by decide, by decide, fun n1 H4 n10 n11 hp4 b4 => ?_⟩
    refine ⟨_, rfl, p, 0, 1000, _, rfl, hp4, by omega, by decide, by decide, fun n2 H5 n20 n21 hp5 b5 => ?_⟩
    refine ⟨_, rfl, ?_⟩
    refine ⟨Nat.le_of_ble_eq_true rfl, fun t ht => ?_⟩
    generalize hXq : upd _ t _ = H6
    have s6 := laid_same hXq ht
    have e6 := laid_at hXq
    clear hXq
    have hp6 := hp5.same s6
    refine ⟨_, rfl, _, rfl, p, 0, 1000, _, rfl, hp6, by omega, by decide, by decide, fun n3 H7 n30 n31 hp7 b7 => ?_⟩
    refine ⟨_, rfl, _, rfl, _, _, rfl, rfl, ⟨by decide, by decide, by decide⟩, p, fi, 1000000, _, rfl, hp7, by omega, f1, by omega, fun n4 H8 n40 n41 hp8 b8 => ?_⟩
    refine ⟨Nat.le_of_ble_eq_true rfl, fun u hu => ?_⟩
    generalize hXq : upd _ u _ = H9
    have s9 := laid_same hXq hu
    have e9 := laid_at hXq
    clear hXq
    have hp9 := hp8.same s9
    have e6' := s9 _ _ (hp7.nb b8 _ _ rfl (hp6.nb b7 _ _ rfl e6))
    refine ⟨t, u, _, _, rfl, rfl, .inl (.inl e6'), .inl (.inl e9), (by intro z; cases z), Nat.le_of_ble_eq_true rfl, (fun z => by cases z), fun _ d hd => ?_⟩
    generalize hXq : upd _ d _ = H10
    have s10 := laid_same hXq hd
    have e10 := laid_at hXq
    clear hXq
    have bb := b1.trans (b2.trans (b3.trans (b4.trans (b5.trans ((Bar.same s6).trans (b7.trans (b8.trans (Bar.same s9))))))))
    have ne : ps[i] ≠ ps[o] := fun z => k2 ((List.getElem_inj nd).mp z).symm
    exact q d ⟨nm, ps[i], ps[o], n1, n2, fi, n3, n4⟩ H10 (bb_none bb hp9 hd) rfl ⟨hnm, hps _ (List.getElem_mem _), hps _ (List.getElem_mem _), ne, ⟨n10, n11⟩, ⟨n20, n21⟩, ⟨f0, f1⟩, ⟨n30, n31⟩, ⟨n40, n41⟩⟩ (List.getElem_mem _) (List.getElem_mem _) e10 ((hp9.same s10).mono (by omega)) (bb.trans (Bar.same s10))
theorem ok_lbrk {f : Addr} {fd : FuncData} (F : Fun K "_law_breaker" "_law_breaker" s__law_breaker f fd) (B : Blt mg) (DT : Dn P w K mg base CX0 1 "_law_take" ["_law_box_here", "_law_many"] spTake) (DN : Dn P w K mg base CX0 2 "_law_number" ["_law_box_here", "_law_low", "_law_high"] spNumber) :
    FnOk P w K mg base CX0 3 f fd ["_law_box_here", "_law_name", "_law_ports"] spLBrk := by
  refine F.ok sc__law_breaker (fun vs H Q E h => ?_) (fun cdv A outer s H vs Q E hr h => ?_)
  · obtain ⟨p, a, nm, ps, c, rfl, _⟩ := h
    rfl
  · obtain ⟨p, a, nm, ps, c, rfl, hp, hc, ha, l1, l2, hps, hnm, q⟩ := h
    refine ⟨_, (pss_cons (ps_set (i := 3) sc__law_breaker.nd rfl (.inl rfl) (pe_tup (pa_cons (pv 1) (pa_cons (pe_ix ix_list (pv 2) (pe_d DT (hr.mono (by decide)) (by rfl) pass0 (pa_cons (pv 0) (pa_cons (pe_callB call_len_seq (by rfl) B.len PySem.boot_len (pa_cons (pv 2) pa_nil)) pa_nil))) (fun _ _ => rfl)) (pa_cons (pe_d DN (hr.mono (by decide)) (by rfl) pass0 (pa_cons (pv 0) (pa_cons pe_int (pa_cons (pe_op op_pow pe_int pe_int) pa_nil)))) (pa_cons (pe_d DN (hr.mono (by decide)) (by rfl) pass0 (pa_cons (pv 0) (pa_cons pe_int (pa_cons (pe_op op_pow pe_int pe_int) pa_nil)))) pa_nil))))))
      (pss_one (ps_ret (pe_op op_catT (pv 3) (pe_tup (pa_cons (pe_d DN (hr.mono (by decide)) (by rfl) pass0 (pa_cons (pv 0) (pa_cons pe_int (pa_cons pe_int pa_nil)))) (pa_cons (pe_d DN (hr.mono (by decide)) (by rfl) pass0 (pa_cons (pv 0) (pa_cons pe_int (pa_cons (pe_op op_pow pe_int pe_int) pa_nil)))) pa_nil))))))), ?_⟩
    have len : (txts ps).length = ps.length := List.length_map _
    refine ⟨_, rfl, _, rfl, _, rfl, _, rfl, a, _, rfl, SqA.l ha, p, _, c, rfl, hp, by omega, by rw [len]; omega, by rw [len]; omega, fun r H1 r0 r1 hp1 b1 => ?_⟩
    obtain ⟨i, rfl⟩ := Int.eq_ofNat_of_zero_le r0
    have hi : i < ps.length := by rw [len] at r1; omega
    have ha1 := hp.nb b1 _ _ nb_txts ha
    refine ⟨a, _, _, _, rfl, rfl, SqL.of ha1, port_at hi, ?_⟩
    refine ⟨_, rfl, _, _, rfl, rfl, ⟨by decide, by decide, by decide⟩, p, 0, 1000000, _, rfl, hp1, by omega, by decide, by decide, fun n1 H2 n10 n11 hp2 b2 => ?_⟩
    refine ⟨_, rfl, _, _, rfl, rfl, ⟨by decide, by decide, by decide⟩, p, 0, 1000000, _, rfl, hp2, by omega, by decide, by decide, fun n2 H3 n20 n21 hp3 b3 => ?_⟩
    refine ⟨Nat.le_of_ble_eq_true rfl, fun t ht => ?_⟩
    generalize hXq : upd _ t _ = H6
    have s6 := laid_same hXq ht
    have e6 := laid_at hXq
    clear hXq
    have hp6 := hp3.same s6
    refine ⟨_, rfl, _, rfl, p, 0, 1000, _, rfl, hp6, by omega, by decide, by decide, fun n3 H7 n30 n31 hp7 b7 => ?_⟩
    refine ⟨_, rfl, _, _, rfl, rfl, ⟨by decide, by decide, by decide⟩, p, 1, 1000000, _, rfl, hp7, by omega, by decide, by decide, fun n4 H8 n40 n41 hp8 b8 => ?_⟩
    refine ⟨Nat.le_of_ble_eq_true rfl, fun u hu => ?_⟩
    generalize hXq : upd _ u _ = H9
    have s9 := laid_same hXq hu
    have e9 := laid_at hXq
    clear hXq
    have hp9 := hp8.same s9
    have e6' := s9 _ _ (hp7.nb b8 _ _ rfl (hp6.nb b7 _ _ rfl e6))
    refine ⟨t, u, _, _, rfl, rfl, .inl (.inl e6'), .inl (.inl e9), (by intro z; cases z), Nat.le_of_ble_eq_true rfl, (fun z => by cases z), fun _ d hd => ?_⟩
    generalize hXq : upd _ d _ = H10
    have s10 := laid_same hXq hd
    have e10 := laid_at hXq
    clear hXq
    have bb := b1.trans (b2.trans (b3.trans ((Bar.same s6).trans (b7.trans (b8.trans (Bar.same s9))))))
    exact q d ⟨⟨nm, ps[i], n1, n2, n3⟩, n4⟩ H10 (bb_none bb hp9 hd) rfl ⟨⟨hnm, hps _ (List.getElem_mem _), ⟨n10, n11⟩, ⟨n20, n21⟩, ⟨n30, n31⟩⟩, ⟨n40, n41⟩⟩ (List.getElem_mem _) e10 ((hp9.same s10).mono (by omega)) (bb.trans (Bar.same s10))
theorem ok_lshp {f : Addr} {fd : FuncData} (F : Fun K "_law_ship" "_law_ship" s__law_ship f fd) (B : Blt mg) (DT : Dn P w K mg base CX0 1 "_law_take" ["_law_box_here", "_law_many"] spTake) (DN : Dn P w K mg base CX0 2 "_law_number" ["_law_box_here", "_law_low", "_law_high"] spNumber) :
    FnOk P w K mg base CX0 3 f fd ["_law_box_here", "_law_name", "_law_ports"] spLShp := by
  refine F.ok sc__law_ship (fun vs H Q E h => ?_) (fun cdv A outer s H vs Q E hr h => ?_)
  · obtain ⟨p, a, nm, ps, c, rfl, _⟩ := h
    rfl
  · obtain ⟨p, a, nm, ps, c, rfl, hp, hc, ha, l1, l2, hps, hnm, q⟩ := h
    refine ⟨_, (pss_cons (ps_set (i := 3) sc__law_ship.nd rfl (.inl rfl) (pe_tup (pa_cons (pv 1) (pa_cons (pe_ix ix_list (pv 2) (pe_d DT (hr.mono (by decide)) (by rfl) pass0 (pa_cons (pv 0) (pa_cons (pe_callB call_len_seq (by rfl) B.len PySem.boot_len (pa_cons (pv 2) pa_nil)) pa_nil))) (fun _ _ => rfl)) (pa_cons (pe_ix ix_list (pv 2) (pe_d DT (hr.mono (by decide)) (by rfl) pass0 (pa_cons (pv 0) (pa_cons (pe_callB call_len_seq (by rfl) B.len PySem.boot_len (pa_cons (pv 2) pa_nil)) pa_nil))) (fun _ _ => rfl)) pa_nil)))))
      (pss_cons (ps_set (i := 3) sc__law_ship.nd rfl (.inl rfl) (pe_op op_catT (pv 3) (pe_tup (pa_cons (pe_d DN (hr.mono (by decide)) (by rfl) pass0 (pa_cons (pv 0) (pa_cons pe_int (pa_cons (pe_op op_pow pe_int pe_int) pa_nil)))) (pa_cons (pe_d DN (hr.mono (by decide)) (by rfl) pass0 (pa_cons (pv 0) (pa_cons pe_int (pa_cons (pe_op op_pow pe_int pe_int) pa_nil)))) pa_nil)))))
      (pss_one (ps_ret (pe_op op_catT (pv 3) (pe_tup (pa_cons (pe_d DN (hr.mono (by decide)) (by rfl) pass0 (pa_cons (pv 0) (pa_cons pe_int (pa_cons pe_int pa_nil)))) pa_nil))))))), ?_⟩
    have len : (txts ps).length = ps.length := List.length_map _
    refine ⟨_, rfl, _, rfl, _, rfl, _, rfl, a, _, rfl, SqA.l ha, p, _, c, rfl, hp, by omega, by rw [len]; omega, by rw [len]; omega, fun r H1 r0 r1 hp1 b1 => ?_⟩
    obtain ⟨i, rfl⟩ := Int.eq_ofNat_of_zero_le r0
    have hi : i < ps.length := by rw [len] at r1; omega
    have ha1 := hp.nb b1 _ _ nb_txts ha
    refine ⟨a, _, _, _, rfl, rfl, SqL.of ha1, port_at hi, ?_⟩
    refine ⟨_, rfl, _, rfl, _, rfl, a, _, rfl, SqA.l ha1, p, _, _, rfl, hp1, by omega, by rw [len]; omega, by rw [len]; omega, fun r H2 q0 q1 hp2 b2 => ?_⟩
    obtain ⟨j, rfl⟩ := Int.eq_ofNat_of_zero_le q0
    have hj : j < ps.length := by rw [len] at q1; omega
    have ha2 := hp1.nb b2 _ _ nb_txts ha1
    refine ⟨a, _, _, _, rfl, rfl, SqL.of ha2, port_at hj, ?_⟩
    refine ⟨Nat.le_of_ble_eq_true rfl, fun t ht => ?_⟩
    generalize hXq : upd _ t _ = H3
    have s3 := laid_same hXq ht
    have e3 := laid_at hXq
    clear hXq
    have hp3 := hp2.same s3
    refine ⟨_, rfl, _, rfl, _, _, rfl, rfl, ⟨by decide, by decide, by decide⟩, p, 0, 1000000, _, rfl, hp3, by omega, by decide, by decide, fun n1 H4 n10 n11 hp4 b4 => ?_⟩
    refine ⟨_, rfl, _, _, rfl, rfl, ⟨by decide, by decide, by decide⟩, p, 0, 1000000, _, rfl, hp4, by omega, by decide, by decide, fun n2 H5 n20 n21 hp5 b5 => ?_⟩
    refine ⟨Nat.le_of_ble_eq_true rfl, fun u hu => ?_⟩
    generalize hXq : upd _ u _ = H6
    have s6 := laid_same hXq hu
    have e6 := laid_at hXq
    clear hXq
    have hp6 := hp5.same s6
    have e3' := s6 _ _ (hp4.nb b5 _ _ rfl (hp3.nb b4 _ _ rfl e3))
    refine ⟨t, u, _, _, rfl, rfl, .inl (.inl e3'), .inl (.inl e6), (by intro z; cases z), Nat.le_of_ble_eq_true rfl, (fun z => by cases z), fun _ t2 ht2 => ?_⟩
    generalize hXq : upd _ t2 _ = H7
    have s7 := laid_same hXq ht2
    have e7 := laid_at hXq
    clear hXq
    have hp7 := hp6.same s7
    refine ⟨_, rfl, _, rfl, p, 0, 1000, _, rfl, hp7, by omega, by decide, by decide, fun n3 H8 n30 n31 hp8 b8 => ?_⟩
    refine ⟨Nat.le_of_ble_eq_true rfl, fun u2 hu2 => ?_⟩
    generalize hXq : upd _ u2 _ = H9
    have s9 := laid_same hXq hu2
    have e9 := laid_at hXq
    clear hXq
    have hp9 := hp8.same s9
    have e7' := s9 _ _ (hp7.nb b8 _ _ rfl e7)
    refine ⟨t2, u2, _, _, rfl, rfl, .inl (.inl e7'), .inl (.inl e9), (by intro z; cases z), Nat.le_of_ble_eq_true rfl, (fun z => by cases z), fun _ d hd => ?_⟩
    generalize hXq : upd _ d _ = H10
    have s10 := laid_same hXq hd
    have e10 := laid_at hXq
    clear hXq
    have bb := b1.trans (b2.trans ((Bar.same s3).trans (b4.trans (b5.trans ((Bar.same s6).trans ((Bar.same s7).trans (b8.trans (Bar.same s9))))))))
    exact q d ⟨⟨nm, ps[i], n1, n2, n3⟩, ps[j]⟩ H10 (bb_none bb hp9 hd) rfl ⟨⟨hnm, hps _ (List.getElem_mem _), ⟨n10, n11⟩, ⟨n20, n21⟩, ⟨n30, n31⟩⟩, hps _ (List.getElem_mem _)⟩ (List.getElem_mem _) (List.getElem_mem _) e10 ((hp9.same s10).mono (by omega)) (bb.trans (Bar.same s10))
theorem ok_few {f : Addr} {fd : FuncData} (F : Fun K "_law_few" "_law_few" s__law_few f fd) (DT : Dn P w K mg base CX0 1 "_law_take" ["_law_box_here", "_law_many"] spTake) : FnOk P w K mg base CX0 2 f fd ["_law_box_here"] spFew := by
  refine F.ok sc__law_few (fun vs H Q E h => ?_) (fun cdv A outer s H vs Q E hr h => ?_)
  · obtain ⟨p, c, rfl, _⟩ := h
    rfl
  · obtain ⟨p, c, rfl, hp, hc, q⟩ := h
    refine ⟨_, (pss_cons (ps_set (i := 1) sc__law_few.nd rfl (.inl rfl) (pe_d DT (hr.mono (by decide)) (by rfl) pass0 (pa_cons (pv 0) (pa_cons pe_int pa_nil))))
      (pss_cons (ps_set (i := 2) sc__law_few.nd rfl (.inl rfl) (pe_lst (pa_cons (pe_op op_add pe_int (pe_d DT (hr.mono (by decide)) (by rfl) pass0 (pa_cons (pv 0) (pa_cons pe_int pa_nil)))) (pa_cons (pe_d DT (hr.mono (by decide)) (by rfl) pass0 (pa_cons (pv 0) (pa_cons pe_int pa_nil))) (pa_cons (pe_d DT (hr.mono (by decide)) (by rfl) pass0 (pa_cons (pv 0) (pa_cons pe_int pa_nil))) (pa_cons (pe_d DT (hr.mono (by decide)) (by rfl) pass0 (pa_cons (pv 0) (pa_cons pe_int pa_nil))) pa_nil))))))
      (pss_one (ps_ret (pe_ix ix_list (pe_lst (pa_cons (pe_lst (pa_cons pe_int (pa_cons pe_int (pa_cons pe_int (pa_cons pe_int pa_nil))))) (pa_cons (pe_lst (pa_cons pe_int (pa_cons pe_int (pa_cons pe_int (pa_cons pe_int pa_nil))))) (pa_cons (pv 2) (pa_cons (pv 2) (pa_cons (pv 2) (pa_cons (pv 2) pa_nil))))))) (pv 1) (fun _ _ => rfl)))))), ?_⟩
    refine ⟨_, rfl, p, 6, c, rfl, hp, by omega, by decide, by decide, fun r H1 r0 r1 hp1 b1 => ?_⟩
    refine ⟨_, rfl, p, 8, _, rfl, hp1, by omega, by decide, by decide, fun n1 H2 n10 n11 hp2 b2 => ?_⟩
    refine ⟨_, _, rfl, rfl, ?_⟩
    refine ⟨_, rfl, p, 13, _, rfl, hp2, by omega, by decide, by decide, fun n2 H3 n20 n21 hp3 b3 => ?_⟩
    refine ⟨_, rfl, p, 5, _, rfl, hp3, by omega, by decide, by decide, fun n3 H4 n30 n31 hp4 b4 => ?_⟩
    refine ⟨_, rfl, p, 7, _, rfl, hp4, by omega, by decide, by decide, fun n4 H5 n40 n41 hp5 b5 => ?_⟩
    refine ⟨Nat.le_of_ble_eq_true rfl, fun l hl => ?_⟩
    generalize hXq : upd _ l _ = H6
    have s6 := laid_same hXq hl
    have e6 := laid_at hXq
    clear hXq
    refine ⟨Nat.le_of_ble_eq_true rfl, fun l1 hl1 => ?_⟩
    generalize hXq : upd _ l1 _ = H7
    have s7 := laid_same hXq hl1
    have e7 := laid_at hXq
    clear hXq
    refine ⟨Nat.le_of_ble_eq_true rfl, fun l2 hl2 => ?_⟩
    generalize hXq : upd _ l2 _ = H8
    have s8 := laid_same hXq hl2
    have e8 := laid_at hXq
    clear hXq
    refine ⟨_, rfl, _, rfl, _, rfl, _, rfl, ?_⟩
    refine ⟨Nat.le_of_ble_eq_true rfl, fun l3 hl3 => ?_⟩
    generalize hXq : upd _ l3 _ = H9
    have s9 := laid_same hXq hl3
    have e9 := laid_at hXq
    clear hXq
    have e6 := s9 _ _ (s8 _ _ (s7 _ _ e6))
    have e7 := s9 _ _ (s8 _ _ e7)
    have e8 := s9 _ _ e8
    obtain ⟨x, hx, hm⟩ := at_drawn (xs := [V.ref l1, V.ref l2, V.ref l, V.ref l, V.ref l, V.ref l]) r0 r1
    refine ⟨_, rfl, l3, _, _, x, rfl, rfl, SqL.of e9, hx, ?_⟩
    have sm := s6.trans (s7.trans (s8.trans s9))
    have hb := (hp5.same sm).mono (show c + 1 + 1 + 1 + 1 + 1 ≤ c + 5 by omega)
    have bb := b1.trans (b2.trans (b3.trans (b4.trans (b5.trans (Bar.same sm)))))
    simp only [List.mem_cons, List.not_mem_nil, or_false] at hm
    rcases hm with rfl | rfl | rfl | rfl | rfl | rfl
    · exact q l1 8 12 4 6 H9 (by decide) (by decide) (by decide) (by decide) e7 hb bb
    · exact q l2 1 0 4 6 H9 (by decide) (by decide) (by decide) (by decide) e8 hb bb
    all_goals
      obtain ⟨m1, rfl⟩ := Int.eq_ofNat_of_zero_le n10
      obtain ⟨m2, rfl⟩ := Int.eq_ofNat_of_zero_le n20
      obtain ⟨m3, rfl⟩ := Int.eq_ofNat_of_zero_le n30
      obtain ⟨m4, rfl⟩ := Int.eq_ofNat_of_zero_le n40
      refine q _ (1 + m1) m2 m3 m4 H9 (by omega) (by omega) (by omega) (by omega) ?_ hb bb
      rw [e6]
      norm_cast
end
end Law
end
section
set_option Elab.async false
set_option linter.all false
set_option maxRecDepth 100000
set_option maxHeartbeats 4000000
namespace Law
open PySem PySem.Spec PyProof.Rows L2 IK SX
theorem collect {α : Type} {H : Hp} {row : α → List V} : ∀ {ys : List V} {Pr : Nat → α → Prop}, (∀ (i : Nat) (y : V), ys[i]? = some y → ∃ x, Pr i x ∧ ∃ t, y = .ref t ∧ H t = some (.tup (row x))) →
    ∃ l : List α, RowsIs H ys (l.map row) ∧ (∀ (i : Nat) (x : α), l[i]? = some x → Pr i x) ∧ l.length = ys.length
  | [], Pr, _ => ⟨[], ⟨rfl, fun i y r h _ => by simp at h⟩, fun i x h => by simp at h, rfl⟩
  | y :: ys, Pr, h => by
    obtain ⟨x, h1, t, h2, h3⟩ := h 0 y rfl
    obtain ⟨l, k1, k2, k3⟩ := collect (ys := ys) (Pr := fun i => Pr (i + 1)) fun i y e => h (i + 1) y (by simpa using e)
    refine ⟨x :: l, ⟨by simp [k3], fun i z r e1 e2 => ?_⟩, fun i z e => ?_, by simp [k3]⟩
    · cases i with
      | zero =>
        obtain rfl : y = z := by simpa using e1
        obtain rfl : row x = r := by simpa using e2
        exact ⟨t, h2, h3⟩
      | succ i => exact k1.2 i z r (by simpa using e1) (by simpa using e2)
    · cases i with
      | zero =>
        obtain rfl : x = z := by simpa using e
        exact h1
      | succ i => exact k2 i z (by simpa using e)
theorem map_of {α : Type} {l : List α} {f : α → List Nat} {ws : List (List Nat)} (hl : l.length = ws.length) (h : ∀ (i : Nat) (x : α), l[i]? = some x → ws[i]? = some (f x)) : l.map f = ws := by
  refine List.ext_getElem? fun i => ?_
  rw [List.getElem?_map]
  cases e : l[i]? with
  | none =>
    have e2 : l.length ≤ i := List.getElem?_eq_none_iff.mp e
    rw [List.getElem?_eq_none_iff.mpr (by omega)]
    rfl
  | some a => rw [h i a e]; rfl
def spMade (k : KA) : Sp := fun vs H Q _ => ∃ (a : Addr) (W : Wld), vs = [.ref a] ∧ ToldAt H a W ∧ W.Good ∧ ∀ p H', H p = none → Same H H' → WldAt k H' p W → (∀ d l, H d = some (.lst l) → WldAt k (hide d H') p W) → Q (.ref p) H'
def spLWorld : Sp := fun vs H Q _ => ∃ (p z : Addr) (z1 z2 z3 z4 c : Nat), vs = [.ref p, .ref z] ∧ BoxAt H p c ∧ c < 70000 ∧ H z = some (.lst [.int (z1 : Int), .int (z2 : Int), .int (z3 : Int), .int (z4 : Int)]) ∧ (1 ≤ z1 ∧ z1 ≤ 8) ∧ z2 ≤ 12 ∧ z3 ≤ 4 ∧ z4 ≤ 6 ∧
  ∀ a (W : Wld) H', W.Good → ToldAt H' a W → BoxAt H' p (c + 310) → Bar p H H' → Q (.ref a) H'
theorem walk_lst {K : PySem.W.Frag} {a : Addr} {xs : List V} : Walk (Itl K a) xs.length (fun H => SqL K H a xs) (fun i H x H' => H' = H ∧ xs[i]? = some x) := walk_list
section
variable {P : Program} {w : World} {K : PySem.W.Frag} {mg : Str → Option Value} {base : Heap}
theorem ok_made {k : KA} {f : Addr} {fd : FuncData} (F : Fun K "_law_made" "_law_made" s__law_made f fd) (B : Blt mg) (DC : Ma P w K mg base CX0 4 "Channel" k.C ["self", "name", "one", "other", "hours", "depth", "first", "growth", "most"] (spChanMk k.C))
    (DB : Ma P w K mg base CX0 5 "Breaker" k.B ["self", "name", "port", "hour", "strength", "draught", "cut"] (spBrkMk k.B)) (DS : Ma P w K mg base CX0 5 "Ship" k.S ["self", "name", "port", "goal", "hour", "strength", "draught"] (spShpMk k.S))
    (DW : Ma P w K mg base CX0 3 "World" k.W ["self", "begin", "ports", "channels", "breakers", "ships"] (spWldMk K k)) : FnOk P w K mg base CX0 7 f fd ["_law_world_here"] (spMade k) := by
  refine F.ok sc__law_made (fun vs H Q E h => ?_) (fun cdv A outer s H vs Q E hr h => ?_)
  · obtain ⟨a, W, rfl, _⟩ := h
    rfl
  · obtain ⟨a, W, rfl, hT, g, q⟩ := h
    refine ⟨_, (pss_cons (ps_setLc (i := 1) (own := [("_law_a", 4), ("_law_b", 5), ("_law_c", 6), ("_law_d", 7), ("_law_e", 8), ("_law_f", 9), ("_law_g", 10), ("_law_h", 11)]) (g := gTup K 8 (gCons (gName 4) (gCons (gName 5) (gCons (gName 6) (gCons (gName 7) (gCons (gName 8) (gCons (gName 9) (gCons (gName 10) (gCons (gName 11) gNil))))))))) (tt := tYes) rfl sc__law_made.nd rfl rfl (by rfl) (pi_seq (pe_ix ix_tup (pv 0) pe_int (fun _ _ => rfl))) (blkOk_by (N := ["_law_world_here", "_law_channels", "_law_breakers", "_law_ships", "_law_a", "_law_b", "_law_c", "_law_d", "_law_e", "_law_f", "_law_g", "_law_h"]) (sc := defScope s__law_made) (by decide +kernel)) (fun _ _ _ _ _ => pg_tup rfl (pgs_cons (pg_name (i := 4) sc__law_made.nd rfl (Or.inl rfl)) (pgs_cons (pg_name (i := 5) sc__law_made.nd rfl (Or.inl rfl)) (pgs_cons (pg_name (i := 6) sc__law_made.nd rfl (Or.inl rfl)) (pgs_cons (pg_name (i := 7) sc__law_made.nd rfl (Or.inl rfl)) (pgs_cons (pg_name (i := 8) sc__law_made.nd rfl (Or.inl rfl)) (pgs_cons (pg_name (i := 9) sc__law_made.nd rfl (Or.inl rfl)) (pgs_cons (pg_name (i := 10) sc__law_made.nd rfl (Or.inl rfl)) (pgs_cons (pg_name (i := 11) sc__law_made.nd rfl (Or.inl rfl)) pgs_nil))))))))) (fun _ _ _ _ _ => pts_nil) (fun _ _ _ _ _ => (pe_ma DC (hr.mono (by decide)) (by rfl) pass0 (pa_cons (pv 4) (pa_cons (pv 5) (pa_cons (pv 6) (pa_cons (pv 7) (pa_cons (pv 8) (pa_cons (pv 9) (pa_cons (pv 10) (pa_cons (pv 11) pa_nil)))))))))))
      (pss_cons (ps_set (i := 2) sc__law_made.nd rfl (.inl rfl) (pe_callTy call_tuple_of (by rfl) B.tuple (by decide +kernel) (pa_cons (pe_lc (own := [("_law_a", 4), ("_law_b", 5), ("_law_c", 6), ("_law_d", 7), ("_law_e", 8), ("_law_f", 9)]) (g := gTup K 6 (gCons (gName 4) (gCons (gName 5) (gCons (gName 6) (gCons (gName 7) (gCons (gName 8) (gCons (gName 9) gNil))))))) (tt := tYes) rfl sc__law_made.nd (pi_seq (pe_ix ix_tup (pv 0) pe_int (fun _ _ => rfl))) (blkOk_by (N := ["_law_world_here", "_law_channels", "_law_breakers", "_law_ships", "_law_a", "_law_b", "_law_c", "_law_d", "_law_e", "_law_f", "_law_g", "_law_h"]) (sc := defScope s__law_made) (by decide +kernel)) (fun _ _ _ _ _ => pg_tup rfl (pgs_cons (pg_name (i := 4) sc__law_made.nd rfl (Or.inl rfl)) (pgs_cons (pg_name (i := 5) sc__law_made.nd rfl (Or.inl rfl)) (pgs_cons (pg_name (i := 6) sc__law_made.nd rfl (Or.inl rfl)) (pgs_cons (pg_name (i := 7) sc__law_made.nd rfl (Or.inl rfl)) (pgs_cons (pg_name (i := 8) sc__law_made.nd rfl (Or.inl rfl)) (pgs_cons (pg_name (i := 9) sc__law_made.nd rfl (Or.inl rfl)) pgs_nil))))))) (fun _ _ _ _ _ => pts_nil) (fun _ _ _ _ _ => (pe_ma DB (hr.mono (by decide)) (by rfl) pass0 (pa_cons (pv 4) (pa_cons (pv 5) (pa_cons (pv 6) (pa_cons (pv 7) (pa_cons (pv 8) (pa_cons (pv 9) pa_nil))))))))) pa_nil)))
      (pss_cons (ps_setLc (i := 3) (own := [("_law_a", 4), ("_law_b", 5), ("_law_c", 6), ("_law_d", 7), ("_law_e", 8), ("_law_f", 9)]) (g := gTup K 6 (gCons (gName 4) (gCons (gName 5) (gCons (gName 6) (gCons (gName 7) (gCons (gName 8) (gCons (gName 9) gNil))))))) (tt := tYes) rfl sc__law_made.nd rfl rfl (by rfl) (pi_seq (pe_ix ix_tup (pv 0) pe_int (fun _ _ => rfl))) (blkOk_by (N := ["_law_world_here", "_law_channels", "_law_breakers", "_law_ships", "_law_a", "_law_b", "_law_c", "_law_d", "_law_e", "_law_f", "_law_g", "_law_h"]) (sc := defScope s__law_made) (by decide +kernel)) (fun _ _ _ _ _ => pg_tup rfl (pgs_cons (pg_name (i := 4) sc__law_made.nd rfl (Or.inl rfl)) (pgs_cons (pg_name (i := 5) sc__law_made.nd rfl (Or.inl rfl)) (pgs_cons (pg_name (i := 6) sc__law_made.nd rfl (Or.inl rfl)) (pgs_cons (pg_name (i := 7) sc__law_made.nd rfl (Or.inl rfl)) (pgs_cons (pg_name (i := 8) sc__law_made.nd rfl (Or.inl rfl)) (pgs_cons (pg_name (i := 9) sc__law_made.nd rfl (Or.inl rfl)) pgs_nil))))))) (fun _ _ _ _ _ => pts_nil) (fun _ _ _ _ _ => (pe_ma DS (hr.mono (by decide)) (by rfl) pass0 (pa_cons (pv 4) (pa_cons (pv 5) (pa_cons (pv 6) (pa_cons (pv 7) (pa_cons (pv 8) (pa_cons (pv 9) pa_nil)))))))))
      (pss_one (ps_ret (pe_ma DW (hr.mono (by decide)) (by rfl) pass0 (pa_cons (pe_ix ix_tup (pv 0) pe_int (fun _ _ => rfl)) (pa_cons (pe_callTy call_list_of (by rfl) B.list (by decide +kernel) (pa_cons (pe_ix ix_tup (pv 0) pe_int (fun _ _ => rfl)) pa_nil)) (pa_cons (pv 1) (pa_cons (pv 2) (pa_cons (pv 3) pa_nil))))))))))), ?_⟩
    obtain ⟨ap, ac, ab, as, yc, yb, ys, t1, t2, t3, rc, t5, rb, t7, rs⟩ := id hT
    have lc1 : yc.length ≤ 12 := by rw [rc.1, List.length_map]; exact g.chans
    have lb1 : yb.length ≤ 4 := by rw [rb.1, List.length_map]; exact g.brks
    have ls1 : ys.length ≤ 6 := by rw [rs.1, List.length_map]; exact g.shps
    have sm := Same.refl H
    refine ⟨_, rfl, a, _, 2, _, rfl, rfl, .inl (.inl t1), rfl, ac, rfl, lc_map (fun x y H' => ∃ p b, x = .ref p ∧ H p = some (.tup (Chan.vals b)) ∧ ∃ a, y = .ref a ∧ ObjAt k.C H' a chanK (Chan.vals b)) (.t (sm _ _ t3)) (Nat.lt_of_le_of_lt lc1 (by decide)) (fun x y H H' s ⟨p, b, e, o, a, e2, h⟩ => ⟨p, b, e, o, a, e2, h.same s⟩)
      (fun x y H D l hD ⟨p, b, e, o, a, e2, dx, h⟩ => ⟨p, b, e, o, a, e2, dx, hide_of hD (fun _ z => by cases z) h⟩) ?_ ?_⟩
    · intro x J0 kk hx s0 kq
      obtain ⟨o, b, rfl, hm, e⟩ := rc.mem hx
      refine ⟨o, _, rfl, .inl (.inl (s0 _ _ (sm _ _ e))), rfl, ?_⟩
      refine ⟨_, _, rfl, ?_⟩
      refine ⟨_, _, rfl, ?_⟩
      refine ⟨_, _, rfl, ?_⟩
      refine ⟨_, _, rfl, ?_⟩
      refine ⟨_, _, rfl, ?_⟩
      refine ⟨_, _, rfl, ?_⟩
      refine ⟨_, _, rfl, ?_⟩
      refine ⟨_, _, rfl, ?_⟩
      refine ⟨rfl, ?_⟩
      simp only [gName, wipe, L2.start, List.map_cons, List.map_nil, List.length_cons, List.length_nil, List.set_cons_zero, List.set_cons_succ, List.replicate_succ, List.replicate_zero, List.cons_append, List.nil_append, Nat.reduceAdd, Nat.reduceSub, Nat.zero_add, true_and]
      refine ⟨_, rfl, ?_⟩
      refine ⟨_, rfl, ?_⟩
      refine ⟨_, rfl, ?_⟩
      refine ⟨_, rfl, ?_⟩
      refine ⟨_, rfl, ?_⟩
      refine ⟨_, rfl, ?_⟩
      refine ⟨_, rfl, ?_⟩
      refine ⟨_, rfl, ?_⟩
      refine fun x dx hx hd _ => ?_
      exact ⟨x, b, rfl, g.good b hm, Makes.use (Q := kk) (fun p H' _ s4 h4 => kq _ _ s4 ⟨o, b, rfl, e, p, rfl, h4⟩) hx hd⟩
    intro D1 xc H1 hD1 s1 hy1 e1
    have oc := objs_of (fun _ _ e => e) rc e1
    have sm := sm.trans s1
    refine ⟨_, rfl, a, _, 3, _, rfl, rfl, .inl (.inl (sm _ _ t1)), rfl, ab, rfl, lc_map (fun x y H' => ∃ p b, x = .ref p ∧ H p = some (.tup (Brk.vals b)) ∧ ∃ a, y = .ref a ∧ ObjAt k.B H' a brkK (Brk.vals b)) (.t (sm _ _ t5)) (Nat.lt_of_le_of_lt lb1 (by decide)) (fun x y H H' s ⟨p, b, e, o, a, e2, h⟩ => ⟨p, b, e, o, a, e2, h.same s⟩)
      (fun x y H D l hD ⟨p, b, e, o, a, e2, dx, h⟩ => ⟨p, b, e, o, a, e2, dx, hide_of hD (fun _ z => by cases z) h⟩) ?_ ?_⟩
    · intro x J0 kk hx s0 kq
      obtain ⟨o, b, rfl, hm, e⟩ := rb.mem hx
      refine ⟨o, _, rfl, .inl (.inl (s0 _ _ (sm _ _ e))), rfl, ?_⟩
      refine ⟨_, _, rfl, ?_⟩
      refine ⟨_, _, rfl, ?_⟩
      refine ⟨_, _, rfl, ?_⟩
      refine ⟨_, _, rfl, ?_⟩
      refine ⟨_, _, rfl, ?_⟩
      refine ⟨_, _, rfl, ?_⟩
      refine ⟨rfl, ?_⟩
      simp only [gName, wipe, L2.start, List.map_cons, List.map_nil, List.length_cons, List.length_nil, List.set_cons_zero, List.set_cons_succ, List.replicate_succ, List.replicate_zero, List.cons_append, List.nil_append, Nat.reduceAdd, Nat.reduceSub, Nat.zero_add, true_and]
      refine ⟨_, rfl, ?_⟩
      refine ⟨_, rfl, ?_⟩
      refine ⟨_, rfl, ?_⟩
      refine ⟨_, rfl, ?_⟩
      refine ⟨_, rfl, ?_⟩
      refine ⟨_, rfl, ?_⟩
      refine fun x dx hx hd _ => ?_
      exact ⟨x, b, rfl, g.bgood b hm, Makes.use (Q := kk) (fun p H' _ s4 h4 => kq _ _ s4 ⟨o, b, rfl, e, p, rfl, h4⟩) hx hd⟩
    intro D2 xb H2 hD2 s2 hy2 e2
    have ob := objs_of (fun _ _ e => e) rb e2
    have sm := sm.trans s2
    refine ⟨D2, _, rfl, .inl ⟨.inl (.inl hy2), fun tb htb => ?_⟩⟩
    generalize hXq : upd _ tb _ = H2'
    have s2' := laid_same hXq htb
    have e2' := laid_at hXq
    clear hXq
    have sm := sm.trans s2'
    refine ⟨_, rfl, a, _, 4, _, rfl, rfl, .inl (.inl (sm _ _ t1)), rfl, as, rfl, lc_map (fun x y H' => ∃ p b, x = .ref p ∧ H p = some (.tup (Shp.row b)) ∧ ∃ a, y = .ref a ∧ ObjAt k.S H' a shpK (Shp.vals b)) (.t (sm _ _ t7)) (Nat.lt_of_le_of_lt ls1 (by decide)) (fun x y H H' s ⟨p, b, e, o, a, e2, h⟩ => ⟨p, b, e, o, a, e2, h.same s⟩)
      (fun x y H D l hD ⟨p, b, e, o, a, e2, dx, h⟩ => ⟨p, b, e, o, a, e2, dx, hide_of hD (fun _ z => by cases z) h⟩) ?_ ?_⟩
    · intro x J0 kk hx s0 kq
      obtain ⟨o, b, rfl, hm, e⟩ := rs.mem hx
      refine ⟨o, _, rfl, .inl (.inl (s0 _ _ (sm _ _ e))), rfl, ?_⟩
      refine ⟨_, _, rfl, ?_⟩
      refine ⟨_, _, rfl, ?_⟩
      refine ⟨_, _, rfl, ?_⟩
      refine ⟨_, _, rfl, ?_⟩
      refine ⟨_, _, rfl, ?_⟩
      refine ⟨_, _, rfl, ?_⟩
      refine ⟨rfl, ?_⟩
      simp only [gName, wipe, L2.start, List.map_cons, List.map_nil, List.length_cons, List.length_nil, List.set_cons_zero, List.set_cons_succ, List.replicate_succ, List.replicate_zero, List.cons_append, List.nil_append, Nat.reduceAdd, Nat.reduceSub, Nat.zero_add, true_and]
      refine ⟨_, rfl, ?_⟩
      refine ⟨_, rfl, ?_⟩
      refine ⟨_, rfl, ?_⟩
      refine ⟨_, rfl, ?_⟩
      refine ⟨_, rfl, ?_⟩
      refine ⟨_, rfl, ?_⟩
      refine fun x dx hx hd _ => ?_
      exact ⟨x, b, rfl, g.sgood b hm, Makes.use (Q := kk) (fun p H' _ s4 h4 => kq _ _ s4 ⟨o, b, rfl, e, p, rfl, h4⟩) hx hd⟩
    intro D3 xs H3 hD3 s3 hy3 e3
    have os := objs_of shp_vals rs e3
    have sm := sm.trans s3
    refine ⟨_, rfl, a, _, 0, _, rfl, rfl, .inl (.inl (sm _ _ t1)), rfl, ?_⟩
    refine ⟨_, rfl, a, _, 1, _, rfl, rfl, .inl (.inl (sm _ _ t1)), rfl, ap, _, rfl, SqA.t (sm _ _ t2), fun lp hlp => ?_⟩
    generalize hXq : upd _ lp _ = H4
    have s4 := laid_same hXq hlp
    have e4 := laid_at hXq
    clear hXq
    have sm := sm.trans s4
    refine ⟨_, rfl, _, rfl, _, rfl, fun x dx hx hd hne => ?_⟩
    have sx : Same H4 (upd (upd H4 dx (.own x)) x (.ins k.W dx [])) := fun b o e => by
      rw [upd_ne (ne_of_none e hx), upd_ne (ne_of_none e hd)]
      exact e
    have c1 := s2.trans (s2'.trans (s3.trans s4))
    have c2 := s2'.trans (s3.trans s4)
    refine ⟨x, W, lp, D1, tb, D3, xc, xb, xs, rfl, g, ⟨.l (sx _ _ e4), .l (sx _ _ (c1 _ _ hy1)), oc.same (c1.trans sx), .t (sx _ _ (s4 _ _ (s3 _ _ e2'))), ob.same (c2.trans sx), .l (sx _ _ (s4 _ _ hy3)), os.same (s4.trans sx)⟩, ⟨dx, upd_same⟩, fun H5 b5 f5 => ⟨rfl, ?_⟩⟩
    have s5 : Same H4 H5 := fun b o e => b5 b o (ne_of_none e hx) (sx _ _ e)
    have all : WldAt k H5 x W := ⟨xc, xb, xs, f5.f, oc.same (c1.trans s5), ob.same (c2.trans s5), os.same (s4.trans s5)⟩
    refine q x H5 (none_back sm hx) (sm.trans s5) all fun d l hd => ?_
    have hd5 := (sm.trans s5) _ _ hd
    obtain ⟨dx', l1, l2, l3, l4, g1, g2, g3, g4, g5, n1, n2, n3, n4⟩ := f5
    have nd : ∀ {y : Addr}, upd (upd H4 dx (.own x)) x (.ins k.W dx []) y = none → y ≠ d := fun hy z => by
      rw [z, sx _ _ (sm _ _ hd)] at hy
      cases hy
    have ho : ∀ {C : Addr} {ks : List Str} {ys : List V} {vss : List (List V)}, Objs C H5 ks ys vss → Objs C (hide d H5) ks ys vss := fun h => ⟨h.1, fun i x vs h1 h2 => by
      obtain ⟨q, e, dy, o⟩ := h.2 i x vs h1 h2
      exact ⟨q, e, dy, hide_of hd5 (fun _ z => by cases z) o⟩⟩
    exact ⟨xc, xb, xs, ⟨dx', l1, l2, l3, l4, hide_of hd5 (fun _ z => by cases z) g1, by rw [hide_ne (nd n1)]; exact g2, by rw [hide_ne (nd n2)]; exact g3, by rw [hide_ne (nd n3)]; exact g4, by rw [hide_ne (nd n4)]; exact g5⟩, ho (oc.same (c1.trans s5)), ho (ob.same (c2.trans s5)), ho (os.same (s4.trans s5))⟩
theorem ok_lworld {f : Addr} {fd : FuncData} (F : Fun K "_law_world" "_law_world" s__law_world f fd) (B : Blt mg) (DM : Dn P w K mg base CX0 2 "_law_names" ["_law_box_here", "_law_many"] spNames) (DN : Dn P w K mg base CX0 2 "_law_number" ["_law_box_here", "_law_low", "_law_high"] spNumber)
    (DC : Dn P w K mg base CX0 3 "_law_channel" ["_law_box_here", "_law_name", "_law_ports"] spLChan) (DB : Dn P w K mg base CX0 3 "_law_breaker" ["_law_box_here", "_law_name", "_law_ports"] spLBrk) (DS : Dn P w K mg base CX0 3 "_law_ship" ["_law_box_here", "_law_name", "_law_ports"] spLShp) :
    FnOk P w K mg base CX0 4 f fd ["_law_box_here", "_law_sizes"] spLWorld := by
  refine F.ok sc__law_world (fun vs H Q E h => ?_) (fun cdv A outer s H vs Q E hr h => ?_)
  · obtain ⟨p, z, z1, z2, z3, z4, c, rfl, _⟩ := h
    rfl
  · obtain ⟨p, z, z1, z2, z3, z4, c, rfl, hp, hc, hz, k1, k2, k3, k4, q⟩ := h
    refine ⟨_, (pss_cons (ps_set (i := 2) sc__law_world.nd rfl (.inr rfl) (pe_d DM (hr.mono (by decide)) (by rfl) pass0 (pa_cons (pv 0) (pa_cons (pe_ix ix_list (pv 1) pe_int (fun _ _ => rfl)) pa_nil))))
      (pss_cons (ps_set (i := 3) sc__law_world.nd rfl (.inl rfl) (pe_d DM (hr.mono (by decide)) (by rfl) pass0 (pa_cons (pv 0) (pa_cons (pe_op op_mul (pe_ix ix_list (pv 1) pe_int (fun _ _ => rfl)) (pe_callTy call_int1 (by rfl) B.int (by decide +kernel) (pa_cons (pe_cmpR op_gt (pe_ix ix_list (pv 1) pe_int (fun _ _ => rfl)) pe_int (nomark _)) pa_nil))) pa_nil))))
      (pss_cons (ps_set (i := 4) sc__law_world.nd rfl (.inl rfl) (pe_d DM (hr.mono (by decide)) (by rfl) pass0 (pa_cons (pv 0) (pa_cons (pe_op op_add (pe_ix ix_list (pv 1) pe_int (fun _ _ => rfl)) (pe_ix ix_list (pv 1) pe_int (fun _ _ => rfl))) pa_nil))))
      (pss_cons (ps_set (i := 5) sc__law_world.nd rfl (.inl rfl) (pe_callTy call_tuple_of (by rfl) B.tuple (by decide +kernel) (pa_cons (pe_lc (own := [("_law_name", 8)]) (g := gName 8) (tt := tYes) rfl sc__law_world.nd (pi_list (pv 3)) (blkOk_by (N := ["_law_box_here", "_law_sizes", "_law_ports", "_law_channels", "_law_vessels", "_law_rows", "_law_breakers", "_law_ships", "_law_name"]) (sc := defScope s__law_world) (by decide +kernel)) (fun _ _ _ _ _ => pg_name (i := 8) sc__law_world.nd rfl (Or.inl rfl)) (fun _ _ _ _ _ => pts_nil) (fun _ _ _ _ _ => (pe_d DC (hr.mono (by decide)) (by rfl) pass0 (pa_cons (pv 0) (pa_cons (pv 8) (pa_cons (pv 2) pa_nil)))))) pa_nil)))
      (pss_cons (ps_set (i := 6) sc__law_world.nd rfl (.inl rfl) (pe_callTy call_tuple_of (by rfl) B.tuple (by decide +kernel) (pa_cons (pe_lc (own := [("_law_name", 8)]) (g := gName 8) (tt := tYes) rfl sc__law_world.nd (pi_list (pe_slice sl_list (pv 4) po_none (po_some (pe_ix ix_list (pv 1) pe_int (fun _ _ => rfl))))) (blkOk_by (N := ["_law_box_here", "_law_sizes", "_law_ports", "_law_channels", "_law_vessels", "_law_rows", "_law_breakers", "_law_ships", "_law_name"]) (sc := defScope s__law_world) (by decide +kernel)) (fun _ _ _ _ _ => pg_name (i := 8) sc__law_world.nd rfl (Or.inl rfl)) (fun _ _ _ _ _ => pts_nil) (fun _ _ _ _ _ => (pe_d DB (hr.mono (by decide)) (by rfl) pass0 (pa_cons (pv 0) (pa_cons (pv 8) (pa_cons (pv 2) pa_nil)))))) pa_nil)))
      (pss_cons (ps_set (i := 7) sc__law_world.nd rfl (.inl rfl) (pe_callTy call_tuple_of (by rfl) B.tuple (by decide +kernel) (pa_cons (pe_lc (own := [("_law_name", 8)]) (g := gName 8) (tt := tYes) rfl sc__law_world.nd (pi_list (pe_slice sl_list (pv 4) (po_some (pe_ix ix_list (pv 1) pe_int (fun _ _ => rfl))) po_none)) (blkOk_by (N := ["_law_box_here", "_law_sizes", "_law_ports", "_law_channels", "_law_vessels", "_law_rows", "_law_breakers", "_law_ships", "_law_name"]) (sc := defScope s__law_world) (by decide +kernel)) (fun _ _ _ _ _ => pg_name (i := 8) sc__law_world.nd rfl (Or.inl rfl)) (fun _ _ _ _ _ => pts_nil) (fun _ _ _ _ _ => (pe_d DS (hr.mono (by decide)) (by rfl) pass0 (pa_cons (pv 0) (pa_cons (pv 8) (pa_cons (pv 2) pa_nil)))))) pa_nil)))
      (pss_one (ps_ret (pe_tup (pa_cons (pe_d DN (hr.mono (by decide)) (by rfl) pass0 (pa_cons (pv 0) (pa_cons pe_int (pa_cons (pe_op op_pow pe_int pe_int) pa_nil)))) (pa_cons (pe_callTy call_tuple_of (by rfl) B.tuple (by decide +kernel) (pa_cons (pv 2) pa_nil)) (pa_cons (pv 5) (pa_cons (pv 6) (pa_cons (pv 7) pa_nil)))))))))))))), ?_⟩
    have nbz : nb (.lst [V.int (z1 : Int), V.int (z2 : Int), V.int (z3 : Int), V.int (z4 : Int)]) = true := rfl
    refine ⟨_, rfl, _, rfl, z, _, 0, _, rfl, rfl, SqL.of hz, rfl, p, z1, c, rfl, hp, by omega, by omega, fun d1 ws1 H1 hd1 e1 n1 nd1 nm1 hp1 b1 => ?_⟩
    have hz1 := hp.nb b1 _ _ nbz hz
    have hm2 : ∃ m2 : Nat, ((z2 : Int) * (if decide ((1 : Int) < (z1 : Int)) = true then (1 : Int) else 0) = (m2 : Int)) ∧ m2 ≤ 12 ∧ (0 < m2 → 2 ≤ z1) := by
      by_cases y : (1 : Int) < (z1 : Int)
      · rw [decide_eq_true y, if_pos rfl]
        exact ⟨z2, by omega, k2, by omega⟩
      · rw [decide_eq_false y]
        exact ⟨0, by simp, by omega, by omega⟩
    obtain ⟨m2, em2, m21, m22⟩ := hm2
    refine ⟨_, rfl, _, rfl, z, _, 1, _, rfl, rfl, SqL.of hz1, rfl, _, rfl, z, _, 0, _, rfl, rfl, SqL.of hz1, rfl, _, _, rfl, rfl, .inr ⟨_, rfl, _, _, rfl, rfl, .inr (by split <;> decide), ?_⟩⟩
    refine ⟨p, m2, _, congrArg (fun i : Int => [V.ref p, V.int i]) em2, hp1, by omega, m21, fun d2 ws2 H2 hd2 e2 n2 nd2 nm2 hp2 b2 => ?_⟩
    have hz2 := hp1.nb b2 _ _ nbz hz1
    have e1 := hp1.nb b2 _ _ nb_txts e1
    have ez : (z3 : Int) + (z4 : Int) = ((z3 + z4 : Nat) : Int) := by norm_cast
    refine ⟨_, rfl, _, rfl, z, _, 2, _, rfl, rfl, SqL.of hz2, rfl, _, rfl, z, _, 3, _, rfl, rfl, SqL.of hz2, rfl, _, _, rfl, rfl, ?_⟩
    refine ⟨p, z3 + z4, _, congrArg (fun i : Int => [V.ref p, V.int i]) ez, hp2, by omega, by omega, fun d3 ws3 H3 hd3 e3 n3 nd3 nm3 hp3 b3 => ?_⟩
    have hz3 := hp2.nb b3 _ _ nbz hz2
    have e1 := hp2.nb b3 _ _ nb_txts e1
    have e2 := hp2.nb b3 _ _ nb_txts e2
    have bb := b1.trans (b2.trans b3)
    have hp3 : BoxAt H3 p (c + 36) := hp3.mono (by omega)
    refine ⟨_, rfl, d2, rfl, ⟨_, SqL.of e2⟩, lc_walkB walk_lst 12 (fun i y H => ∃ x : Chan, (ws2[i]? = some x.name ∧ x.Good ∧ x.one ∈ ws1 ∧ x.other ∈ ws1) ∧ ∃ t, y = .ref t ∧ H t = some (.tup x.vals)) hp3 (by rw [List.length_map]; exact Nat.lt_of_le_of_lt (show ws2.length ≤ 12 by omega) (by decide)) (fun H' s' => SqL.of (s' _ _ nb_txts e2))
      (fun i y H H' s' ⟨x, h1, t, h2, h3⟩ => ⟨x, h1, t, h2, s' _ _ rfl h3⟩) (fun i y H D l hD ⟨x, h1, t, h2, h3⟩ => ⟨x, h1, t, h2, hide_of hD (fun _ z => by cases z) h3⟩) ?_ ?_⟩
    · rintro i y H' kk hi hy b' hb' kq
      rw [List.length_map] at hi
      rw [List.getElem?_map, List.getElem?_eq_getElem hi] at hy
      obtain rfl := (Option.some.inj hy).symm
      refine ⟨rfl, _, rfl, _, rfl, _, rfl, p, d1, ws2[i], ws1, _, rfl, hb', by omega, hp3.nb b' _ _ nb_txts e1, by omega, by omega, nd1, nm1, nm2 _ (List.getElem_mem _), fun t x H4 ht h1 h2 h3 h4 h5 h6 h7 => ?_⟩
      exact kq _ _ h7 h6 ⟨x, ⟨by rw [List.getElem?_eq_getElem hi, h1], h2, h3, h4⟩, t, rfl, h5⟩
    intro D4 ys4 H4 hD4 b4 hp4 hy4 l4 f4
    obtain ⟨cs, rc, fc, lc⟩ := collect f4
    rw [List.length_map] at hp4 l4
    have hc2 : cs.map Chan.name = ws2 := map_of (by omega) fun i x h => (fc i x h).1
    have hp4 : BoxAt H4 p (c + 180) := hp4.mono (by omega)
    refine ⟨D4, _, rfl, .inl ⟨.inl (.inl hy4), fun t4 ht4 => ?_⟩⟩
    generalize hXq : upd _ t4 _ = K4
    have s4 := laid_same hXq ht4
    have e4 := laid_at hXq
    clear hXq
    have hpK := hp4.same s4
    have rc := rc.same s4
    have N4 := (hp3.nb b4).trans (Nb.same s4)
    have e1 := N4 _ _ nb_txts e1
    have e3 := N4 _ _ nb_txts e3
    have hz4 := N4 _ _ nbz hz3
    have bb := bb.trans (b4.trans (Bar.same s4))
    have cut3 : cutV (txts ws3) none (some (z3 : Int)) = txts (ws3.take z3) := by
      rw [cutV_to (by rw [List.length_map]; omega)]
      simp only [txts, List.map_take]
    have cut4 : cutV (txts ws3) (some (z3 : Int)) none = txts (ws3.drop z3) := by
      rw [cutV_from (by rw [List.length_map]; omega)]
      simp only [txts, List.map_drop]
    refine ⟨_, rfl, _, rfl, z, _, 2, _, rfl, rfl, SqL.of hz4, rfl, _, rfl, d3, _, rfl, SqL.of e3, fun l5 hl5 => ?_⟩
    rw [cut3]
    generalize hXq : upd _ l5 _ = K5
    have s5 := laid_same hXq hl5
    have e5 := laid_at hXq
    clear hXq
    have hp5 := hpK.same s5
    have e1 := s5 _ _ e1
    have e3 := s5 _ _ e3
    have hz5 := s5 _ _ hz4
    have rc := rc.same s5
    have e4 := s5 _ _ e4
    have bb := bb.trans (Bar.same s5)
    have lt3 : (ws3.take z3).length = z3 := by rw [List.length_take]; omega
    have lt4 : (ws3.drop z3).length = z4 := by rw [List.length_drop]; omega
    refine ⟨l5, rfl, ⟨_, SqL.of e5⟩, lc_walkB walk_lst 12 (fun i y H => ∃ x : Brk, ((ws3.take z3)[i]? = some x.name ∧ x.Good ∧ x.port ∈ ws1) ∧ ∃ t, y = .ref t ∧ H t = some (.tup x.vals)) hp5 (by rw [List.length_map, lt3]; exact Nat.lt_of_le_of_lt k3 (by decide)) (fun H' s' => SqL.of (s' _ _ nb_txts e5))
      (fun i y H H' s' ⟨x, h1, t, h2, h3⟩ => ⟨x, h1, t, h2, s' _ _ rfl h3⟩) (fun i y H D l hD ⟨x, h1, t, h2, h3⟩ => ⟨x, h1, t, h2, hide_of hD (fun _ z => by cases z) h3⟩) ?_ ?_⟩
    · rintro i y H' kk hi hy b' hb' kq
      rw [List.length_map] at hi
      rw [List.getElem?_map, List.getElem?_eq_getElem hi] at hy
      obtain rfl := (Option.some.inj hy).symm
      refine ⟨rfl, _, rfl, _, rfl, _, rfl, p, d1, (ws3.take z3)[i], ws1, _, rfl, hb', by omega, hp5.nb b' _ _ nb_txts e1, by omega, by omega, nm1, nm3 _ (List.mem_of_mem_take (List.getElem_mem _)), fun t x H4 ht h1 h2 h3 h5 h6 h7 => ?_⟩
      exact kq _ _ h7 h6 ⟨x, ⟨by rw [List.getElem?_eq_getElem hi, h1], h2, h3⟩, t, rfl, h5⟩
    intro D6 ys6 H6 hD6 b6 hp6 hy6 l6 f6
    obtain ⟨bs, rb, fb, lb⟩ := collect f6
    rw [List.length_map, lt3] at hp6 l6
    have hb2 : bs.map (fun b => b.name) = ws3.take z3 := map_of (by omega) fun i x h => (fb i x h).1
    have hp6 : BoxAt H6 p (c + 230) := hp6.mono (by omega)
    refine ⟨D6, _, rfl, .inl ⟨.inl (.inl hy6), fun t6 ht6 => ?_⟩⟩
    generalize hXq : upd _ t6 _ = K6
    have s6 := laid_same hXq ht6
    have e6 := laid_at hXq
    clear hXq
    have hpK6 := hp6.same s6
    have rb := rb.same s6
    have N6 := (hp5.nb b6).trans (Nb.same s6)
    have e1 := N6 _ _ nb_txts e1
    have e3 := N6 _ _ nb_txts e3
    have hz6 := N6 _ _ nbz hz5
    have rc := rc.nb N6
    have e4 := N6 _ _ rfl e4
    have bb := bb.trans (b6.trans (Bar.same s6))
    refine ⟨_, rfl, _, rfl, z, _, 2, _, rfl, rfl, SqL.of hz6, rfl, _, rfl, d3, _, rfl, SqL.of e3, fun l7 hl7 => ?_⟩
    rw [cut4]
    generalize hXq : upd _ l7 _ = K7
    have s7 := laid_same hXq hl7
    have e7 := laid_at hXq
    clear hXq
    have hp7 := hpK6.same s7
    have e1 := s7 _ _ e1
    have rc := rc.same s7
    have rb := rb.same s7
    have e4 := s7 _ _ e4
    have e6 := s7 _ _ e6
    have bb := bb.trans (Bar.same s7)
    refine ⟨l7, rfl, ⟨_, SqL.of e7⟩, lc_walkB walk_lst 12 (fun i y H => ∃ x : Shp, ((ws3.drop z3)[i]? = some x.name ∧ x.Good ∧ x.port ∈ ws1 ∧ x.goal ∈ ws1) ∧ ∃ t, y = .ref t ∧ H t = some (.tup x.row)) hp7 (by rw [List.length_map, lt4]; exact Nat.lt_of_le_of_lt k4 (by decide)) (fun H' s' => SqL.of (s' _ _ nb_txts e7))
      (fun i y H H' s' ⟨x, h1, t, h2, h3⟩ => ⟨x, h1, t, h2, s' _ _ rfl h3⟩) (fun i y H D l hD ⟨x, h1, t, h2, h3⟩ => ⟨x, h1, t, h2, hide_of hD (fun _ z => by cases z) h3⟩) ?_ ?_⟩
    · rintro i y H' kk hi hy b' hb' kq
      rw [List.length_map] at hi
      rw [List.getElem?_map, List.getElem?_eq_getElem hi] at hy
      obtain rfl := (Option.some.inj hy).symm
      refine ⟨rfl, _, rfl, _, rfl, _, rfl, p, d1, (ws3.drop z3)[i], ws1, _, rfl, hb', by omega, hp7.nb b' _ _ nb_txts e1, by omega, by omega, nm1, nm3 _ (List.mem_of_mem_drop (List.getElem_mem _)), fun t x H4 ht h1 h2 h3 h4 h5 h6 h7 => ?_⟩
      exact kq _ _ h7 h6 ⟨x, ⟨by rw [List.getElem?_eq_getElem hi, h1], h2, h3, h4⟩, t, rfl, h5⟩
    intro D8 ys8 H8 hD8 b8 hp8 hy8 l8 f8
    obtain ⟨ss, rs, fs, ls⟩ := collect f8
    rw [List.length_map, lt4] at hp8 l8
    have hs2 : ss.map (fun b => b.name) = ws3.drop z3 := map_of (by omega) fun i x h => (fs i x h).1
    have hp8 : BoxAt H8 p (c + 305) := hp8.mono (by omega)
    refine ⟨D8, _, rfl, .inl ⟨.inl (.inl hy8), fun t8 ht8 => ?_⟩⟩
    generalize hXq : upd _ t8 _ = K8
    have s8 := laid_same hXq ht8
    have e8 := laid_at hXq
    clear hXq
    have hpK8 := hp8.same s8
    have rs := rs.same s8
    have N8 := (hp7.nb b8).trans (Nb.same s8)
    have e1 := N8 _ _ nb_txts e1
    have rc := rc.nb N8
    have rb := rb.nb N8
    have e4 := N8 _ _ rfl e4
    have e6 := N8 _ _ rfl e6
    have bb := bb.trans (b8.trans (Bar.same s8))
    refine ⟨_, rfl, _, _, rfl, rfl, ⟨by decide, by decide, by decide⟩, p, 0, 1000000, _, rfl, hpK8, by omega, by decide, by decide, fun bg H9 g0 g1 hp9 b9 => ?_⟩
    have N9 := hpK8.nb b9
    refine ⟨_, rfl, d1, _, rfl, .inl ⟨.inl (.inl (N9 _ _ nb_txts e1)), fun t9 ht9 => ?_⟩⟩
    generalize hXq : upd _ t9 _ = K9
    have s9 := laid_same hXq ht9
    have e9 := laid_at hXq
    clear hXq
    refine ⟨_, rfl, _, rfl, _, rfl, ?_⟩
    refine ⟨Nat.le_of_ble_eq_true rfl, fun t10 ht10 => ?_⟩
    generalize hXq : upd _ t10 _ = K10
    have s10 := laid_same hXq ht10
    have e10 := laid_at hXq
    clear hXq
    have Nz := N9.trans (Nb.same (s9.trans s10))
    have g : Wld.Good ⟨bg, ws1, cs, bs, ss⟩ := by
      have mc : ∀ x ∈ cs, x.Good ∧ x.one ∈ ws1 ∧ x.other ∈ ws1 := fun x hx => by
        obtain ⟨i, hi⟩ := List.getElem?_of_mem hx
        exact (fc i x hi).2
      have mb : ∀ x ∈ bs, x.Good ∧ x.port ∈ ws1 := fun x hx => by
        obtain ⟨i, hi⟩ := List.getElem?_of_mem hx
        exact (fb i x hi).2
      have ms : ∀ x ∈ ss, x.Good ∧ x.port ∈ ws1 ∧ x.goal ∈ ws1 := fun x hx => by
        obtain ⟨i, hi⟩ := List.getElem?_of_mem hx
        exact (fs i x hi).2
      refine ⟨⟨g0, g1⟩, ⟨by show 1 ≤ ws1.length; omega, by show ws1.length ≤ 8; omega⟩, nm1, nd1, ?_, fun x hx => (mc x hx).1, by rw [hc2]; exact nd2, fun x hx => (mc x hx).2, ?_, fun x hx => (mb x hx).1, fun x hx => (mb x hx).2, ?_, fun x hx => (ms x hx).1, fun x hx => (ms x hx).2, ?_⟩
      · show cs.length ≤ 12
        omega
      · show bs.length ≤ 4
        omega
      · show ss.length ≤ 6
        omega
      · show (bs.map (fun b => b.name) ++ ss.map (fun b => b.name)).Nodup
        rw [hb2, hs2, List.take_append_drop]
        exact nd3
    refine q t10 ⟨bg, ws1, cs, bs, ss⟩ K10 g ⟨t9, t4, t6, t8, ys4, ys6, ys8, e10, s10 _ _ e9, Nz _ _ rfl e4, rc.nb Nz, Nz _ _ rfl e6, rb.nb Nz, Nz _ _ rfl e8, rs.nb Nz⟩ ((hp9.same (s9.trans s10)).mono (by omega)) (bb.trans (b9.trans (Bar.same (s9.trans s10))))
end
end Law
end
section
set_option Elab.async false
set_option linter.all false
set_option maxRecDepth 100000
set_option maxHeartbeats 4000000
namespace Law
open PySem PySem.Spec PyProof.Rows L2 IK SX
/-! ### the tables that are drawn -/
theorem catA_use {K : PySem.W.Frag} {H : Hp} {a b : Addr} {xs ys : List V} {Q : VK} (ha : H a = some (.tup xs)) (hb : H b = some (.tup ys)) (hl : xs.length + ys.length ≤ 100) (q : ∀ r H', Same H H' → H' r = some (.tup (xs ++ ys)) → Q (.ref r) H') : rCatA K (.ref a) (.ref b) H Q := by
  refine ⟨a, b, xs, ys, rfl, rfl, .inl (.inl ha), .inl (.inl hb), Nat.le_trans hl (by decide), fun z => ?_, fun _ z => ?_, fun _ _ p hp => ?_⟩
  · subst z
    exact q b H (Same.refl H) hb
  · subst z
    exact q a H (Same.refl H) (by rw [List.append_nil]; exact ha)
  · exact q p _ (same_new hp) upd_same
theorem row_at {H : Hp} {yb ys : List V} {W : Wld} (rb : RowsIs H yb (W.brks.map Brk.vals)) (rs : RowsIs H ys (W.shps.map Shp.row)) {i : Nat} {x : V} (hx : (yb ++ ys)[i]? = some x) : ∃ n t r, W.vnames[i]? = some n ∧ x = .ref t ∧ H t = some (.tup (.str (S n) :: r)) := by
  have l1 : yb.length = W.brks.length := by rw [rb.1, List.length_map]
  have l2 : ys.length = W.shps.length := by rw [rs.1, List.length_map]
  by_cases hi : i < W.brks.length
  · rw [List.getElem?_append_left (by omega)] at hx
    obtain ⟨o, e, h⟩ := rb.2 i x (W.brks[i]).vals hx (by rw [List.getElem?_map, List.getElem?_eq_getElem hi]; rfl)
    refine ⟨(W.brks[i]).name, o, _, ?_, e, h⟩
    unfold Wld.vnames
    rw [List.getElem?_append_left (by rw [List.length_map]; exact hi), List.getElem?_map, List.getElem?_eq_getElem hi]
    rfl
  · rw [List.getElem?_append_right (by omega)] at hx
    have hj : i - yb.length < W.shps.length := by
      have := (List.getElem?_eq_some_iff.mp hx).1
      omega
    obtain ⟨o, e, h⟩ := rs.2 _ x (W.shps[i - yb.length]).row hx (by rw [List.getElem?_map, List.getElem?_eq_getElem hj]; rfl)
    refine ⟨(W.shps[i - yb.length]).name, o, _, ?_, e, h⟩
    unfold Wld.vnames
    rw [List.getElem?_append_right (by rw [List.length_map]; omega), List.length_map, List.getElem?_map, ← l1, List.getElem?_eq_getElem hj]
    rfl
theorem vnames_len {W : Wld} (g : W.Good) : W.vnames.length ≤ 10 := by
  unfold Wld.vnames
  rw [List.length_append, List.length_map, List.length_map]
  have := g.brks
  have := g.shps
  omega
theorem Rise.snoc {chs : List (List Nat)} : ∀ {es : List Ent} {lo h : Int} {c : List Nat}, Rise chs lo es → (∀ e ∈ es, e.1 < h) → lo ≤ h → h ≤ 100000000 → c ∈ chs → Rise chs lo (es ++ [(h, c)])
  | [], _, _, _, _, _, h1, h2, h3 => ⟨h1, h2, h3, trivial⟩
  | e :: es, _, _, _, ⟨k1, k2, k3, k4⟩, hlt, _, h2, h3 => ⟨k1, k2, k3, k4.snoc (fun x hx => hlt x (List.mem_cons_of_mem _ hx)) (by have := hlt e List.mem_cons_self; omega) h2 h3⟩
theorem RowsIs.snoc {H : Hp} {ys : List V} {rows : List (List V)} {t : Addr} {r : List V} (h : RowsIs H ys rows) (ht : H t = some (.tup r)) : RowsIs H (ys ++ [.ref t]) (rows ++ [r]) := by
  refine ⟨by simp [h.1], fun i y z e1 e2 => ?_⟩
  by_cases hi : i < rows.length
  · rw [List.getElem?_append_left (by rw [h.1]; exact hi)] at e1
    rw [List.getElem?_append_left hi] at e2
    exact h.2 i y z e1 e2
  · rw [List.getElem?_append_right (by rw [h.1]; omega), h.1] at e1
    rw [List.getElem?_append_right (by omega)] at e2
    have e0 : i - rows.length = 0 := by
      have := (List.getElem?_eq_some_iff.mp e2).1
      simp at this
      omega
    rw [e0] at e1 e2
    obtain rfl : V.ref t = y := by simpa using e1
    obtain rfl : r = z := by simpa using e2
    exact ⟨t, rfl, ht⟩
/-- rows at list l may change, no tuple does -/
theorem RowsIs.barL {d : Addr} {l : List V} {H H' : Hp} {ys : List V} {rows : List (List V)} (h : RowsIs H ys rows) (b : Bar d H H') (hd : H d = some (.lst l)) : RowsIs H' ys rows := ⟨h.1, fun j y r h3 h4 => by
  obtain ⟨q, e4, e5⟩ := h.2 j y r h3 h4
  exact ⟨q, e4, b _ _ (fun z => by rw [z, hd] at e5; cases e5) e5⟩⟩
theorem EntsAt.snoc {K : PySem.W.Frag} {H : Hp} {vs : List V} {T : Tab} {l : Addr} {ys : List V} {n : List Nat} {es : List Ent} (h : EntsAt K H vs T) (hl : SqA K H l ys) (hr : RowsIs H ys (es.map entV)) : EntsAt K H (vs ++ [.ref l]) (T ++ [(n, es)]) := by
  refine ⟨by rw [List.length_append, List.length_append, h.1]; rfl, fun i v e e1 e2 => ?_⟩
  by_cases hi : i < T.length
  · rw [List.getElem?_append_left (by rw [h.1]; exact hi)] at e1
    rw [List.getElem?_append_left hi] at e2
    exact h.2 i v e e1 e2
  · rw [List.getElem?_append_right (by rw [h.1]; omega), h.1] at e1
    rw [List.getElem?_append_right (by omega)] at e2
    have e0 : i - T.length = 0 := by
      have := (List.getElem?_eq_some_iff.mp e2).1
      simp at this
      omega
    rw [e0] at e1 e2
    obtain rfl : V.ref l = v := by simpa using e1
    obtain rfl : (n, es) = e := by simpa using e2
    exact ⟨l, ys, rfl, hl, hr⟩
/-- entries of a written table -/
structure TFew (T : Tab) : Prop where
  len : T.length ≤ 10
  few : ∀ e ∈ T, e.2.length ≤ 12
  hrs : ∀ e ∈ T, ∀ x ∈ e.2, x.1 ≤ 1002000
/-- pairs of a dict taken in another order -/
theorem mergeK_new : ∀ (more kvs : List (Key × V)), ((kvs ++ more).map (·.1)).Nodup → mergeK kvs more = kvs ++ more
  | [], kvs, _ => by simp [mergeK]
  | p :: r, kvs, h => by
    have h1 : valV kvs p.1 = none := by
      unfold valV
      rw [List.find?_eq_none.mpr]
      · rfl
      · intro q hq
        simp only [decide_eq_true_eq]
        intro z
        rw [List.map_append, List.nodup_append] at h
        exact h.2.2 q.1 (List.mem_map_of_mem hq) p.1 (by simp) z
    show mergeK (putK kvs p.1 p.2) r = _
    rw [putK_new _ h1]
    rw [mergeK_new r (kvs ++ [(p.1, p.2)]) (by rw [List.append_assoc]; exact h), List.append_assoc]
    rfl
theorem zip_drop' {α β : Type} : ∀ (a : List α) (b : List β) (n : Nat), (a.zip b).drop n = (a.drop n).zip (b.drop n)
  | a, b, 0 => rfl
  | [], b, n + 1 => by simp
  | x :: a, [], n + 1 => by simp
  | x :: a, y :: b, n + 1 => by simpa using zip_drop' a b n
theorem zip_take' {α β : Type} : ∀ (a : List α) (b : List β) (n : Nat), (a.zip b).take n = (a.take n).zip (b.take n)
  | a, b, 0 => by simp
  | [], b, n + 1 => by simp
  | x :: a, [], n + 1 => by simp
  | x :: a, y :: b, n + 1 => by simpa using zip_take' a b n
theorem zip_rev' {α β : Type} : ∀ (a : List α) (b : List β), a.length = b.length → (a.zip b).reverse = a.reverse.zip b.reverse
  | [], [], _ => rfl
  | [], y :: b, h => by simp at h
  | x :: a, [], h => by simp at h
  | x :: a, y :: b, h => by
    have h' : a.length = b.length := by simpa using h
    rw [List.zip_cons_cons, List.reverse_cons, List.reverse_cons, List.reverse_cons, List.zip_append (by simp [h']), zip_rev' a b h']
    rfl
theorem kvs_turn {T : Tab} {vs : List V} (a : Nat) (hl : vs.length = T.length) : (kvsOf T vs).drop a ++ ((kvsOf T vs).take a).reverse = kvsOf (T.drop a ++ (T.take a).reverse) (vs.drop a ++ (vs.take a).reverse) := by
  unfold kvsOf
  rw [List.map_append, List.zip_append (by simp [hl]), List.map_drop, List.map_reverse, List.map_take, ← zip_drop', ← zip_rev' _ _ (by simp [hl]), ← zip_take']
theorem EntsAt.turn {K : PySem.W.Frag} {H : Hp} {vs : List V} {T : Tab} (h : EntsAt K H vs T) (a : Nat) : EntsAt K H (vs.drop a ++ (vs.take a).reverse) (T.drop a ++ (T.take a).reverse) := by
  have key : ∀ (i : Nat) (v : V) (e : List Nat × List Ent), (vs.drop a ++ (vs.take a).reverse)[i]? = some v → (T.drop a ++ (T.take a).reverse)[i]? = some e → ∃ j : Nat, vs[j]? = some v ∧ T[j]? = some e := by
    intro i v e h1 h2
    have hl := h.1
    by_cases hi : i < (T.drop a).length
    · rw [List.getElem?_append_left (by rw [List.length_drop, hl, ← List.length_drop]; exact hi), List.getElem?_drop] at h1
      rw [List.getElem?_append_left hi, List.getElem?_drop] at h2
      exact ⟨_, h1, h2⟩
    · have e1 : (vs.drop a).length = (T.drop a).length := by rw [List.length_drop, List.length_drop, hl]
      rw [List.getElem?_append_right (by omega), e1] at h1
      rw [List.getElem?_append_right (by omega)] at h2
      have hj := (List.getElem?_eq_some_iff.mp h2).1
      rw [List.length_reverse] at hj
      have e2 : (vs.take a).length = (T.take a).length := by rw [List.length_take, List.length_take, hl]
      rw [List.getElem?_reverse (by omega), e2] at h1
      rw [List.getElem?_reverse hj] at h2
      rw [List.getElem?_take] at h1 h2
      split at h1
      · rename_i hh
        rw [if_pos hh] at h2
        exact ⟨_, h1, h2⟩
      · cases h1
  refine ⟨by rw [turn_len, turn_len, h.1], fun i v e h1 h2 => ?_⟩
  obtain ⟨j, k1, k2⟩ := key i v e h1 h2
  exact h.2 j v e k1 k2
theorem seq_hide {K : PySem.W.Frag} {H : Hp} {a d : Addr} {xs : List V} (n : a ≠ d) (h : SqA K H a xs) : SqA K (hide d H) a xs := by
  have z : ∀ {u : HO}, Rd H a u → Rd (hide d H) a u := fun h => by
    rcases h with h | ⟨o, h⟩
    · exact .inl (by rw [hide_ne n]; exact h)
    · exact .inr ⟨o, by rw [hide_ne n]; exact h⟩
  rcases h with (h | h) | (h | h)
  · exact .inl (.inl (z h))
  · exact .inl (.inr h)
  · exact .inr (.inl (z h))
  · exact .inr (.inr h)
theorem rows_hide {H : Hp} {d : Addr} {l : List V} {ys : List V} {rows : List (List V)} (hd : H d = some (.lst l)) (h : RowsIs H ys rows) : RowsIs (hide d H) ys rows := ⟨h.1, fun i y r h1 h2 => by
  obtain ⟨a, e, h⟩ := h.2 i y r h1 h2
  exact ⟨a, e, hide_of hd (fun _ z => by cases z) h⟩⟩
theorem ents_hide {K : PySem.W.Frag} {H0 H : Hp} {vs : List V} {T : Tab} {d : Addr} {l l' : List V} (h : EntsAt K H vs T) (f : ∀ v ∈ vs, ∃ b, v = .ref b ∧ H0 b = none) (h0 : H0 d = some (.lst l)) (hd : H d = some (.lst l')) : EntsAt K (hide d H) vs T := ⟨h.1, fun i v e h1 h2 => by
  obtain ⟨b, ys, e1, e2, e3⟩ := h.2 i v e h1 h2
  obtain ⟨b', e1', hb⟩ := f v (List.mem_of_getElem? h1)
  rw [e1] at e1'
  injection e1' with e1'
  subst e1'
  exact ⟨b, ys, e1, seq_hide (fun z => by rw [z, h0] at hb; cases hb) e2, rows_hide hd e3⟩⟩
theorem ToldAt.hide {H : Hp} {a d : Addr} {l : List V} {W : Wld} (h : ToldAt H a W) (hd : H d = some (.lst l)) : ToldAt (hide d H) a W := by
  obtain ⟨ap, ac, ab, as, yc, yb, ys, h1, h2, h3, h4, h5, h6, h7, h8⟩ := h
  have z : ∀ {b : Addr} {xs : List V}, H b = some (.tup xs) → Law.hide d H b = some (.tup xs) := fun e => hide_of hd (fun _ z => by cases z) e
  exact ⟨ap, ac, ab, as, yc, yb, ys, z h1, z h2, z h3, rows_hide hd h4, z h5, rows_hide hd h6, z h7, rows_hide hd h8⟩
def spLTable (K : PySem.W.Frag) : Sp := fun vs H Q _ => ∃ (p a : Addr) (W : Wld) (c : Nat), vs = [.ref p, .ref a] ∧ BoxAt H p c ∧ c < 60000 ∧ ToldAt H a W ∧ W.Good ∧ ∀ b (T : Tab) H', H b = none → TabAt K H' b T → TGood W T → TFew T → BoxAt H' p (c + 500) → Bar p H H' → (∀ d l, H d = some (.lst l) → d ≠ p → TabAt K (hide d H') b T) → Q (.ref b) H'
end Law
end
section
set_option Elab.async false
set_option linter.all false
set_option maxRecDepth 100000
set_option maxHeartbeats 4000000
namespace Law
open PySem PySem.Spec PyProof.Rows L2 IK SX
theorem paired_app {α β : Type} {F : α → β → Prop} : ∀ {a c : List α} {b d : List β}, Paired F a b → Paired F c d → Paired F (a ++ c) (b ++ d)
  | _, _, _, _, .nil, h => h
  | _, _, _, _, .cons x y, h => .cons x (paired_app y h)
theorem paired_rev {α β : Type} {F : α → β → Prop} : ∀ {a : List α} {b : List β}, Paired F a b → Paired F a.reverse b.reverse
  | _, _, .nil => .nil
  | _, _, .cons x y => by
    rw [List.reverse_cons, List.reverse_cons]
    exact paired_app (paired_rev y) (.cons x .nil)
theorem paired_drop {α β : Type} {F : α → β → Prop} : ∀ {a : List α} {b : List β}, Paired F a b → ∀ n, Paired F (a.drop n) (b.drop n)
  | _, _, h, 0 => h
  | _, _, .nil, n + 1 => .nil
  | _, _, .cons x y, n + 1 => paired_drop y n
theorem paired_take {α β : Type} {F : α → β → Prop} : ∀ {a : List α} {b : List β}, Paired F a b → ∀ n, Paired F (a.take n) (b.take n)
  | _, _, _, 0 => by simpa using Paired.nil
  | _, _, .nil, n + 1 => .nil
  | _, _, .cons x y, n + 1 => .cons x (paired_take y n)
theorem paired_turn {α β : Type} {F : α → β → Prop} {a : List α} {b : List β} (h : Paired F a b) (n : Nat) : Paired F (a.drop n ++ (a.take n).reverse) (b.drop n ++ (b.take n).reverse) := paired_app (paired_drop h n) (paired_rev (paired_take h n))
theorem inr_nd {l : List (List Nat)} (h : l.Nodup) : (l.map fun n => (Sum.inr (S n) : Key)).Nodup := by
  unfold List.Nodup at h ⊢
  rw [List.pairwise_map]
  exact h.imp fun hab z => hab (S_inj (by injection z))
theorem strs_shaped {ws : List (List Nat)} (h : ∀ w ∈ ws, PyData.strOk (S w) = true) : SeqAt.shaped (.list (ws.map fun w => PyData.str (S w))) = true := by
  have h1 : PyData.canLayAll0 (ws.map fun w => PyData.str (S w)) = true ∧ PyData.depthAll (ws.map fun w => PyData.str (S w)) ≤ 1 := by
    induction ws with
    | nil => exact ⟨rfl, by decide⟩
    | cons w ws ih =>
      obtain ⟨i1, i2⟩ := ih fun x hx => h x (List.mem_cons_of_mem _ hx)
      constructor
      · simp [PyData.canLayAll0, PyData.canLay0, h w List.mem_cons_self, i1]
      · simp only [List.map_cons, PyData.depthAll, PyData.depth]
        omega
  obtain ⟨h1, h2⟩ := h1
  have h3 : (PyData.list (ws.map fun w => PyData.str (S w))).depth ≤ 64 := by
    rw [PyData.depth]
    omega
  unfold SeqAt.shaped
  rw [PyData.canLay0, h1, Bool.true_and]
  exact decide_eq_true h3
theorem dp_strs {K : PySem.W.Frag} {H : Hp} : ∀ ws : List (List Nat), DpAll K H (txts ws) (ws.map fun w => PyData.str (S w))
  | [] => .nil
  | w :: ws => .cons (.str _) (dp_strs ws)
theorem strs_eqv (ws : List (List Nat)) : PyData.eqv (.list (ws.map fun w => PyData.str (S w))) (.list []) = ws.isEmpty := by
  cases ws with
  | nil => rfl
  | cons e es => rfl
section
variable {P : Program} {w : World} {K : PySem.W.Frag} {mg : Str → Option Value} {base : Heap}
theorem ok_ltable {f : Addr} {fd : FuncData} (F : Fun K "_law_table" "_law_table" s__law_table f fd) (B : Blt mg) (DT : Dn P w K mg base CX0 1 "_law_take" ["_law_box_here", "_law_many"] spTake) (DN : Dn P w K mg base CX0 2 "_law_number" ["_law_box_here", "_law_low", "_law_high"] spNumber) :
    FnOk P w K mg base CX0 3 f fd ["_law_box_here", "_law_world_here"] (spLTable K) := by
  refine F.ok sc__law_table (fun vs H Q E h => ?_) (fun cdv A outer s H vs Q E hr h => ?_)
  · obtain ⟨p, a, W, c, rfl, _⟩ := h
    rfl
  · obtain ⟨p, a, W, c, rfl, hp, hc, hT, g, q⟩ := h
    have hu := room_u1 hr
    have hu2 := hr.units
    refine ⟨_, (pss_cons (ps_setLc (i := 2) (own := [("_law_row", 11)]) (g := gName 11) rfl sc__law_table.nd rfl rfl (by rfl) (pi_seq (pe_op op_catA (pe_ix ix_tup (pv 1) pe_int (fun _ _ => rfl)) (pe_ix ix_tup (pv 1) pe_int (fun _ _ => rfl)))) (blkOk_by (N := ["_law_box_here", "_law_world_here", "_law_names_here", "_law_ways", "_law_found", "_law_name", "_law_hour", "_law_entries", "_law_turn", "_law_rows", "_law_at", "_law_row"]) (sc := defScope s__law_table) (by decide +kernel)) (fun _ _ _ _ _ => pg_name (i := 11) sc__law_table.nd rfl (Or.inl rfl)) (fun _ _ _ _ _ => pts_one (pt_cmpR op_gt (pe_d DT (hr.mono (by decide)) (by rfl) pass0 (pa_cons (pv 0) (pa_cons pe_int pa_nil))) pe_int (nomark _))) (fun _ _ _ _ _ => (pe_ix (show IxR _ (rIxT K) from ix_tup) (pv 11) pe_int (fun _ _ => rfl))))
      (pss_cons (ps_setLc (i := 3) (own := [("_law_row", 11)]) (g := gName 11) (tt := tYes) rfl sc__law_table.nd rfl rfl (by rfl) (pi_seq (pe_ix ix_tup (pv 1) pe_int (fun _ _ => rfl))) (blkOk_by (N := ["_law_box_here", "_law_world_here", "_law_names_here", "_law_ways", "_law_found", "_law_name", "_law_hour", "_law_entries", "_law_turn", "_law_rows", "_law_at", "_law_row"]) (sc := defScope s__law_table) (by decide +kernel)) (fun _ _ _ _ _ => pg_name (i := 11) sc__law_table.nd rfl (Or.inl rfl)) (fun _ _ _ _ _ => pts_nil) (fun _ _ _ _ _ => (pe_ix (show IxR _ (rIxT K) from ix_tup) (pv 11) pe_int (fun _ _ => rfl))))
      (pss_cons (ps_set (i := 4) sc__law_table.nd rfl (.inl rfl) pe_dnewK)
      (pss_cons (ps_for PassesOwn.never rfl (pi_list (pv 2)) (pg_name (i := 5) sc__law_table.nd rfl (.inl rfl))
      (pss_cons (ps_set (i := 6) sc__law_table.nd rfl (.inl rfl) (pe_ix ix_tup (pv 1) pe_int (fun _ _ => rfl)))
      (pss_cons (ps_set (i := 7) sc__law_table.nd rfl (.inl rfl) (pe_lst pa_nil))
      (pss_cons (ps_for PassesOwn.never rfl (pi_range1 (by rfl) B.range (pa_cons (pe_op op_mul (pe_d DT (hr.mono (by decide)) (by rfl) pass0 (pa_cons (pv 0) (pa_cons pe_int pa_nil))) (pe_callTy call_int1 (by rfl) B.int (by decide +kernel) (pa_cons (pe_cmpR (op_neD hu2) (pv 3) (pe_lst pa_nil) (nomark _)) pa_nil))) pa_nil)) (pg_name (i := 8) sc__law_table.nd rfl (.inl rfl))
      (pss_cons (ps_set (i := 6) sc__law_table.nd rfl (.inl rfl) (pe_op op_add (pe_op op_add (pv 6) (pe_d DN (hr.mono (by decide)) (by rfl) pass0 (pa_cons (pv 0) (pa_cons pe_int (pa_cons pe_int pa_nil))))) (pe_callTy call_int1 (by rfl) B.int (by decide +kernel) (pa_cons (pe_cmpR op_gt (pv 8) pe_int (nomark _)) pa_nil))))
      (pss_one (ps_expr (pe_bm PySem.F.plainAttrs_list PySem.F.slot_list_append PySem.F.type_list_append mt_append (pv 7) (pa_cons (pe_tup (pa_cons (pv 6) (pa_cons (pe_ix ix_list (pv 3) (pe_d DT (hr.mono (by decide)) (by rfl) pass0 (pa_cons (pv 0) (pa_cons (pe_callB call_len_seq (by rfl) B.len PySem.boot_len (pa_cons (pv 3) pa_nil)) pa_nil))) (fun _ _ => rfl)) pa_nil))) pa_nil))))))
      (pss_one (ps_dput hu (pv 4) (pv 5) (pe_ix ix_list (pe_lst (pa_cons (pv 7) (pa_cons (pe_callTy call_tuple_of (by rfl) B.tuple (by decide +kernel) (pa_cons (pv 7) pa_nil)) pa_nil))) (pe_d DT (hr.mono (by decide)) (by rfl) pass0 (pa_cons (pv 0) (pa_cons pe_int pa_nil))) (fun _ _ => rfl)) rfl))))))
      (pss_cons (ps_set (i := 9) sc__law_table.nd rfl (.inl rfl) (LiI.pe_listItems rfl (pv 4) (by rfl) B.list (by decide +kernel)))
      (pss_cons (ps_set (i := 10) sc__law_table.nd rfl (.inl rfl) (pe_d DT (hr.mono (by decide)) (by rfl) pass0 (pa_cons (pv 0) (pa_cons (pe_op op_add (pe_callB call_len_seq (by rfl) B.len PySem.boot_len (pa_cons (pv 9) pa_nil)) pe_int) pa_nil))))
      (pss_one (ps_ret (pe_callTy (call_dictP rfl) (by rfl) B.dict (by decide +kernel) (pa_cons (pe_op op_cat (pe_slice sl_list (pv 9) (po_some (pv 10)) po_none) (pe_revL (pe_slice sl_list (pv 9) po_none (po_some (pv 10))))) pa_nil)))))))))), ?_⟩
    obtain ⟨ap, ac, ab, as, yc, yb, ys, t1, t2, t3, rc, t5, rb, t7, rs⟩ := id hT
    have lc1 : yc.length ≤ 12 := by rw [rc.1, List.length_map]; exact g.chans
    have lb1 : yb.length ≤ 4 := by rw [rb.1, List.length_map]; exact g.brks
    have ls1 : ys.length ≤ 6 := by rw [rs.1, List.length_map]; exact g.shps
    have vl := vnames_len g
    have vnd : W.vnames.Nodup := g.vnd
    have vname : ∀ n ∈ W.vnames, isName n = true := fun n hn => by
      unfold Wld.vnames at hn
      rcases List.mem_append.mp hn with hn | hn
      · obtain ⟨b, hb, rfl⟩ := List.mem_map.mp hn
        exact (g.bgood b hb).ves.name
      · obtain ⟨b, hb, rfl⟩ := List.mem_map.mp hn
        exact (g.sgood b hb).ves.name
    have allLen : (yb ++ ys).length = W.vnames.length := by
      rw [List.length_append, rb.1, rs.1, Wld.vnames, List.length_append]
      simp
    refine ⟨_, rfl, a, _, 3, _, rfl, rfl, .inl (.inl t1), rfl, _, rfl, a, _, 4, _, rfl, rfl, .inl (.inl t1), rfl, ?_⟩
    refine catA_use t5 t7 (by omega) fun r H1 s1 hr1 => ?_
    have hp1 := hp.same s1
    refine ⟨r, rfl, lc_seq (.t hr1) (fun D i H' => Bar p H1 H' ∧ i ≤ (yb ++ ys).length ∧ BoxAt H' p (c + i) ∧ ∃ us : List (List Nat), H' D = some (.lst (txts us)) ∧ us.Sublist (W.vnames.take i)) fun D hD => ?_⟩
    have pD : p ≠ D := fun z => hp1.some (by rw [z]; exact hD)
    refine ⟨⟨Bar.new hD, Nat.zero_le _, (hp1.same (same_new hD)).mono (by omega), [], upd_same, by simp⟩, fun i H' ⟨b, _⟩ xs => ?_, ?_, ?_⟩
    · exact ⟨fun h => by
        rcases h with h | h
        · exact .inl (nb_rd (hp1.nb b) (by
            rcases h with h | ⟨o, h⟩
            · rw [hr1] at h; cases h
            · rw [hr1] at h; cases h) h)
        · exact .inr h, fun h => by
        rcases h with h | h
        · exact .inl (nb_rd (hp1.nb b) rfl h)
        · exact .inr h⟩
    · rintro i x H' hx ⟨b, hi, hb, us, hU, hsub⟩
      have hi' : i < (yb ++ ys).length := (List.getElem?_eq_some_iff.mp hx).1
      obtain ⟨n, t, rw', hn, rfl, ht⟩ := row_at (rb.same s1) (rs.same s1) hx
      have tk : W.vnames.take (i + 1) = W.vnames.take i ++ [n] := by rw [List.take_succ, hn]; rfl
      refine ⟨rfl, _, rfl, p, 3, _, rfl, hb, by omega, by decide, by decide, fun r3 H4 q0 q1 hb4 b4 => ?_⟩
      refine ⟨_, _, rfl, rfl, _, rfl, ?_⟩
      have hU4 := b4 _ _ pD.symm hU
      have hb4' : BoxAt H4 p (c + (i + 1)) := hb4.mono (by omega)
      refine ite2 (fun _ => ?_) (fun _ => ?_)
      · refine ⟨_, rfl, t, _, 0, _, rfl, rfl, .inl (.inl (hb.nb b4 _ _ rfl (hp1.nb b _ _ rfl ht))), atI_nat (j := 0) rfl, ?_⟩
        have hl : us.length ≤ 10 := by
          have := hsub.length_le
          rw [List.length_take] at this
          omega
        refine ⟨txts us, hU4, Nat.lt_of_le_of_lt (show (txts us).length ≤ 10 by rw [List.length_map]; exact hl) (by decide), fun b' o nb' e => ?_, hi', ?_, us ++ [n], ?_, ?_⟩
        · rw [upd_ne (ne_of_none e hD)]
          exact (b.trans b4) b' o nb' e
        · obtain ⟨u, v, x, h1, h2, h3, h4, h5⟩ := hb4'
          exact ⟨u, v, x, by rw [upd_ne pD]; exact h1, h2, h3, h4, h5⟩
        · rw [upd_same]
          simp [txts]
        · rw [tk]
          exact hsub.append (List.Sublist.refl _)
      · refine ⟨b.trans b4, hi', hb4', us, hU4, ?_⟩
        rw [tk]
        exact hsub.trans (List.sublist_append_left _ _)
    rintro H2 ⟨b2, _, hp2, us, hU, hsub⟩
    rw [allLen, List.take_length] at hsub
    rw [allLen] at hp2
    have N2 := (Nb.same s1).trans (hp1.nb b2)
    have bb := (Bar.same s1).trans b2
    have hp2 : BoxAt H2 p (c + 10) := hp2.mono (by omega)
    have rc2 := rc.nb N2
    refine ⟨_, rfl, a, _, 2, _, rfl, rfl, .inl (.inl (N2 _ _ rfl t1)), rfl, ac, rfl, lc_map (fun x y _ => ∃ p r, x = .ref p ∧ H2 p = some (.tup r) ∧ r[0]? = some y) (.t (N2 _ _ rfl t3)) (Nat.lt_of_le_of_lt lc1 (by decide)) (fun _ _ _ _ _ e => e) (fun _ _ _ _ _ _ e => e) ?_ ?_⟩
    · intro x H3 kk hx s3 kq
      obtain ⟨o, b, rfl, _, e⟩ := rc2.mem hx
      refine ⟨rfl, _, rfl, o, _, 0, _, rfl, rfl, .inl (.inl (s3 _ _ e)), rfl, ?_⟩
      exact kq _ _ (Same.refl _) ⟨o, _, rfl, e, rfl⟩
    intro D2 ds H3 hD2 s3 hy e
    obtain rfl := cells_of (j := 0) (f := fun b : Chan => V.str (S b.name)) (fun _ => rfl) rc2 e
    have hW : H3 D2 = some (.lst (txts W.cnames)) := by rw [hy, txts, Wld.cnames, List.map_map]; rfl
    have cname : ∀ n ∈ W.cnames, isName n = true := fun n hn => by
      obtain ⟨b, hb, rfl⟩ := List.mem_map.mp hn
      exact (g.good b hb).name
    have cl : W.cnames.length ≤ 12 := by unfold Wld.cnames; rw [List.length_map]; exact g.chans
    have hU3 := s3 _ _ hU
    have t1' := s3 _ _ (N2 _ _ rfl t1)
    have hp3 := hp2.same s3
    have bb := bb.trans (Bar.same s3)
    clear hy e rc2
    intro d hd
    generalize hXq : upd _ d _ = H4
    have s4 := laid_same hXq hd
    have e4 := laid_at hXq
    clear hXq
    have hp4 := hp3.same s4
    have hU4 := s4 _ _ hU3
    have hW4 := s4 _ _ hW
    have t14 := s4 _ _ t1'
    have bb4 := bb.trans (Bar.same s4)
    have usn : us.Nodup := hsub.nodup vnd
    have usl : us.length ≤ 10 := Nat.le_trans hsub.length_le vl
    have usm : ∀ n ∈ us, n ∈ W.vnames := fun n hn => hsub.subset hn
    have dN : d ≠ p := fun z => hp3.some (by rw [← z]; exact hd)
    have nDd : D ≠ d := fun z => by rw [z] at hU3; rw [hU3] at hd; cases hd
    have nap : a ≠ p := fun z => by
      obtain ⟨u, v, x, h1, _⟩ := hp
      rw [z, h1] at t1
      cases t1
    have nad : a ≠ d := fun z => by rw [z] at t1'; rw [t1'] at hd; cases hd
    have nwd : D2 ≠ d := fun z => by rw [z] at hW; rw [hW] at hd; cases hd
    have nwp : D2 ≠ p := fun z => hp2.some (by rw [← z]; exact hD2)
    refine ⟨_, rfl, D, rfl, ⟨_, SqL.of hU4⟩, for_it (walk_lst (xs := txts us)) (fun i σ H' => ∃ y1 y2 y3 y4 y5 y6 y7, σ = [some (.ref p), some (.ref a), some (.ref D), some (.ref D2), some (.ref d), y1, y2, y3, y4, y5, y6, y7] ∧ (∀ b o, b ≠ p → b ≠ d → H4 b = some o → H' b = some o) ∧ BoxAt H' p (c + 10 + 40 * i) ∧
      ∃ (T : Tab) (vs : List V), H' d = some (.dK (kvsOf T vs)) ∧ EntsAt K H' vs T ∧ T.map (·.1) = us.take i ∧ (∀ e ∈ T, Rise W.cnames W.begin e.2 ∧ e.2.length ≤ 12 ∧ ∀ x ∈ e.2, x.1 ≤ 1002000) ∧ ∀ v ∈ vs, ∃ b, v = .ref b ∧ H b = none) ⟨_, _, _, _, _, _, _, rfl, fun _ _ _ _ e => e, hp4.mono (by omega), [], [], e4, ⟨rfl, fun i v e h1 _ => by simp at h1⟩, rfl, (fun _ h => by cases h), fun _ h => by cases h⟩ ?_ ?_ ?_⟩
    · rintro i σ H' _ ⟨_, _, _, _, _, _, _, _, k, _⟩
      exact SqL.of (k _ _ pD.symm nDd hU4)
    · rintro i x σ H5 H' hi ⟨_, _, _, _, _, _, _, rfl, k, hb, T, vs, hd', hv, hTn, hTe, hfr⟩ ⟨rfl, hx⟩
      rw [List.length_map] at hi
      rw [List.getElem?_map, List.getElem?_eq_getElem hi] at hx
      obtain rfl := (Option.some.inj hx).symm
      have hi10 : i < 10 := by omega
      have hm : us[i] ∈ us := List.getElem_mem hi
      have back : ∀ z, H' z = none → H z = none := fun z hz => by
        have zp : z ≠ p := fun y => hb.some (by rw [← y]; exact hz)
        have zd : z ≠ d := fun y => by rw [y, hd'] at hz; cases hz
        have z3 : H4 z = none := by
          cases e : H4 z with
          | none => rfl
          | some o => rw [k z o zp zd e] at hz; cases hz
        exact bb_none bb4 hp4 z3
      have ta := k _ _ nap nad t14
      have tw := k _ _ nwp nwd hW4
      refine ⟨_, rfl, a, _, 0, _, rfl, rfl, .inl (.inl ta), rfl, ?_⟩
      refine ⟨Nat.le_of_ble_eq_true rfl, fun l hl => ?_⟩
      generalize hXq : upd _ l _ = H6
      have s6 := laid_same hXq hl
      have e6 := laid_at hXq
      clear hXq
      have hb6 := hb.same s6
      have tw6 := s6 _ _ tw
      refine ⟨_, rfl, p, 13, _, rfl, hb6, by omega, by decide, by decide, fun r H7 q0 q1 hb7 b7 => ?_⟩
      obtain ⟨r, rfl⟩ := Int.eq_ofNat_of_zero_le q0
      have N7 := hb6.nb b7
      have tw7 := N7 _ _ nb_txts tw6
      have e7 := N7 _ _ rfl e6
      refine ⟨_, rfl, ?_⟩
      refine ⟨Nat.le_of_ble_eq_true rfl, fun l0 hl0 => ?_⟩
      generalize hXq : upd _ l0 _ = H8
      have s8 := laid_same hXq hl0
      have e8 := laid_at hXq
      clear hXq
      have hb8 := hb7.same s8
      have tw8 := s8 _ _ tw7
      have e8l := s8 _ _ e7
      refine ⟨_, .list [], .lst (.inl (.inl tw8)) (dp_strs _), .lst (.inl (.inl e8)) .nil, strs_shaped (fun w hw => name_ok (cname w hw)), by decide, ?_⟩
      rw [strs_eqv]
      have hmm : ∃ m : Nat, ((r : Int) * (if (!W.cnames.isEmpty) = true then (1 : Int) else 0) = (m : Int)) ∧ m ≤ 12 ∧ (0 < m → 0 < W.cnames.length) := by
        cases hcn : W.cnames with
        | nil => exact ⟨0, by simp, by omega, by omega⟩
        | cons e es => exact ⟨r, by simp, by omega, by simp⟩
      obtain ⟨m, em, m12, mpos⟩ := hmm
      refine .inr ⟨_, rfl, _, _, rfl, rfl, .inr (by split <;> decide), (m : Int), congrArg (fun i : Int => [V.int i]) em, by omega, by omega, ?_⟩
      have emt : ((m : Nat) : Int).toNat = m := Int.toNat_natCast m
      rw [emt]
      have nlp : l ≠ p := fun z => hb.some (by rw [← z]; exact hl)
      have nld : l ≠ d := fun z => by rw [z, hd'] at hl; cases hl
      have hd8 : H8 d = some (.dK (kvsOf T vs)) := s8 _ _ (N7 _ _ rfl (s6 _ _ hd'))
      have N58 : Nb H' H8 := (Nb.same s6).trans (N7.trans (Nb.same s8))
      have hv8 := hv.nb N58
      refine for_it walk_rng (fun j σ H'' => ∃ (h : Int) (y9 y10 y11 y12 : Option V), σ = [some (.ref p), some (.ref a), some (.ref D), some (.ref D2), some (.ref d), some (.str (S us[i])), some (.int h), some (.ref l), y9, y10, y11, y12] ∧ (∀ b o, b ≠ p → b ≠ l → H8 b = some o → H'' b = some o) ∧ BoxAt H'' p (c + 10 + 40 * i + 1 + 3 * j) ∧
        ∃ (es : List Ent) (zs : List V), H'' l = some (.lst zs) ∧ RowsIs H'' zs (es.map entV) ∧ es.length = j ∧ Rise W.cnames W.begin es ∧ (∀ e ∈ es, e.1 ≤ h) ∧ W.begin ≤ h ∧ h ≤ 1000000 + 100 * j) ⟨W.begin, _, _, _, _, rfl, fun _ _ _ _ e => e, hb8.mono (by omega), [], [], e8l, ⟨rfl, fun i v e h1 _ => by simp at h1⟩, rfl, trivial, (fun _ h => by cases h), Int.le_refl _, by have := g.begin; omega⟩ (fun _ _ _ _ _ => trivial) ?_ ?_
      · rintro j x σ H'' H9 hj ⟨h, _, _, _, _, rfl, k2, hbj, es, zs, hz, hzr, hel, hri, hle, h0, h1⟩ ⟨rfl, rfl⟩
        have hcn : 0 < W.cnames.length := mpos (by omega)
        have tw9 := k2 _ _ nwp (fun z => by rw [z] at tw; rw [tw] at hl; cases hl) tw8
        refine ⟨_, rfl, _, rfl, p, 0, 99, _, rfl, hbj, by omega, by decide, by decide, fun n1 J1 n10 n11 hbJ1 bJ1 => ?_⟩
        have NJ1 := hbj.nb bJ1
        refine ⟨_, _, rfl, rfl, _, rfl, _, _, rfl, rfl, .inr ⟨_, rfl, _, _, rfl, rfl, ?_⟩⟩
        have ht : ∃ h' : Int, h + n1 + (if decide ((0 : Int) < 0 + (j : Int)) = true then (1 : Int) else 0) = h' ∧ h' ≤ h + 100 ∧ h ≤ h' ∧ (0 < j → h < h') := by
          by_cases y : (0 : Int) < 0 + (j : Int)
          · rw [decide_eq_true y, if_pos rfl]
            exact ⟨_, rfl, by omega, by omega, by omega⟩
          · rw [decide_eq_false y]
            exact ⟨_, rfl, by simp; omega, by simp; omega, by omega⟩
        obtain ⟨h', eh, k3, k4, k5⟩ := ht
        dsimp only
        rw [eh]
        have hzJ := NJ1 _ _ (nb_rows hzr) hz
        have hzrJ := hzr.nb NJ1
        have twJ := NJ1 _ _ nb_txts tw9
        refine ⟨_, rfl, .inl ⟨rfl, zs, .inl (.inl hzJ)⟩, _, rfl, _, rfl, _, rfl, _, rfl, D2, _, rfl, SqA.l twJ, p, _, _, rfl, hbJ1, by omega, by rw [List.length_map]; omega, by rw [List.length_map]; omega, fun r2 J2 r20 r21 hbJ2 bJ2 => ?_⟩
        obtain ⟨r2, rfl⟩ := Int.eq_ofNat_of_zero_le r20
        have hr2 : r2 < W.cnames.length := by rw [List.length_map] at r21; omega
        have NJ2 := hbJ1.nb bJ2
        have twJ2 := NJ2 _ _ nb_txts twJ
        refine ⟨D2, _, _, _, rfl, rfl, SqL.of twJ2, port_at hr2, ?_⟩
        refine ⟨Nat.le_of_ble_eq_true rfl, fun t ht' => ?_⟩
        generalize hXq : upd _ t _ = J3
        have sJ3 := laid_same hXq ht'
        have eJ3 := laid_at hXq
        clear hXq
        have hzJ3 := sJ3 _ _ (NJ2 _ _ (nb_rows hzrJ) hzJ)
        have hzr3 := (hzrJ.nb NJ2).same sJ3
        have hbJ3 := hbJ2.same sJ3
        have hzl : zs.length ≤ 12 := by rw [hzr.1, List.length_map]; omega
        refine ⟨l, zs, _, rfl, rfl, hzJ3, Nat.lt_of_le_of_lt hzl (by decide), ?_⟩
        refine ⟨h', _, _, _, _, rfl, fun b o n1' n2' e => ?_, ?_, es ++ [(h', W.cnames[r2])], zs ++ [.ref t], upd_same, ?_, ?_, ?_, ?_, ?_, ?_⟩
        · rw [upd_ne n2']
          exact sJ3 _ _ (bJ2 _ _ n1' (bJ1 _ _ n1' (k2 _ _ n1' n2' e)))
        · obtain ⟨u, v, x, h1, h2, h3, h4, h5⟩ := hbJ3
          exact ⟨u, v, x, by rw [upd_ne (Ne.symm nlp)]; exact h1, h2, h3, h4, by omega⟩
        · rw [List.map_append]
          exact (hzr3.snoc eJ3).barL Bar.at_ hzJ3
        · simp [hel]
        · refine hri.snoc (fun e he => ?_) (by omega) (by omega) (List.getElem_mem hr2)
          have hjp : 0 < j := by
            cases es with
            | nil => cases he
            | cons x xs => simp at hel; omega
          have := hle e he
          have := k5 hjp
          omega
        · intro e he
          rcases List.mem_append.mp he with he | he
          · have := hle e he
            omega
          · obtain rfl := List.mem_singleton.mp he
            exact Int.le_refl _
        · omega
        · omega
      · rintro σ H'' ⟨h, _, _, _, _, rfl, k2, hbj, es, zs, hz, hzr, hel, hri, hle, h0, h1⟩
        refine ⟨_, rfl, _, rfl, l, zs, rfl, .inl ⟨.inl (.inl hz), fun t ht => ?_⟩⟩
        generalize hXq : upd _ t _ = H9
        have s9 := laid_same hXq ht
        have e9 := laid_at hXq
        clear hXq
        refine ⟨Nat.le_of_ble_eq_true rfl, fun l9 hl9 => ?_⟩
        generalize hXq : upd _ l9 _ = H10
        have s10 := laid_same hXq hl9
        have e10 := laid_at hXq
        clear hXq
        have hb10 := hbj.same (s9.trans s10)
        refine ⟨_, rfl, p, 2, _, rfl, hb10, by omega, by decide, by decide, fun r3 H11 u0 u1 hb11 b11 => ?_⟩
        have N11 := hb10.nb b11
        obtain ⟨x, hx, hxm⟩ := at_drawn (xs := [V.ref l, V.ref t]) u0 u1
        refine ⟨l9, _, r3, x, rfl, rfl, SqL.of (N11 _ _ rfl e10), hx, ?_⟩
        have hd11 : H11 d = some (.dK (kvsOf T vs)) := N11 _ _ rfl (s10 _ _ (s9 _ _ (k2 _ _ dN (Ne.symm nld) hd8)))
        have NN : Nb H' H'' := fun b o n e => by
          have bl : b ≠ l := fun z => by rw [z, hl] at e; cases e
          have bp : b ≠ p := fun z => by
            obtain ⟨u, v, w, h1, _⟩ := hb
            rw [z, h1] at e
            rw [← Option.some.inj e] at n
            cases n
          exact k2 b o bp bl (N58 b o n e)
        have hv11 : EntsAt K H11 vs T := ((hv.nb NN).same (s9.trans s10)).nb N11
        have nn : ∀ e ∈ T, e.1 ≠ us[i] := by
          intro e he z
          have h1 : e.1 ∈ us.take i := by rw [← hTn]; exact List.mem_map_of_mem he
          obtain ⟨j, hj⟩ := List.getElem?_of_mem h1
          rw [List.getElem?_take] at hj
          split at hj
          · have hjl : j < us.length := (List.getElem?_eq_some_iff.mp hj).1
            have := (List.getElem?_inj hjl usn (j := i)).mp (by rw [hj, List.getElem?_eq_getElem hi, z])
            omega
          · cases hj
        have hTl : T.length = i := by
          have := congrArg List.length hTn
          rw [List.length_map, List.length_take] at this
          omega
        refine ⟨_, rfl, _, rfl, d, _, rfl, DPut.k (k := .inr (S us[i])) hd11 (Nat.lt_of_le_of_lt (show _ ≤ 10 by rw [kvsOf_len hv.1]; omega) (by decide)), ?_⟩
        have hbF : BoxAt (upd H11 d (.dK (putK (kvsOf T vs) (.inr (S us[i])) x))) p (c + 10 + 40 * (i + 1)) := by
          obtain ⟨u, v, x, h1, h2, h3, h4, h5⟩ := hb11
          exact ⟨u, v, x, by rw [upd_ne (Ne.symm dN)]; exact h1, h2, h3, h4, by omega⟩
        have key : ∃ lx, x = .ref lx ∧ SqA K H11 lx zs ∧ H lx = none := by
          simp only [List.mem_cons, List.not_mem_nil, or_false] at hxm
          rcases hxm with rfl | rfl
          · exact ⟨l, rfl, .l (N11 _ _ (nb_rows hzr) (s10 _ _ (s9 _ _ hz))), back l hl⟩
          · refine ⟨t, rfl, .t (N11 _ _ rfl (s10 _ _ e9)), back t ?_⟩
            cases e : H' t with
            | none => rfl
            | some o =>
              have tp : t ≠ p := fun z => hbj.some (by rw [← z]; exact ht)
              have tl : t ≠ l := fun z => by rw [z, hz] at ht; cases ht
              rw [k2 t o tp tl (s8 _ _ (b7 _ _ tp (s6 _ _ e)))] at ht
              cases ht
        obtain ⟨lx, rfl, hlx, hlxf⟩ := key
        have hzr11 := (hzr.same (s9.trans s10)).nb N11
        refine ⟨_, _, _, _, _, _, _, rfl, fun b o n1 n2 e => ?_, hbF, T ++ [(us[i], es)], vs ++ [.ref lx], ?_, ?_, ?_, ?_, ?_⟩
        · rw [upd_ne n2]
          have e0 := k b o n1 n2 e
          have bl : b ≠ l := fun z => by rw [z, hl] at e0; cases e0
          exact b11 b o n1 ((s9.trans s10) b o (k2 b o n1 bl (s8 b o (b7 b o n1 (s6 b o e0)))))
        · rw [upd_same, putK_new _ (val_none nn), kvsOf_snoc hv.1]
        · exact (hv11.snoc hlx hzr11).bar Bar.at_ hd11
        · rw [List.map_append, hTn, List.take_succ, List.getElem?_eq_getElem hi]
          rfl
        · intro e he
          rcases List.mem_append.mp he with he | he
          · exact hTe e he
          · obtain rfl := List.mem_singleton.mp he
            exact ⟨hri, by show es.length ≤ 12; omega, fun x hx => by have := hle x hx; omega⟩
        · intro v hv
          rcases List.mem_append.mp hv with hv | hv
          · exact hfr v hv
          · obtain rfl := List.mem_singleton.mp hv
            exact ⟨lx, rfl, hlxf⟩
    · rintro σ H' ⟨_, _, _, _, _, _, _, rfl, k, hb, T, vs, hd', hv, hTn, hTe, hfr⟩
      rw [List.length_map] at hTn hb
      rw [List.take_length] at hTn
      have hTl : T.length ≤ 10 := by
        have := congrArg List.length hTn
        rw [List.length_map] at this
        omega
      have hTnd : (T.map (·.1)).Nodup := by rw [hTn]; exact usn
      refine ⟨_, rfl, d, _, rfl, hd', fun H5 l ts s5 hl htn hlt e5 pr => ?_⟩
      have hb5 := (hb.same s5).mono (show c + 10 + 40 * us.length ≤ c + 410 by omega)
      have hlen : ts.length = T.length := by rw [Paired.length pr, kvsOf_len hv.1]
      refine ⟨_, rfl, _, rfl, l, _, rfl, SqA.l e5, _, _, rfl, rfl, p, _, _, rfl, hb5, by omega, by rw [List.length_map]; omega, by rw [List.length_map]; omega, fun r H6 q0 q1 hb6 b6 => ?_⟩
      obtain ⟨x, rfl⟩ := Int.eq_ofNat_of_zero_le q0
      have nbt : nb (.lst (ts.map V.ref)) = true := nb_lst fun y hy i z => by
        obtain ⟨t, _, rfl⟩ := List.mem_map.mp hy
        cases z
      have N6 := hb5.nb b6
      have e6 := N6 _ _ nbt e5
      have hx : x ≤ (ts.map V.ref).length := by omega
      refine ⟨_, rfl, _, rfl, _, rfl, l, _, rfl, SqL.of e6, fun l1 hl1 => ?_⟩
      generalize hXq : upd _ l1 _ = H7
      have s7 := laid_same hXq hl1
      have e7 := laid_at hXq
      clear hXq
      refine ⟨_, rfl, _, rfl, _, rfl, l, _, rfl, SqL.of (s7 _ _ e6), fun l2 hl2 => ?_⟩
      generalize hXq : upd _ l2 _ = H8
      have s8 := laid_same hXq hl2
      have e8 := laid_at hXq
      clear hXq
      refine ⟨l2, _, rfl, SqL.of e8, fun l3 hl3 => ?_⟩
      generalize hXq : upd _ l3 _ = H9
      have s9 := laid_same hXq hl3
      have e9 := laid_at hXq
      clear hXq
      rw [cutV_from hx] at e7
      rw [cutV_to hx] at e9
      refine ⟨l1, l3, _, _, rfl, rfl, s9 _ _ (s8 _ _ e7), e9, Nat.le_trans (show _ ≤ 100 by simp; omega) (by decide), fun l4 hl4 => ?_⟩
      generalize hXq : upd _ l4 _ = H10
      have s10 := laid_same hXq hl4
      have e10 := laid_at hXq
      clear hXq
      have sm := s7.trans (s8.trans (s9.trans s10))
      have e11 : H10 l4 = some (.lst ((ts.drop x ++ (ts.take x).reverse).map V.ref)) := by
        rw [e10]
        simp only [List.map_append, List.map_drop, List.map_reverse, List.map_take]
      have pr10 : Paired (fun (t : Addr) (kv : Key × V) => SqT K H10 t [kV kv.1, kv.2]) (ts.drop x ++ (ts.take x).reverse) ((kvsOf T vs).drop x ++ ((kvsOf T vs).take x).reverse) := by
        have h0 : Paired (fun (t : Addr) (kv : Key × V) => SqT K H10 t [kV kv.1, kv.2]) ts (kvsOf T vs) := L2.Paired.mapP pr fun t kv h => .inl (.inl (sm _ _ (N6 _ _ rfl h)))
        exact paired_turn h0 x
      refine ⟨l4, _, _, rfl, SqL.of e11, pr10, fun z hz => ?_⟩
      generalize hXq : upd _ z _ = H11
      have s11 := laid_same hXq hz
      have e12 := laid_at hXq
      clear hXq
      rw [kvs_turn x hv.1] at e12
      have hTurn : ((T.drop x ++ (T.take x).reverse).map (·.1)).Nodup := by
        rw [List.map_append, List.map_reverse, List.map_drop, List.map_take]
        exact turn_nd hTnd x
      rw [mergeK_new _ _ (by
        rw [List.nil_append]
        unfold kvsOf
        rw [List.map_fst_zip (by rw [List.length_map, turn_len, turn_len, hv.1]; exact Nat.le_refl _)]
        have : ((T.drop x ++ (T.take x).reverse).map fun e => (Sum.inr (S e.1) : Key)) = ((T.drop x ++ (T.take x).reverse).map (·.1)).map fun n => (Sum.inr (S n) : Key) := by rw [List.map_map]; rfl
        rw [this]
        exact inr_nd hTurn), List.nil_append] at e12
      have hvF : EntsAt K H11 (vs.drop x ++ (vs.take x).reverse) (T.drop x ++ (T.take x).reverse) := (((hv.same s5).nb N6).same (sm.trans s11)).turn x
      have hmem : ∀ e ∈ T.drop x ++ (T.take x).reverse, e ∈ T := fun e he => turn_mem he
      refine q z _ H11 ?_ ⟨_, e12, hvF⟩ ⟨hTurn, fun e he => usm _ (by rw [← hTn]; exact List.mem_map_of_mem (hmem e he)), fun e he => (hTe e (hmem e he)).1, fun e he => Nat.le_trans (hTe e (hmem e he)).2.1 (by decide)⟩ ⟨by rw [turn_len]; exact hTl, fun e he => (hTe e (hmem e he)).2.1, fun e he => (hTe e (hmem e he)).2.2⟩ ((hb6.same (sm.trans s11)).mono (by omega)) ?_ ?_
      · have z1 : H5 z = none := bb_none b6 hb6 (none_back sm hz)
        have z2 := none_back s5 z1
        have zp : z ≠ p := fun y => hb5.some (by rw [← y]; exact z1)
        have zd : z ≠ d := fun y => by rw [y, hd'] at z2; cases z2
        have z3 : H4 z = none := by
          cases e : H4 z with
          | none => rfl
          | some o => rw [k z o zp zd e] at z2; cases z2
        exact bb_none bb4 hp4 z3
      · intro b o n1 e
        have n2 : b ≠ d := fun y => by
          have := bb b o n1 e
          rw [y, hd] at this
          cases this
        exact s11 _ _ (sm _ _ (b6 _ _ n1 (s5 _ _ (k b o n1 n2 (bb4 b o n1 e)))))
      · intro d' l' h0 hdp
        have h11 : H11 d' = some (.lst l') := by
          have n2 : d' ≠ d := fun y => by
            have := bb d' _ hdp h0
            rw [y, hd] at this
            cases this
          exact s11 _ _ (sm _ _ (b6 _ _ hdp (s5 _ _ (k d' _ hdp n2 (bb4 d' _ hdp h0)))))
        refine ⟨_, hide_of h11 (fun _ z => by cases z) e12, ents_hide hvF (fun v hv => hfr v (turn_mem hv)) h0 h11⟩
end
end Law
end
section
set_option Elab.async false
set_option linter.all false
set_option maxRecDepth 100000
set_option maxHeartbeats 4000000
namespace Law
open PySem PySem.Spec PyProof.Rows L2 IK SX
/-- the told table's first i vessels -/
def tabUpTo (W : Wld) (T : Tab) (i : Nat) : Tab := ((W.vnames.take i).map fun n => (n, entsOf T n)).filter fun e => !e.2.isEmpty
theorem upTo_succ {W : Wld} {T : Tab} {i : Nat} {n : List Nat} (hn : W.vnames[i]? = some n) : tabUpTo W T (i + 1) = tabUpTo W T i ++ (if (entsOf T n).isEmpty = true then [] else [(n, entsOf T n)]) := by
  have tk : W.vnames.take (i + 1) = W.vnames.take i ++ [n] := by rw [List.take_succ, hn]; rfl
  unfold tabUpTo
  rw [tk, List.map_append, List.filter_append]
  by_cases h : (entsOf T n).isEmpty = true
  · simp [h]
  · simp [h]
theorem upTo_all {W : Wld} {T : Tab} : tabUpTo W T W.vnames.length = tabTold W T := by
  unfold tabUpTo tabTold
  rw [List.take_length]
theorem upTo_ne {W : Wld} (g : W.Good) {T : Tab} {i : Nat} {n : List Nat} (hn : W.vnames[i]? = some n) : ∀ e ∈ tabUpTo W T i, e.1 ≠ n := by
  intro e he z
  obtain ⟨n', hn', rfl⟩ := List.mem_map.mp (List.mem_filter.mp he).1
  have hnd : W.vnames.Nodup := g.vnd
  obtain ⟨j, hj⟩ := List.getElem?_of_mem hn'
  rw [List.getElem?_take] at hj
  split at hj
  · have hjl : j < W.vnames.length := (List.getElem?_eq_some_iff.mp hj).1
    have z' : n' = n := z
    subst z'
    have := (List.getElem?_inj hjl hnd).mp (hj.trans hn.symm)
    omega
  · cases hj
theorem upTo_len {W : Wld} (g : W.Good) {T : Tab} {i : Nat} : (tabUpTo W T i).length ≤ 10 := by
  unfold tabUpTo
  have h1 := List.length_filter_le (fun e : List Nat × List Ent => !e.2.isEmpty) ((W.vnames.take i).map fun n => (n, entsOf T n))
  rw [List.length_map, List.length_take] at h1
  have := vnames_len g
  omega
def spAnewT (K : PySem.W.Frag) : Sp := fun vs H Q _ => ∃ (a t : Addr) (W : Wld) (T : Tab), vs = [.ref a, .ref t] ∧ ToldAt H a W ∧ W.Good ∧ TabAt K H t T ∧ ∀ b H', H b = none → Same H H' → TabL H' b (tabTold W T) → Q (.ref b) H'
section
variable {P : Program} {w : World} {K : PySem.W.Frag} {mg : Str → Option Value} {base : Heap}
theorem ok_anew {f : Addr} {fd : FuncData} (F : Fun K "_law_anew" "_law_anew" s__law_anew f fd) (B : Blt mg) : FnOk P w K mg base CX0 1 f fd ["_law_world_here", "_law_table_here"] (spAnewT K) := by
  refine F.ok sc__law_anew (fun vs H Q E h => ?_) (fun cdv A outer s H vs Q E hr h => ?_)
  · obtain ⟨a, t, W, T, rfl, _⟩ := h
    rfl
  · obtain ⟨a, t, W, T, rfl, hT, g, hTab, q⟩ := h
    have hu := room_u1 hr
    refine ⟨_, (pss_cons (ps_set (i := 2) sc__law_anew.nd rfl (.inl rfl) pe_dnewK)
      (pss_cons (ps_for PassesOwn.never rfl (pi_seq (pe_op op_catA (pe_ix ix_tup (pv 0) pe_int (fun _ _ => rfl)) (pe_ix ix_tup (pv 0) pe_int (fun _ _ => rfl)))) (pg_name (i := 3) sc__law_anew.nd rfl (.inl rfl))
      (pss_one (ps_if (PW.pt (pw_and (pt_cmp (pc_din hu (pe_ix ix_tup (pv 3) pe_int (fun _ _ => rfl)) (pv 1))) (pw_and1 (pt_cmpR op_gt (pe_callB call_len_seq (by rfl) B.len PySem.boot_len (pa_cons (pe_dget hu (pv 1) (pe_ix ix_tup (pv 3) pe_int (fun _ _ => rfl)) (fun _ _ => rfl)) pa_nil)) pe_int (nomark _))))) (pss_one (ps_dput hu (pv 2) (pe_ix ix_tup (pv 3) pe_int (fun _ _ => rfl)) (pe_callTy call_list_of (by rfl) B.list (by decide +kernel) (pa_cons (pe_dget hu (pv 1) (pe_ix ix_tup (pv 3) pe_int (fun _ _ => rfl)) (fun _ _ => rfl)) pa_nil)) rfl)) pss_nil)))
      (pss_one (ps_ret (pv 2))))), ?_⟩
    obtain ⟨ap, ac, ab, as, yc, yb, ys, t1, t2, t3, rc, t5, rb, t7, rs⟩ := id hT
    have lb1 : yb.length ≤ 4 := by rw [rb.1, List.length_map]; exact g.brks
    have ls1 : ys.length ≤ 6 := by rw [rs.1, List.length_map]; exact g.shps
    have allLen : (yb ++ ys).length = W.vnames.length := by
      rw [List.length_append, rb.1, rs.1, Wld.vnames, List.length_append]
      simp
    intro d hd
    generalize hXq : upd _ d _ = H1
    have s1 := laid_same hXq hd
    have e1 := laid_at hXq
    clear hXq
    refine ⟨_, rfl, a, _, 3, _, rfl, rfl, .inl (.inl (s1 _ _ t1)), rfl, _, rfl, a, _, 4, _, rfl, rfl, .inl (.inl (s1 _ _ t1)), rfl, ?_⟩
    refine catA_use (s1 _ _ t5) (s1 _ _ t7) (by omega) fun r H2 s2 hr1 => ?_
    have sm := s1.trans s2
    have e2 := s2 _ _ e1
    obtain ⟨vs, ht0, hv0⟩ := hTab
    have ht2 := sm _ _ ht0
    have hv := hv0.same sm
    have rb2 := rb.same sm
    have rs2 := rs.same sm
    have td : t ≠ d := fun z => by rw [z] at ht0; rw [ht0] at hd; cases hd
    refine ⟨r, rfl, for_seq (.t hr1) (fun i σ H' => ∃ y, σ = [some (.ref a), some (.ref t), some (.ref d), y] ∧ Bar d H2 H' ∧ ∃ us, H' d = some (.dK (kvsOf (tabUpTo W T i) us)) ∧ ValsL H' us (tabUpTo W T i))
      ⟨_, rfl, Bar.refl, [], e2, rfl, fun i v e h1 _ => by simp at h1⟩ ?_ ?_ ?_⟩
    · rintro i σ H' ⟨_, rfl, b, _⟩
      exact kp_bar b e2
    · rintro i x σ H' hx ⟨_, rfl, b, us, hd', hus⟩
      obtain ⟨n, o, rw', hn, rfl, ho⟩ := row_at rb2 rs2 hx
      have od : o ≠ d := fun z => by rw [z, e2] at ho; cases ho
      have ho' := b _ _ od ho
      have ht' := b _ _ td ht2
      have hv' := hv.bar b e2
      have us' := upTo_succ (T := T) hn
      refine ⟨_, rfl, o, _, 0, _, rfl, rfl, .inl (.inl ho'), atI_nat (j := 0) rfl, _, rfl, t, _, rfl, DGet.k (k := .inr (S n)) ht', ?_⟩
      rcases ents_val hv' (n := n) with ⟨h1, h2⟩ | ⟨b', ys', h1, h2, h3⟩
      · rw [h1]
        refine ⟨false, rfl, iteF ?_⟩
        rw [h2] at us'
        refine ⟨_, rfl, b, us, ?_, ?_⟩
        · rw [us']
          simpa using hd'
        · rw [us']
          simpa using hus
      · rw [h1]
        refine ⟨true, rfl, iteT ?_⟩
        refine ⟨_, rfl, _, rfl, o, _, 0, _, rfl, rfl, .inl (.inl ho'), atI_nat (j := 0) rfl, t, _, rfl, (by rw [← h1]; exact DGet.k (k := .inr (S n)) ht'), b', _, rfl, h2, _, _, rfl, rfl, _, rfl, ?_⟩
        have hl : ys'.length = (entsOf T n).length := by rw [h3.1, List.length_map]
        by_cases hz : (entsOf T n).isEmpty = true
        · have h0 : ys'.length = 0 := by rw [hl]; simpa using hz
          rw [h0]
          refine iteF ?_
          rw [if_pos hz, List.append_nil] at us'
          refine ⟨_, rfl, b, us, ?_, ?_⟩
          · rw [us']
            exact hd'
          · rw [us']
            exact hus
        · have h0 : 0 < ys'.length := by
            rw [hl]
            cases e : entsOf T n with
            | nil => rw [e] at hz; exact absurd rfl hz
            | cons x xs => simp
          rw [decide_eq_true (show (0 : Int) < (ys'.length : Int) by omega)]
          refine iteT ?_
          rw [if_neg hz] at us'
          refine ⟨_, rfl, _, rfl, o, _, 0, _, rfl, rfl, .inl (.inl ho'), atI_nat (j := 0) rfl, t, _, rfl, (by rw [← h1]; exact DGet.k (k := .inr (S n)) ht'), b', _, rfl, h2, fun l hl => ?_⟩
          generalize hXq : upd _ l _ = H4
          have s4 := laid_same hXq hl
          have e4 := laid_at hXq
          clear hXq
          have hd4 := s4 _ _ hd'
          refine ⟨_, rfl, _, rfl, o, _, 0, _, rfl, rfl, .inl (.inl (s4 _ _ ho')), atI_nat (j := 0) rfl, d, _, rfl, DPut.k (k := .inr (S n)) hd4 (Nat.lt_of_le_of_lt (show _ ≤ 10 by rw [kvsOf_len hus.1]; exact upTo_len g) (by decide)), ?_⟩
          refine ⟨_, rfl, (b.trans (Bar.same s4)).trans Bar.at_, us ++ [.ref l], ?_, ?_⟩
          · rw [upd_same, putK_new _ (val_none (upTo_ne g hn)), us', kvsOf_snoc hus.1]
          · rw [us']
            exact ((hus.same s4).snoc e4 (h3.same s4)).bar Bar.at_ hd4
    · rintro σ H' ⟨_, rfl, b, us, hd', hus⟩
      rw [allLen, upTo_all] at hd' hus
      refine ⟨_, rfl, q d H' hd (fun c o e => ?_) ⟨us, hd', hus⟩⟩
      exact b c o (fun z => by rw [z, hd] at e; cases e) (sm _ _ e)
end
end Law
end
section
set_option Elab.async false
set_option linter.all false
set_option maxRecDepth 100000
set_option maxHeartbeats 4000000
namespace Law
open PySem PySem.Spec PyProof.Rows L2 IK SX
/-! ### how worlds and tables are shown -/
structure Fine (k w : Nat) (d : PyData) : Prop where
  ls : d.leavesShort 13 = true
  sh : d.showable = true
  nd : d.hasDict = false
  dp : d.depth ≤ k
  wt : d.weight ≤ w
theorem Fine.mono {k w k' w' : Nat} {d : PyData} (h : Fine k w d) (h1 : k ≤ k') (h2 : w ≤ w') : Fine k' w' d := ⟨h.ls, h.sh, h.nd, Nat.le_trans h.dp h1, Nat.le_trans h.wt h2⟩
theorem log_lt {n : Nat} (h : n < 1000000000000) : n.log2 < 40 := by
  by_cases h0 : n = 0
  · subst h0
    decide
  · exact (Nat.log2_lt h0).mpr (Nat.lt_trans h (by decide))
theorem fine_int {i : Int} (h : i.natAbs < 1000000000000) : Fine 0 41 (.int i) := by
  have hl := log_lt h
  refine ⟨?_, ?_, rfl, Nat.le_refl _, ?_⟩
  · show decide ((PyData.shown (.int i)).length ≤ 13) = true
    exact decide_eq_true (PyData.shown_int_le h)
  · show decide (i.natAbs.log2 < 1920) = true
    exact decide_eq_true (by omega)
  · show (if i == 0 then 0 else i.natAbs.log2 + 1) ≤ 41
    split <;> omega
theorem fine_name {l : List Nat} (h : isName l = true) : Fine 0 41 (.str (S l)) := by
  obtain ⟨h1, h2, h3⟩ := isName_len h
  refine ⟨?_, rfl, rfl, Nat.le_refl _, ?_⟩
  · show (l.all fun c => decide (c < 16 ^ 8)) = true
    rw [List.all_eq_true]
    intro c hc
    have := h3 c hc
    exact decide_eq_true (Nat.lt_of_le_of_lt this.2 (by decide))
  · show l.toArray.size ≤ 41
    have : l.toArray.size = l.length := by simp
    omega
theorem fine_all {k w : Nat} : ∀ {ds : List PyData}, (∀ d ∈ ds, Fine k w d) → PyData.leavesShortAll 13 ds = true ∧ PyData.showableAll ds = true ∧ PyData.hasDictAll ds = false ∧ PyData.depthAll ds ≤ k ∧ PyData.weightAll ds ≤ ds.length * (w + 1)
  | [], _ => ⟨rfl, rfl, rfl, Nat.zero_le _, by simp [PyData.weightAll]⟩
  | d :: ds, h => by
    obtain ⟨b1, b2, b3, b4, b5⟩ := fine_all (ds := ds) fun x hx => h x (List.mem_cons_of_mem _ hx)
    have a := h d List.mem_cons_self
    refine ⟨?_, ?_, ?_, ?_, ?_⟩
    · rw [PyData.leavesShortAll, a.ls, b1]; rfl
    · rw [PyData.showableAll, a.sh, b2]; rfl
    · rw [PyData.hasDictAll, a.nd, b3]; rfl
    · rw [PyData.depthAll]
      have := a.dp
      omega
    · rw [PyData.weightAll, List.length_cons, Nat.add_mul]
      have := a.wt
      omega
theorem fine_tup {k w n : Nat} {ds : List PyData} (h : ∀ d ∈ ds, Fine k w d) (hl : ds.length ≤ n) : Fine (k + 1) (n * (w + 1)) (.tuple ds) := by
  obtain ⟨b1, b2, b3, b4, b5⟩ := fine_all h
  refine ⟨b1, b2, b3, ?_, Nat.le_trans b5 (Nat.mul_le_mul_right _ hl)⟩
  rw [PyData.depth]
  omega
theorem fine_lst {k w n : Nat} {ds : List PyData} (h : ∀ d ∈ ds, Fine k w d) (hl : ds.length ≤ n) : Fine (k + 1) (n * (w + 1)) (.list ds) := by
  obtain ⟨b1, b2, b3, b4, b5⟩ := fine_all h
  refine ⟨b1, b2, b3, ?_, Nat.le_trans b5 (Nat.mul_le_mul_right _ hl)⟩
  rw [PyData.depth]
  omega
theorem Fine.fits {k w : Nat} {d : PyData} (h : Fine k w d) (hw : w ≤ 1000000) : d.shown.length ≤ sizeLine := PyData.shown_fits (B := 13) (by decide) (by decide) h.ls (Nat.le_trans h.wt (Nat.le_trans hw (by decide)))
def vD : V → PyData
  | .int i => .int i
  | .str x => .str x
  | _ => .none
/-- a number or a name -/
def Cell (v : V) : Prop := (∃ i : Int, v = .int i ∧ i.natAbs < 1000000000000) ∨ ∃ l, v = .str (S l) ∧ isName l = true
theorem cells_dp {K : PySem.W.Frag} {H : Hp} : ∀ {r : List V}, (∀ v ∈ r, Cell v) → DpAll K H r (r.map vD)
  | [], _ => .nil
  | v :: r, h => by
    refine .cons ?_ (cells_dp fun x hx => h x (List.mem_cons_of_mem _ hx))
    rcases h v List.mem_cons_self with ⟨i, rfl, _⟩ | ⟨l, rfl, _⟩
    · exact .int i
    · exact .str _
theorem cell_fine {v : V} (h : Cell v) : Fine 0 41 (vD v) := by
  rcases h with ⟨i, rfl, h⟩ | ⟨l, rfl, h⟩
  · exact fine_int h
  · exact fine_name h
def rowD (r : List V) : PyData := .tuple (r.map vD)
theorem row_fine {r : List V} (h : ∀ v ∈ r, Cell v) (hl : r.length ≤ 8) : Fine 1 336 (rowD r) := fine_tup (n := 8) (fun d hd => by
  obtain ⟨v, hv, rfl⟩ := List.mem_map.mp hd
  exact cell_fine (h v hv)) (by rw [List.length_map]; exact hl)
theorem rows_dp {K : PySem.W.Frag} {H : Hp} : ∀ {ys : List V} {rows : List (List V)}, RowsIs H ys rows → (∀ r ∈ rows, ∀ v ∈ r, Cell v) → DpAll K H ys (rows.map rowD)
  | [], [], _, _ => .nil
  | [], r :: rs, h, _ => by have := h.1; simp at this
  | y :: ys, [], h, _ => by have := h.1; simp at this
  | y :: ys, r :: rs, h, hc => by
    obtain ⟨a, rfl, ha⟩ := h.2 0 y r rfl rfl
    exact .cons (.tup (.inl (.inl ha)) (cells_dp (hc r List.mem_cons_self))) (rows_dp ⟨by simpa using h.1, fun i v e h1 h2 => h.2 (i + 1) v e (by simpa using h1) (by simpa using h2)⟩ fun x hx => hc x (List.mem_cons_of_mem _ hx))
def toldD (W : Wld) : PyData := .tuple [.int W.begin, .tuple (W.ports.map fun w => .str (S w)), .tuple ((W.chans.map Chan.vals).map rowD), .tuple ((W.brks.map Brk.vals).map rowD), .tuple ((W.shps.map Shp.row).map rowD)]
theorem cell_name {l : List Nat} (h : isName l = true) : Cell (.str (S l)) := .inr ⟨l, rfl, h⟩
theorem cell_int {i : Int} (h : -10000000 ≤ i ∧ i ≤ 1000000000) : Cell (.int i) := .inl ⟨i, rfl, by omega⟩
theorem chan_cells {c : Chan} (g : c.Good) : ∀ v ∈ c.vals, Cell v := by
  intro v hv
  have := g.hours; have := g.depth; have := g.first; have := g.growth; have := g.most
  simp only [Chan.vals, List.mem_cons, List.not_mem_nil, or_false] at hv
  rcases hv with rfl | rfl | rfl | rfl | rfl | rfl | rfl | rfl
  · exact cell_name g.name
  · exact cell_name g.one
  · exact cell_name g.other
  all_goals exact cell_int (by omega)
theorem brk_cells {c : Brk} (g : c.Good) : ∀ v ∈ c.vals, Cell v := by
  intro v hv
  have := g.ves.hour; have := g.ves.strength; have := g.ves.draught; have := g.cut
  simp only [Brk.vals, Ves.vals, List.cons_append, List.nil_append, List.mem_cons, List.not_mem_nil, or_false] at hv
  rcases hv with rfl | rfl | rfl | rfl | rfl | rfl
  · exact cell_name g.ves.name
  · exact cell_name g.ves.port
  all_goals exact cell_int (by omega)
theorem shp_cells {c : Shp} (g : c.Good) : ∀ v ∈ c.row, Cell v := by
  intro v hv
  have := g.ves.hour; have := g.ves.strength; have := g.ves.draught
  simp only [Shp.row, List.mem_cons, List.not_mem_nil, or_false] at hv
  rcases hv with rfl | rfl | rfl | rfl | rfl | rfl
  · exact cell_name g.ves.name
  · exact cell_name g.ves.port
  · exact cell_name g.goal
  all_goals exact cell_int (by omega)
theorem mems {α : Type} {f : α → List V} {l : List α} (h : ∀ a ∈ l, ∀ v ∈ f a, Cell v) : ∀ r ∈ l.map f, ∀ v ∈ r, Cell v := fun r hr => by
  obtain ⟨a, ha, rfl⟩ := List.mem_map.mp hr
  exact h a ha
theorem told_dp {K : PySem.W.Frag} {H : Hp} {a : Addr} {W : Wld} (h : ToldAt H a W) (g : W.Good) : Dp K H (.ref a) (toldD W) := by
  obtain ⟨ap, ac, ab, as, yc, yb, ys, h1, h2, h3, h4, h5, h6, h7, h8⟩ := h
  exact .tup (.inl (.inl h1)) (.cons (.int _) (.cons (.tup (.inl (.inl h2)) (dp_strs _)) (.cons (.tup (.inl (.inl h3)) (rows_dp h4 (mems fun c hc => chan_cells (g.good c hc))))
    (.cons (.tup (.inl (.inl h5)) (rows_dp h6 (mems fun c hc => brk_cells (g.bgood c hc)))) (.cons (.tup (.inl (.inl h7)) (rows_dp h8 (mems fun c hc => shp_cells (g.sgood c hc)))) .nil)))))
theorem told_fine {W : Wld} (g : W.Good) : Fine 3 20230 (toldD W) := by
  have h1 : ∀ {α : Type} {f : α → List V} {l : List α} {n : Nat}, (∀ a ∈ l, ∀ v ∈ f a, Cell v) → (∀ a, (f a).length ≤ 8) → l.length ≤ n → n ≤ 12 → Fine 2 4045 (.tuple ((l.map f).map rowD)) := fun h hf hl hn => (fine_tup (k := 1) (w := 336) (n := 12) (fun d hd => by
    obtain ⟨r, hr, rfl⟩ := List.mem_map.mp hd
    obtain ⟨a, ha, rfl⟩ := List.mem_map.mp hr
    exact row_fine (h a ha) (hf a)) (by rw [List.length_map, List.length_map]; omega)).mono (by decide) (by decide)
  refine (fine_tup (k := 2) (w := 4045) (n := 5) (fun d hd => ?_) (Nat.le_of_ble_eq_true rfl)).mono (by decide) (by decide)
  simp only [List.mem_cons, List.not_mem_nil, or_false] at hd
  rcases hd with rfl | rfl | rfl | rfl | rfl
  · exact (fine_int (by have := g.begin; omega)).mono (by decide) (by decide)
  · refine (fine_tup (k := 0) (w := 41) (n := 8) (fun d hd => ?_) (by rw [List.length_map]; exact g.ports.2)).mono (by decide) (by decide)
    obtain ⟨w, hw, rfl⟩ := List.mem_map.mp hd
    exact fine_name (g.names w hw)
  · exact h1 (fun c hc => chan_cells (g.good c hc)) (fun a => by simp) g.chans (by decide)
  · exact h1 (fun c hc => brk_cells (g.bgood c hc)) (fun a => by simp) g.brks (by decide)
  · exact h1 (fun c hc => shp_cells (g.sgood c hc)) (fun a => by simp) g.shps (by decide)
/-- repr of what a world tells -/
theorem repr_told {K : PySem.W.Frag} {H : Hp} {a : Addr} {W : Wld} {Q : VK} (h : ToldAt H a W) (g : W.Good) (q : Q (.str (toldD W).shown) H) : rRepr K [.ref a] H Q := by
  have f := told_fine g
  exact ⟨a, toldD W, rfl, told_dp h g, f.sh, f.nd, Nat.le_trans f.dp (by decide), f.fits (by decide), q⟩
/-! tables -/
/-- the data of a table's values -/
def EntsD (K : PySem.W.Frag) (H : Hp) (vs : List V) (T : Tab) (ds : List PyData) : Prop := vs.length = T.length ∧ ds.length = T.length ∧ ∀ (i : Nat) (v : V) (e : List Nat × List Ent) (d : PyData), vs[i]? = some v → T[i]? = some e → ds[i]? = some d →
  ∃ b ys, v = .ref b ∧ RowsIs H ys (e.2.map entV) ∧ ((SqL K H b ys ∧ d = .list ((e.2.map entV).map rowD)) ∨ (SqT K H b ys ∧ d = .tuple ((e.2.map entV).map rowD)))
theorem EntsD.nb {K : PySem.W.Frag} {H H' : Hp} {vs : List V} {T : Tab} {ds : List PyData} (h : EntsD K H vs T ds) (s : Nb H H') : EntsD K H' vs T ds := ⟨h.1, h.2.1, fun i v e d h1 h2 h3 => by
  obtain ⟨b, ys, e1, e2, e3⟩ := h.2.2 i v e d h1 h2 h3
  refine ⟨b, ys, e1, e2.nb s, ?_⟩
  rcases e3 with ⟨k, z⟩ | ⟨k, z⟩
  · refine .inl ⟨?_, z⟩
    rcases k with k | k
    · exact .inl (nb_rd s (nb_rows e2) k)
    · exact .inr k
  · refine .inr ⟨?_, z⟩
    rcases k with k | k
    · exact .inl (nb_rd s rfl k)
    · exact .inr k⟩
theorem entsD_of {K : PySem.W.Frag} {H : Hp} : ∀ {vs : List V} {T : Tab}, EntsAt K H vs T → ∃ ds, EntsD K H vs T ds
  | [], [], _ => ⟨[], rfl, rfl, fun i v e d h => by simp at h⟩
  | [], e :: T, h => by have := h.1; simp at this
  | v :: vs, [], h => by have := h.1; simp at this
  | v :: vs, e :: T, h => by
    obtain ⟨ds, k1, k2, k3⟩ := entsD_of (vs := vs) (T := T) ⟨by simpa using h.1, fun i v e h1 h2 => h.2 (i + 1) v e (by simpa using h1) (by simpa using h2)⟩
    obtain ⟨b, ys, e1, e2, e3⟩ := h.2 0 v e rfl rfl
    have key : ∃ d, (SqL K H b ys ∧ d = PyData.list ((e.2.map entV).map rowD)) ∨ (SqT K H b ys ∧ d = PyData.tuple ((e.2.map entV).map rowD)) := by
      rcases e2 with e2 | e2
      · exact ⟨_, .inl ⟨e2, rfl⟩⟩
      · exact ⟨_, .inr ⟨e2, rfl⟩⟩
    obtain ⟨d, hd⟩ := key
    refine ⟨d :: ds, by simp [k1], by simp [k2], fun i v' e' d' h1 h2 h3 => ?_⟩
    cases i with
    | zero =>
      obtain rfl : v = v' := by simpa using h1
      obtain rfl : e = e' := by simpa using h2
      obtain rfl : d = d' := by simpa using h3
      exact ⟨b, ys, e1, e3, hd⟩
    | succ i => exact k3 i v' e' d' (by simpa using h1) (by simpa using h2) (by simpa using h3)
/-- good entries: names of channels, hours far below -/
def EntsOk (T : Tab) : Prop := T.length ≤ 10 ∧ ∀ e ∈ T, isName e.1 = true ∧ e.2.length ≤ 12 ∧ ∀ x ∈ e.2, isName x.2 = true ∧ 0 ≤ x.1 ∧ x.1 ≤ 1000000000
theorem ent_cells {T : Tab} (h : EntsOk T) {e : List Nat × List Ent} (he : e ∈ T) : ∀ r ∈ e.2.map entV, ∀ v ∈ r, Cell v := fun r hr v hv => by
  obtain ⟨x, hx, rfl⟩ := List.mem_map.mp hr
  obtain ⟨k1, k2, k3⟩ := (h.2 e he).2.2 x hx
  simp only [entV, List.mem_cons, List.not_mem_nil, or_false] at hv
  rcases hv with rfl | rfl
  · exact cell_int (by omega)
  · exact cell_name k1
theorem entsD_dp {K : PySem.W.Frag} {H : Hp} : ∀ {vs : List V} {T : Tab} {ds : List PyData}, EntsD K H vs T ds → (∀ e ∈ T, ∀ r ∈ e.2.map entV, ∀ v ∈ r, Cell v) → (∀ e ∈ T, e.2.length ≤ 12) → DpAll K H vs ds ∧ ∀ d ∈ ds, Fine 2 4045 d
  | [], [], [], _, _, _ => ⟨.nil, fun _ h => by cases h⟩
  | [], [], d :: ds, h, _, _ => by have := h.2.1; simp at this
  | [], e :: T, _, h, _, _ => by have := h.1; simp at this
  | v :: vs, [], _, h, _, _ => by have := h.1; simp at this
  | v :: vs, e :: T, [], h, _, _ => by have := h.2.1; simp at this
  | v :: vs, e :: T, d :: ds, h, hc, hl => by
    obtain ⟨k1, k2⟩ := entsD_dp (vs := vs) (T := T) (ds := ds) ⟨by simpa using h.1, by simpa using h.2.1, fun i v e d h1 h2 h3 => h.2.2 (i + 1) v e d (by simpa using h1) (by simpa using h2) (by simpa using h3)⟩ (fun x hx => hc x (List.mem_cons_of_mem _ hx)) (fun x hx => hl x (List.mem_cons_of_mem _ hx))
    obtain ⟨b, ys, rfl, hr, hd⟩ := h.2.2 0 v e d rfl rfl rfl
    have c0 := hc e List.mem_cons_self
    have l0 := hl e List.mem_cons_self
    have f : ∀ x ∈ (e.2.map entV).map rowD, Fine 1 336 x := fun x hx => by
      obtain ⟨r, hr, rfl⟩ := List.mem_map.mp hx
      obtain ⟨y, hy, rfl⟩ := List.mem_map.mp hr
      exact row_fine (c0 _ hr) (by simp [entV])
    have len : ((e.2.map entV).map rowD).length ≤ 12 := by rw [List.length_map, List.length_map]; exact l0
    refine ⟨.cons ?_ k1, fun x hx => ?_⟩
    · rcases hd with ⟨k, rfl⟩ | ⟨k, rfl⟩
      · exact .lst k (rows_dp hr c0)
      · exact .tup k (rows_dp hr c0)
    · rcases List.mem_cons.mp hx with rfl | hx
      · rcases hd with ⟨k, rfl⟩ | ⟨k, rfl⟩
        · exact (fine_lst (n := 12) f len).mono (by decide) (by decide)
        · exact (fine_tup (n := 12) f len).mono (by decide) (by decide)
      · exact k2 x hx
theorem kv_fine {w : Nat} : ∀ {ks ds : List PyData}, (∀ d ∈ ks, Fine 0 41 d) → (∀ d ∈ ds, Fine 2 w d) → PyData.leavesShortKv 13 (ks.zip ds) = true ∧ PyData.showableKv (ks.zip ds) = true ∧ PyData.depthKv (ks.zip ds) ≤ 2 ∧ PyData.weightKv (ks.zip ds) ≤ ds.length * (w + 43)
  | [], ds, _, _ => ⟨rfl, rfl, Nat.zero_le _, by simp [PyData.weightKv]⟩
  | k :: ks, [], _, _ => ⟨rfl, rfl, Nat.zero_le _, by simp [PyData.weightKv]⟩
  | k :: ks, d :: ds, h1, h2 => by
    obtain ⟨b1, b2, b3, b4⟩ := kv_fine (ks := ks) (ds := ds) (fun x hx => h1 x (List.mem_cons_of_mem _ hx)) fun x hx => h2 x (List.mem_cons_of_mem _ hx)
    have a := h1 k List.mem_cons_self
    have c := h2 d List.mem_cons_self
    rw [List.zip_cons_cons]
    refine ⟨?_, ?_, ?_, ?_⟩
    · rw [PyData.leavesShortKv, a.ls, c.ls, b1]; rfl
    · rw [PyData.showableKv, a.sh, c.sh, b2]; rfl
    · rw [PyData.depthKv]
      have := a.dp
      have := c.dp
      omega
    · rw [PyData.weightKv, List.length_cons, Nat.add_mul]
      have := a.wt
      have := c.wt
      omega
/-- the dict of these names and these data -/
def tabDs (T : Tab) (ds : List PyData) : PyData := .dict ((T.map fun e => PyData.str (S e.1)).zip ds)
theorem tabDs_eq {T : Tab} {vs : List V} {ds : List PyData} (h : vs.length = T.length) : dictD (kvsOf T vs) ds = tabDs T ds := by
  unfold dictD tabDs kvsOf
  have e : (((T.map fun e => (Sum.inr (S e.1) : Key)).zip vs).map fun p => keyD p.1) = (((T.map fun e => (Sum.inr (S e.1) : Key)).zip vs).map (·.1)).map keyD := by rw [List.map_map]; rfl
  rw [e, List.map_fst_zip (by rw [List.length_map, h]; exact Nat.le_refl _), List.map_map]
  rfl
/-- repr of a table -/
theorem repr_tab {K : PySem.W.Frag} {H : Hp} {a : Addr} {T : Tab} {vs : List V} {ds : List PyData} {Q : VK} (h : H a = some (.dK (kvsOf T vs))) (hd : EntsD K H vs T ds) (ok : EntsOk T) (q : Q (.str (tabDs T ds).shown) H) : rReprM K [.ref a] H Q := by
  obtain ⟨k1, k2⟩ := entsD_dp hd (fun e he => ent_cells ok he) fun e he => (ok.2 e he).2.1
  obtain ⟨b1, b2, b3, b4⟩ := kv_fine (ks := T.map fun e => PyData.str (S e.1)) (ds := ds) (fun d hd => by
    obtain ⟨e, he, rfl⟩ := List.mem_map.mp hd
    exact fine_name (ok.2 e he).1) k2
  have e2 : (kvsOf T vs).map (·.2) = vs := by
    unfold kvsOf
    exact List.map_snd_zip (by rw [List.length_map, hd.1]; exact Nat.le_refl _)
  refine ⟨a, kvsOf T vs, ds, rfl, h, by rw [e2]; exact k1, ?_, (fine_all k2).2.2.1, ?_, ?_, ?_⟩
  · rw [tabDs_eq hd.1]
    exact b2
  · rw [tabDs_eq hd.1, tabDs, PyData.depth]
    omega
  · rw [tabDs_eq hd.1]
    refine PyData.shown_fits (B := 13) (by decide) (by decide) b1 ?_
    show PyData.weightKv _ ≤ 2 ^ 20
    have h1 : ds.length ≤ 10 := by rw [hd.2.1]; exact ok.1
    have h2 : ds.length * (4045 + 43) ≤ 10 * (4045 + 43) := Nat.mul_le_mul_right _ h1
    omega
  · rw [tabDs_eq hd.1]
    exact q
/-- all values lists -/
def tabDL (T : Tab) : PyData := tabDs T (T.map fun e => PyData.list ((e.2.map entV).map rowD))
theorem valsL_D {K : PySem.W.Frag} {H : Hp} {vs : List V} {T : Tab} (h : ValsL H vs T) : EntsD K H vs T (T.map fun e => PyData.list ((e.2.map entV).map rowD)) := ⟨h.1, List.length_map _, fun i v e d h1 h2 h3 => by
  obtain ⟨b, ys, e1, e2, e3⟩ := h.2 i v e h1 h2
  rw [List.getElem?_map, h2] at h3
  exact ⟨b, ys, e1, e3, .inl ⟨.inl (.inl e2), (Option.some.inj h3).symm⟩⟩⟩
theorem repr_tabL {K : PySem.W.Frag} {H : Hp} {a : Addr} {T : Tab} {Q : VK} (h : TabL H a T) (ok : EntsOk T) (q : Q (.str (tabDL T).shown) H) : rReprM K [.ref a] H Q := by
  obtain ⟨vs, h1, h2⟩ := h
  exact repr_tab h1 (valsL_D h2) ok q
end Law
end
section
set_option Elab.async false
set_option linter.all false
set_option maxRecDepth 100000
set_option maxHeartbeats 4000000
namespace Law
open PySem PySem.Spec PyProof.Rows L2 IK SX
/-! ### names for names, drawn -/
theorem nm_zip : ∀ {ns ws : List (List Nat)}, ((ns.map S).map Sum.inr : List Key).zip (txts ws) = nmKvs (ns.zip ws)
  | [], _ => rfl
  | n :: ns, [] => rfl
  | n :: ns, w :: ws => by
    exact congrArg ((Sum.inr (S n), V.str (S w)) :: ·) (nm_zip (ns := ns) (ws := ws))
theorem nm_keys (M : NM) : (nmKvs M).map (·.1) = (M.map (·.1)).map fun n => (Sum.inr (S n) : Key) := by
  unfold nmKvs
  rw [List.map_map, List.map_map]
  rfl
theorem nm_turn (M : NM) (x : Nat) : (nmKvs M).drop x ++ ((nmKvs M).take x).reverse = nmKvs (M.drop x ++ (M.take x).reverse) := by
  unfold nmKvs
  rw [List.map_append, List.map_reverse, List.map_drop, List.map_take]
theorem ngood_turn {ns ws : List (List Nat)} (x : Nat) (hl : ws.length = ns.length) (nd : ns.Nodup) (wd : ws.Nodup) (hw : ∀ w ∈ ws, isName w = true) (few : ns.length ≤ 12) : NGood ns ((ns.zip ws).drop x ++ ((ns.zip ws).take x).reverse) := by
  have k1 : (ns.zip ws).map (·.1) = ns := List.map_fst_zip (by omega)
  have k2 : (ns.zip ws).map (·.2) = ws := List.map_snd_zip (by omega)
  refine ⟨by rw [turn_len, List.length_zip]; omega, fun n hn => ?_, ?_, ?_, fun e he => ?_, few, fun e he => ?_⟩
  · rw [← k1] at hn
    obtain ⟨e, he, rfl⟩ := List.mem_map.mp hn
    refine ⟨e, ?_, rfl⟩
    rw [List.mem_append, List.mem_reverse, Or.comm, ← List.mem_append, List.take_append_drop]
    exact he
  · rw [List.map_append, List.map_reverse, List.map_drop, List.map_take, k1]
    exact turn_nd nd x
  · rw [List.map_append, List.map_reverse, List.map_drop, List.map_take, k2]
    exact turn_nd wd x
  · have h2 : e.2 ∈ (ns.zip ws).map (·.2) := List.mem_map_of_mem (turn_mem he)
    rw [k2] at h2
    exact hw _ h2
  · have h2 : e.1 ∈ (ns.zip ws).map (·.1) := List.mem_map_of_mem (turn_mem he)
    rw [k1] at h2
    exact h2
def spLawDict : Sp := fun vs H Q _ => ∃ (p l : Addr) (c : Nat) (ns : List (List Nat)), vs = [.ref p, .ref l] ∧ BoxAt H p c ∧ c < 80000 ∧ H l = some (.lst (txts ns)) ∧ ns.Nodup ∧ (∀ n ∈ ns, isName n = true) ∧ ns.length ≤ 12 ∧
  ∀ d M H', H d = none → H' d = some (.dK (nmKvs M)) → NGood ns M → BoxAt H' p (c + 20) → Bar p H H' → Q (.ref d) H'
section
variable {P : Program} {w : World} {K : PySem.W.Frag} {mg : Str → Option Value} {base : Heap}
theorem ok_lawDict {f : Addr} {fd : FuncData} (F : Fun K "_law_dict" "_law_dict" s__law_dict f fd) (B : Blt mg) (Bzip : mg "zip" = none) (DT : Dn P w K mg base CX0 1 "_law_take" ["_law_box_here", "_law_many"] spTake) (DN : Dn P w K mg base CX0 2 "_law_names" ["_law_box_here", "_law_many"] spNames) :
    FnOk P w K mg base CX0 3 f fd ["_law_box_here", "_law_names_here"] spLawDict := by
  refine F.ok sc__law_dict (fun vs H Q E h => ?_) (fun cdv A outer s H vs Q E hr h => ?_)
  · obtain ⟨p, l, c, ns, rfl, _⟩ := h
    rfl
  · obtain ⟨p, l, c, ns, rfl, hp, hc, hl, nd, nm, few, q⟩ := h
    refine ⟨_, (pss_cons (ps_set (i := 2) sc__law_dict.nd rfl (.inl rfl) (pe_d DT (hr.mono (by decide)) (by rfl) pass0 (pa_cons (pv 0) (pa_cons pe_int pa_nil))))
      (pss_cons (ps_set (i := 3) sc__law_dict.nd rfl (.inl rfl) (pe_d DT (hr.mono (by decide)) (by rfl) pass0 (pa_cons (pv 0) (pa_cons (pe_op op_add (pe_callB call_len_seq (by rfl) B.len PySem.boot_len (pa_cons (pv 1) pa_nil)) pe_int) pa_nil))))
      (pss_cons (ps_set (i := 4) sc__law_dict.nd rfl (.inl rfl) (pe_d DN (hr.mono (by decide)) (by rfl) pass0 (pa_cons (pv 0) (pa_cons (pe_callB call_len_seq (by rfl) B.len PySem.boot_len (pa_cons (pv 1) pa_nil)) pa_nil))))
      (pss_cons (ps_set (i := 5) sc__law_dict.nd rfl (.inl rfl) (pe_ix ix_list (pe_lst (pa_cons (pv 4) (pa_cons (pe_op op_cat (pe_callTy call_list_of (by rfl) B.list (by decide +kernel) (pa_cons (pe_slice sl_list (pv 1) (po_some (pv 3)) po_none) pa_nil)) (pe_callTy call_list_of (by rfl) B.list (by decide +kernel) (pa_cons (pe_slice sl_list (pv 1) po_none (po_some (pv 3))) pa_nil))) (pa_cons (pe_revL (pe_callTy call_list_of (by rfl) B.list (by decide +kernel) (pa_cons (pv 1) pa_nil))) (pa_cons (pe_revL (pv 4)) pa_nil))))) (pv 2) (fun _ _ => rfl)))
      (pss_cons (ps_set (i := 6) sc__law_dict.nd rfl (.inl rfl) (pe_listZip rfl (by rfl) B.list (by rfl) Bzip (pa_cons (pv 1) (pa_cons (pv 5) pa_nil))))
      (pss_one (ps_ret (pe_callTy (call_dictP rfl) (by rfl) B.dict (by decide +kernel) (pa_cons (pe_op op_cat (pe_slice sl_list (pv 6) (po_some (pv 3)) po_none) (pe_revL (pe_slice sl_list (pv 6) po_none (po_some (pv 3))))) pa_nil))))))))), ?_⟩
    have ltx : (txts ns).length = ns.length := by rw [txts, List.length_map]
    refine ⟨_, rfl, p, 4, c, rfl, hp, by omega, by decide, by decide, fun way H1 w0 w1 hp1 b1 => ?_⟩
    have hl1 := hp.nb b1 _ _ nb_txts hl
    refine ⟨_, rfl, _, rfl, l, _, rfl, .inl (.inl (.inl hl1)), _, _, rfl, rfl, p, _, _, rfl, hp1, by omega, by omega, by omega, fun r H2 q0 q1 hp2 b2 => ?_⟩
    obtain ⟨x, rfl⟩ := Int.eq_ofNat_of_zero_le q0
    have hx : x ≤ (txts ns).length := by omega
    have hl2 := hp1.nb b2 _ _ nb_txts hl1
    refine ⟨_, rfl, _, rfl, l, _, rfl, .inl (.inl (.inl hl2)), p, ns.length, _, by rw [ltx], hp2, by omega, few, fun fr fs H3 hfr0 hfr fl fnd fnm hp3 b3 => ?_⟩
    have hl3 := hp2.nb b3 _ _ nb_txts hl2
    have bb := b1.trans (b2.trans b3)
    refine ⟨_, rfl, _, rfl, _, rfl, _, rfl, l, _, rfl, .inl (.inl hl3), fun l1 hl1 => ?_⟩
    generalize hXq : upd _ l1 _ = H4
    have s4 := laid_same hXq hl1
    have e4 := laid_at hXq
    clear hXq
    rw [cutV_from hx] at e4
    refine ⟨l1, _, rfl, SqA.l e4, fun l2 hl2' => ?_⟩
    generalize hXq : upd _ l2 _ = H5
    have s5 := laid_same hXq hl2'
    have e5 := laid_at hXq
    clear hXq
    refine ⟨_, rfl, _, rfl, _, rfl, l, _, rfl, .inl (.inl (s5 _ _ (s4 _ _ hl3))), fun l3 hl3' => ?_⟩
    generalize hXq : upd _ l3 _ = H6
    have s6 := laid_same hXq hl3'
    have e6 := laid_at hXq
    clear hXq
    rw [cutV_to hx] at e6
    refine ⟨l3, _, rfl, SqA.l e6, fun l4 hl4' => ?_⟩
    generalize hXq : upd _ l4 _ = H7
    have s7 := laid_same hXq hl4'
    have e7 := laid_at hXq
    clear hXq
    refine ⟨l2, l4, _, _, rfl, rfl, s7 _ _ (s6 _ _ e5), e7, Nat.le_trans (show _ ≤ 100 by simp [ltx]; omega) (by decide), fun l5 hl5' => ?_⟩
    generalize hXq : upd _ l5 _ = H8
    have s8 := laid_same hXq hl5'
    have e8 := laid_at hXq
    clear hXq
    have s48 := s4.trans (s5.trans (s6.trans (s7.trans s8)))
    clear e4 e5 e6 e7 s4 s5 s6 s7 s8
    refine ⟨_, rfl, l, _, rfl, SqA.l (s48 _ _ hl3), fun m1 hm1 => ?_⟩
    generalize hXq : upd _ m1 _ = H9
    have s4 := laid_same hXq hm1
    have e4 := laid_at hXq
    clear hXq
    refine ⟨m1, _, rfl, SqL.of e4, fun m2 hm2 => ?_⟩
    generalize hXq : upd _ m2 _ = H10
    have s5 := laid_same hXq hm2
    have e5 := laid_at hXq
    clear hXq
    refine ⟨_, rfl, fr, _, rfl, SqL.of (s5 _ _ (s4 _ _ (s48 _ _ hfr))), fun m3 hm3 => ?_⟩
    generalize hXq : upd _ m3 _ = H11
    have s6 := laid_same hXq hm3
    have e6 := laid_at hXq
    clear hXq
    refine ⟨Nat.le_of_ble_eq_true rfl, fun o ho => ?_⟩
    generalize hXq : upd _ o _ = H12
    have s7 := laid_same hXq ho
    have e7 := laid_at hXq
    clear hXq
    obtain ⟨y, hy, hym⟩ := at_drawn (xs := [V.ref fr, V.ref l5, V.ref m2, V.ref m3]) w0 w1
    have sm := s48.trans (s4.trans (s5.trans (s6.trans s7)))
    obtain ⟨z, ws, rfl, hz, wl, wd, wn⟩ : ∃ z ws, y = .ref z ∧ H12 z = some (.lst (txts ws)) ∧ ws.length = ns.length ∧ ws.Nodup ∧ ∀ w ∈ ws, isName w = true := by
      simp only [List.mem_cons, List.not_mem_nil, or_false] at hym
      rcases hym with rfl | rfl | rfl | rfl
      · exact ⟨fr, fs, rfl, sm _ _ hfr, fl, fnd, fnm⟩
      · refine ⟨l5, ns.drop x ++ ns.take x, rfl, ?_, by simp; omega, ?_, fun w hw => ?_⟩
        · rw [s7 _ _ (s6 _ _ (s5 _ _ (s4 _ _ e8)))]
          simp only [txts, List.map_append, List.map_drop, List.map_take]
        · have p : (ns.drop x ++ ns.take x).Perm ns := by
            have := List.perm_append_comm (l₁ := ns.drop x) (l₂ := ns.take x)
            rwa [List.take_append_drop] at this
          exact p.nodup_iff.mpr nd
        · rw [List.mem_append, Or.comm, ← List.mem_append, List.take_append_drop] at hw
          exact nm w hw
      · refine ⟨m2, ns.reverse, rfl, ?_, by simp, (List.reverse_perm _).nodup_iff.mpr nd, fun w hw => nm w (List.mem_reverse.mp hw)⟩
        rw [s7 _ _ (s6 _ _ e5)]
        simp only [txts, List.map_reverse]
      · refine ⟨m3, fs.reverse, rfl, ?_, by simp [fl], (List.reverse_perm _).nodup_iff.mpr fnd, fun w hw => fnm w (List.mem_reverse.mp hw)⟩
        rw [s7 _ _ e6]
        simp only [txts, List.map_reverse]
    refine ⟨_, rfl, o, _, way, _, rfl, rfl, SqL.of e7, hy, ?_⟩
    refine ⟨_, rfl, _, rfl, l, z, ns.map S, txts ws, rfl, ?_, SqL.of hz, ?_, fun H13 pr ts k1 k2 k3 k4 k5 k6 => ?_⟩
    · have := sm _ _ hl3
      rw [show (ns.map S).map V.str = txts ns by rw [List.map_map]; rfl]
      exact SqL.of this
    · rw [List.length_map, txts, List.length_map, wl]
    have lts : ts.length = ns.length := by
      have := Paired.length k6
      rw [List.length_zip, List.length_map, List.length_map, txts, List.length_map, wl, Nat.min_self] at this
      exact this
    have hx' : x ≤ (ts.map V.ref).length := by rw [List.length_map, lts, ← ltx]; exact hx
    have k1' : Same H12 H13 := k1
    refine ⟨_, rfl, _, rfl, _, rfl, pr, _, rfl, SqL.of k5, fun n1 hn1 => ?_⟩
    generalize hXq : upd _ n1 _ = G1
    have t1 := laid_same hXq hn1
    have f1 := laid_at hXq
    clear hXq
    refine ⟨_, rfl, _, rfl, _, rfl, pr, _, rfl, SqL.of (t1 _ _ k5), fun n2 hn2 => ?_⟩
    generalize hXq : upd _ n2 _ = G2
    have t2 := laid_same hXq hn2
    have f2 := laid_at hXq
    clear hXq
    refine ⟨n2, _, rfl, SqL.of f2, fun n3 hn3 => ?_⟩
    generalize hXq : upd _ n3 _ = G3
    have t3 := laid_same hXq hn3
    have f3 := laid_at hXq
    clear hXq
    rw [cutV_from hx'] at f1
    rw [cutV_to hx'] at f3
    refine ⟨n1, n3, _, _, rfl, rfl, t3 _ _ (t2 _ _ f1), f3, Nat.le_trans (show _ ≤ 100 by simp [lts]; omega) (by decide), fun n4 hn4 => ?_⟩
    generalize hXq : upd _ n4 _ = G4
    have t4 := laid_same hXq hn4
    have f4 := laid_at hXq
    clear hXq
    have st := t1.trans (t2.trans (t3.trans t4))
    have f5 : G4 n4 = some (.lst ((ts.drop x ++ (ts.take x).reverse).map V.ref)) := by
      rw [f4]
      simp only [List.map_append, List.map_drop, List.map_reverse, List.map_take]
    have pr4 : Paired (fun (t : Addr) (kv : Key × V) => SqT K G4 t [kV kv.1, kv.2]) (ts.drop x ++ (ts.take x).reverse) (nmKvs ((ns.zip ws).drop x ++ ((ns.zip ws).take x).reverse)) := by
      rw [← nm_turn, ← nm_zip]
      exact paired_turn (L2.Paired.mapP k6 fun t kv h => .inl (.inl (st _ _ h))) x
    refine ⟨n4, _, _, rfl, SqL.of f5, pr4, fun d hd => ?_⟩
    generalize hXq : upd _ d _ = G5
    have t5 := laid_same hXq hd
    have f6 := laid_at hXq
    clear hXq
    have g := ngood_turn x wl nd wd wn few
    generalize (ns.zip ws).drop x ++ ((ns.zip ws).take x).reverse = M at f6 g
    rw [mergeK_new _ _ (by
      rw [List.nil_append, nm_keys]
      exact inr_nd g.keys), List.nil_append] at f6
    have sall := sm.trans (k1'.trans (st.trans t5))
    exact q d M G5 (bb_none bb hp3 (none_back (sm.trans (k1'.trans st)) hd)) f6 g ((hp3.same sall).mono (by omega)) (bb.trans (Bar.same sall))
end
end Law
end
section
set_option Elab.async false
set_option linter.all false
set_option maxRecDepth 100000
set_option maxHeartbeats 4000000
namespace Law
open PySem PySem.Spec PyProof.Rows L2 IK SX
/-! ### comprehensions over the items of a dict -/
/-- tuples and lists but at D stay -/
def Kp2 (D : Addr) (H H' : Hp) : Prop := ∀ b o, b ≠ D → ((∃ l, o = .tup l) ∨ ∃ l, o = .lst l) → H b = some o → H' b = some o
theorem Kp2.same {D : Addr} {H H' : Hp} (s : Same H H') : Kp2 D H H' := fun b o _ _ e => s b o e
theorem Kp2.upd {D : Addr} {H : Hp} {o : HO} : Kp2 D H (upd H D o) := fun b u n _ e => by rw [upd_ne n]; exact e
theorem Kp2.unlock {D d : Addr} {H : Hp} {o u : HO} (h : H d = some o) (n1 : ∀ l, o ≠ .tup l) (n2 : ∀ l, o ≠ .lst l) : Kp2 D H (L2.upd H d u) := fun b v _ hv e => by
  rw [upd_ne (fun z => by
    rw [z, h] at e
    have e := Option.some.inj e
    rcases hv with ⟨l, rfl⟩ | ⟨l, rfl⟩
    · exact n1 l e
    · exact n2 l e)]
  exact e
theorem lc_items {g : TG} {te : TE} {vs : List Nat} {σ : L2.St} {H : Hp} {d : Addr} {od : Obj} {kvs : List (Key × V)} {Qd : Addr → Hp → Prop} (F : Addr → Nat → V → Hp → Prop) (hd : H d = some (.dK kvs)) (hn : kvs.length < sizeLine) (hM : ∀ D i y H H', Kp2 D H H' → F D i y H → F D i y H')
    (hs : ∀ D i t k v J (kont : V → Hp → Prop), kvs[i]? = some (k, v) → J D ≠ none → Same (upd H d (.frz od (.dK kvs))) J → J t = some (.tup [kV k, v]) → (∀ y H4, Same J H4 → F D i y H4 → kont y H4) → g (.ref t) (wipe σ vs) J fun σ2 H2 => wipe σ2 vs = wipe σ vs ∧ te σ2 H2 kont)
    (hq : ∀ D ys H', H D = none → Same H H' → H' D = some (.lst ys) → ys.length = kvs.length → (∀ (i : Nat) (y : V), ys[i]? = some y → F D i y H') → Qd D H') :
    ∀ D, upd H d (.frz od (.dK kvs)) D = none → ∃ W : Nat → Nat → Hp → Prop, (∃ m, W 0 m (upd (upd H d (.frz od (.dK kvs))) D (.lst []))) ∧ ∀ i m J, W i m J →
      ((Iti d od kvs).stop i J ∧ (J d = some (.frz od (.dK kvs)) ∧ Qd D (upd J d (.dK kvs)))) ∨ ((Iti d od kvs).go i J ∧ ∃ Nx : Hp → Prop, (∀ H', Nx H' → ∃ m', m' < m ∧ W (i + 1) m' H') ∧ ∀ x H', (Iti d od kvs).yld i J x H' → g x (wipe σ vs) H' fun σ2 H2 => wipe σ2 vs = wipe σ vs ∧ tYes σ2 H2 fun b H3 =>
        if b = true then te σ2 H3 fun y H4 => ∃ acc, H4 D = some (.lst acc) ∧ acc.length < sizeLine ∧ Nx (upd H4 D (.lst (acc ++ [y]))) else Nx H3) := by
  intro D hD
  have nDd : D ≠ d := fun z => by rw [z, upd_same] at hD; cases hD
  have hD0 : H D = none := by rwa [upd_ne nDd] at hD
  refine lc_it walk_items (fun i J => Same (upd H d (.frz od (.dK kvs))) J ∧ i ≤ kvs.length ∧ ∃ acc, J D = some (.lst acc) ∧ acc.length = i ∧ ∀ (j : Nat) (y : V), acc[j]? = some y → F D j y J) ?_ ?_ ?_ ?_
  · exact ⟨same_new hD, Nat.zero_le _, [], upd_same, rfl, fun j y h => by simp at h⟩
  · rintro i J _ ⟨s, _⟩
    exact s _ _ upd_same
  · rintro i x J J' hi ⟨s, _, acc, hA, ha, hf⟩ ⟨t, kx, v, rfl, ht, rfl, hk, hv⟩
    dsimp only at hk hv
    rw [List.getElem?_eq_getElem hi] at hk hv
    have hk : kV (kvs[i]).1 = kx := Option.some.inj hk
    have hv : (kvs[i]).2 = v := Option.some.inj hv
    have st : Same J (upd J t (.tup [kx, v])) := same_new ht
    have tD : t ≠ D := fun z => by rw [z, hA] at ht; cases ht
    refine hs D i t (kvs[i]).1 (kvs[i]).2 _ _ (List.getElem?_eq_getElem hi) (by rw [upd_ne (Ne.symm tD), hA]; exact fun z => by cases z) (s.trans st) (by rw [upd_same, hk, hv]) fun y H4 s4 f4 => ?_
    have hA4 := s4 _ _ (st _ _ hA)
    refine ⟨acc, hA4, by omega, ?_, hi, acc ++ [y], upd_same, by simp [ha], fun j y' hy' => ?_⟩
    · intro b o e
      rw [upd_ne (ne_of_none e hD)]
      exact s4 _ _ (st _ _ (s _ _ e))
    · by_cases hj : j < acc.length
      · rw [List.getElem?_append_left hj] at hy'
        exact hM _ _ _ _ _ Kp2.upd (hM _ _ _ _ _ (Kp2.same (st.trans s4)) (hf j y' hy'))
      · rw [List.getElem?_append_right (by omega)] at hy'
        have e2 : j - acc.length = 0 := by
          have := (List.getElem?_eq_some_iff.mp hy').1
          simp at this
          omega
        have e3 : j = i := by omega
        rw [e2] at hy'
        have e4 : y = y' := by simpa using hy'
        subst e3 e4
        exact hM _ _ _ _ _ Kp2.upd f4
  · rintro J ⟨s, _, acc, hA, ha, hf⟩
    have hJ := s _ _ upd_same
    refine ⟨hJ, hq D acc _ hD0 (fun b o e => ?_) (by rw [upd_ne nDd]; exact hA) ha fun i y h => hM _ _ _ _ _ (Kp2.unlock hJ (fun _ z => by cases z) (fun _ z => by cases z)) (hf i y h)⟩
    by_cases z : b = d
    · rw [z, upd_same, ← e, z, hd]
    · rw [upd_ne z]
      exact s b o (by rw [upd_ne z]; exact e)
/-- pairs of what is each of ys -/
theorem pairs_of : ∀ {ys : List V} {kvs : List (Key × V)} {G : Nat → Addr → Key × V → Prop}, ys.length = kvs.length → (∀ (i : Nat) (y : V) (kv : Key × V), ys[i]? = some y → kvs[i]? = some kv → ∃ t, y = .ref t ∧ G i t kv) →
    ∃ ts : List Addr, ys = ts.map V.ref ∧ ts.length = kvs.length ∧ ∀ (i : Nat) (t : Addr) (kv : Key × V), ts[i]? = some t → kvs[i]? = some kv → G i t kv
  | [], [], _, _, _ => ⟨[], rfl, rfl, fun i t kv h => by simp at h⟩
  | [], _ :: _, _, h, _ => by cases h
  | _ :: _, [], _, h, _ => by cases h
  | y :: ys, kv :: kvs, G, h, f => by
    obtain ⟨t, rfl, g⟩ := f 0 y kv rfl rfl
    obtain ⟨ts, e1, e2, e3⟩ := pairs_of (G := fun i => G (i + 1)) (Nat.succ.inj h) fun i y kv h1 h2 => f (i + 1) y kv (by simpa using h1) (by simpa using h2)
    refine ⟨t :: ts, by rw [e1]; rfl, by simp [e2], fun i t' kv' h1 h2 => ?_⟩
    cases i with
    | zero =>
      obtain rfl : t = t' := by simpa using h1
      obtain rfl : kv = kv' := by simpa using h2
      exact g
    | succ i => exact e3 i t' kv' (by simpa using h1) (by simpa using h2)
theorem ex_list {n : Nat} {G : Nat → V → Prop} (h : ∀ i, i < n → ∃ v, G i v) : ∃ l : List V, l.length = n ∧ ∀ i v, l[i]? = some v → G i v := by
  induction n with
  | zero => exact ⟨[], rfl, fun i v h => by simp at h⟩
  | succ n ih =>
    obtain ⟨l, h1, h2⟩ := ih fun i hi => h i (by omega)
    obtain ⟨v, hv⟩ := h n (by omega)
    refine ⟨l ++ [v], by simp [h1], fun i u hu => ?_⟩
    by_cases hi : i < l.length
    · rw [List.getElem?_append_left hi] at hu
      exact h2 i u hu
    · rw [List.getElem?_append_right (by omega)] at hu
      have e : i - l.length = 0 := by
        have := (List.getElem?_eq_some_iff.mp hu).1
        simp at this
        omega
      rw [e] at hu
      obtain rfl : v = u := by simpa using hu
      have : i = n := by omega
      rw [this]
      exact hv
theorem paired_of {α β : Type} {F : α → β → Prop} : ∀ {xs : List α} {ys : List β}, xs.length = ys.length → (∀ (i : Nat) (x : α) (y : β), xs[i]? = some x → ys[i]? = some y → F x y) → Paired F xs ys
  | [], [], _, _ => .nil
  | [], _ :: _, h, _ => by cases h
  | _ :: _, [], h, _ => by cases h
  | x :: xs, y :: ys, h, f => .cons (f 0 x y rfl rfl) (paired_of (Nat.succ.inj h) fun i a b h1 h2 => f (i + 1) a b (by simpa using h1) (by simpa using h2))
def NM.back (M : NM) : NM := M.map fun e => (e.2, e.1)
/-- list(x) of a list or tuple -/
def rLstOf (K : PySem.W.Frag) : List V → Hp → VK → Prop := fun xs H Q => ∃ p ys, xs = [.ref p] ∧ (SqL K H p ys ∨ SqT K H p ys) ∧ ∀ l, H l = none → Q (.ref l) (upd H l (.lst ys))
def spLawBack : Sp := fun vs H Q _ => ∃ (a : Addr) (M : NM), vs = [.ref a] ∧ H a = some (.dK (nmKvs M)) ∧ (M.map (·.2)).Nodup ∧ M.length ≤ 12 ∧ ∀ d H', H d = none → Same H H' → H' d = some (.dK (nmKvs M.back)) → Q (.ref d) H'
def spLawCopy (K : PySem.W.Frag) : Sp := fun vs H Q _ => ∃ (a : Addr) (T : Tab), vs = [.ref a] ∧ TabAt K H a T ∧ (T.map (·.1)).Nodup ∧ T.length ≤ 10 ∧ ∀ d H', H d = none → Same H H' → TabL H' d T → Q (.ref d) H'
section
variable {P : Program} {w : World} {K : PySem.W.Frag} {mg : Str → Option Value} {base : Heap}
theorem ok_lawBack {f : Addr} {fd : FuncData} (F : Fun K "_law_back" "_law_back" s__law_back f fd) (B : Blt mg) : FnOk P w K mg base CX0 1 f fd ["_law_names_here"] spLawBack := by
  refine F.ok sc__law_back (fun vs H Q E h => ?_) (fun cdv A outer s H vs Q E hr h => ?_)
  · obtain ⟨a, M, rfl, _⟩ := h
    rfl
  · obtain ⟨a, M, rfl, ha, nd, few, q⟩ := h
    refine ⟨_, (pss_one (ps_ret (pe_callTy (call_dictP rfl) (by rfl) B.dict (by decide +kernel) (pa_cons (pe_lock (pe_lc (own := [("_law_name", 1), ("_law_other", 2)]) (g := gTup K 2 (gCons (gName 1) (gCons (gName 2) gNil))) (tt := tYes) rfl sc__law_back.nd (pi_items (pv 0)) (blkOk_by (N := ["_law_names_here", "_law_name", "_law_other"]) (sc := defScope s__law_back) (by decide +kernel)) (fun _ _ _ _ _ => pg_tup rfl (pgs_cons (pg_name (i := 1) sc__law_back.nd rfl (Or.inl rfl)) (pgs_cons (pg_name (i := 2) sc__law_back.nd rfl (Or.inl rfl)) pgs_nil))) (fun _ _ _ _ _ => pts_nil) (fun _ _ _ _ _ => (pe_tup (pa_cons (pv 2) (pa_cons (pv 1) pa_nil)))))) pa_nil)))), ?_⟩
    have lk : (nmKvs M).length ≤ 12 := by unfold nmKvs; rw [List.length_map]; exact few
    refine ⟨a, _, ha, trivial, fun od => ?_⟩
    refine ⟨_, rfl, a, od, _, rfl, upd_same, lc_items (fun D i y H' => ∃ t e, y = .ref t ∧ M[i]? = some e ∧ t ≠ D ∧ H' t = some (.tup [.str (S e.2), .str (S e.1)])) ha (Nat.lt_of_le_of_lt lk (by decide)) (fun D i y H H' k ⟨t, e, h1, h2, h3, h4⟩ => ⟨t, e, h1, h2, h3, k _ _ h3 (.inl ⟨_, rfl⟩) h4⟩) ?_ ?_⟩
    · intro D i t k v J kont hkv hD s1 ht kq
      unfold nmKvs at hkv
      rw [List.getElem?_map] at hkv
      cases hM : M[i]? with
      | none => rw [hM] at hkv; cases hkv
      | some e =>
      rw [hM] at hkv
      obtain ⟨rfl, rfl⟩ : Sum.inr (S e.1) = k ∧ V.str (S e.2) = v := by
        have := Option.some.inj hkv
        exact ⟨congrArg Prod.fst this, congrArg Prod.snd this⟩
      refine ⟨t, _, rfl, .inl (.inl ht), rfl, _, _, rfl, _, _, rfl, rfl, rfl, ?_⟩
      refine ⟨_, rfl, _, rfl, ?_⟩
      refine ⟨Nat.le_of_ble_eq_true rfl, fun o ho => ?_⟩
      generalize hXq : upd _ o _ = J2
      have s2 := laid_same hXq ho
      have e2 := laid_at hXq
      clear hXq
      exact kq _ _ s2 ⟨o, e, rfl, hM, fun z => hD (by rw [← z]; exact ho), e2⟩
    intro D ys H1 hD s1 hy hl hf
    have lb : M.back.length = M.length := by unfold NM.back; rw [List.length_map]
    have lkb : (nmKvs M.back).length = M.length := by unfold nmKvs; rw [List.length_map, lb]
    have lkm : (nmKvs M).length = M.length := by unfold nmKvs; rw [List.length_map]
    obtain ⟨ts, rfl, ht1, ht2⟩ := pairs_of (kvs := nmKvs M.back) (G := fun _ t kv => H1 t = some (.tup [kV kv.1, kv.2])) (by rw [hl, lkm, lkb]) (fun i y kv h1 h2 => by
      obtain ⟨t, e, rfl, hM, _, ht⟩ := hf i y h1
      unfold nmKvs NM.back at h2
      rw [List.getElem?_map, List.getElem?_map, hM] at h2
      obtain rfl := Option.some.inj h2
      exact ⟨t, rfl, ht⟩)
    refine ⟨D, ts, nmKvs M.back, rfl, SqL.of hy, paired_of ht1 (fun i t kv h1 h2 => .inl (.inl (ht2 i t kv h1 h2))), fun o ho => ?_⟩
    generalize hXq : upd _ o _ = H2
    have s2 := laid_same hXq ho
    have e2 := laid_at hXq
    clear hXq
    have kb : M.back.map (·.1) = M.map (·.2) := by unfold NM.back; rw [List.map_map]; rfl
    rw [mergeK_new _ _ (by
      rw [List.nil_append, nm_keys, kb]
      exact inr_nd nd), List.nil_append] at e2
    exact q o H2 (none_back s1 ho) (s1.trans s2) e2
theorem ok_lawCopy {f : Addr} {fd : FuncData} (F : Fun K "_law_copy" "_law_copy" s__law_copy f fd) (B : Blt mg) : FnOk P w K mg base CX0 1 f fd ["_law_table_here"] (spLawCopy K) := by
  refine F.ok sc__law_copy (fun vs H Q E h => ?_) (fun cdv A outer s H vs Q E hr h => ?_)
  · obtain ⟨a, T, rfl, _⟩ := h
    rfl
  · obtain ⟨a, T, rfl, ⟨us, ha, hv⟩, nd, few, q⟩ := h
    refine ⟨_, (pss_one (ps_ret (pe_callTy (call_dictP rfl) (by rfl) B.dict (by decide +kernel) (pa_cons (pe_lock (pe_lc (own := [("_law_name", 1), ("_law_entries", 2)]) (g := gTup K 2 (gCons (gName 1) (gCons (gName 2) gNil))) (tt := tYes) rfl sc__law_copy.nd (pi_items (pv 0)) (blkOk_by (N := ["_law_table_here", "_law_name", "_law_entries"]) (sc := defScope s__law_copy) (by decide +kernel)) (fun _ _ _ _ _ => pg_tup rfl (pgs_cons (pg_name (i := 1) sc__law_copy.nd rfl (Or.inl rfl)) (pgs_cons (pg_name (i := 2) sc__law_copy.nd rfl (Or.inl rfl)) pgs_nil))) (fun _ _ _ _ _ => pts_nil) (fun _ _ _ _ _ => (pe_tup (pa_cons (pv 1) (pa_cons (pe_callTy (show CallR _ (.type "list") (rLstOf K) from call_list_of) (by rfl) B.list (by decide +kernel) (pa_cons (pv 2) pa_nil)) pa_nil)))))) pa_nil)))), ?_⟩
    have lk := kvsOf_len hv.1
    refine ⟨a, _, ha, trivial, fun od => ?_⟩
    refine ⟨_, rfl, a, od, _, rfl, upd_same, lc_items (fun D i y H' => ∃ t l zs e, y = .ref t ∧ T[i]? = some e ∧ t ≠ D ∧ l ≠ D ∧ H' t = some (.tup [.str (S e.1), .ref l]) ∧ H' l = some (.lst zs) ∧ RowsIs H zs (e.2.map entV)) ha (Nat.lt_of_le_of_lt (show _ ≤ 10 by rw [lk]; exact few) (by decide))
      (fun D i y H H' k ⟨t, l, zs, e, h1, h2, h3, h4, h5, h6, h7⟩ => ⟨t, l, zs, e, h1, h2, h3, h4, k _ _ h3 (.inl ⟨_, rfl⟩) h5, k _ _ h4 (.inr ⟨_, rfl⟩) h6, h7⟩) ?_ ?_⟩
    · intro D i t k v J kont hkv hD s1 ht kq
      have hi : i < T.length := by rw [← lk]; exact (List.getElem?_eq_some_iff.mp hkv).1
      rw [kvsOf_at hv.1 hi] at hkv
      obtain ⟨rfl, hvv⟩ : Sum.inr (S (T[i]).1) = k ∧ us[i]'(by rw [hv.1]; exact hi) = v := by
        have := Option.some.inj hkv
        exact ⟨congrArg Prod.fst this, congrArg Prod.snd this⟩
      obtain ⟨b, zs, e1, e2', e3⟩ := hv.2 i v T[i] (by rw [← hvv]; exact List.getElem?_eq_getElem _) (List.getElem?_eq_getElem hi)
      have e2 := sqA_kp e2' (kp_bar (Bar.at_ (o := .frz od (.dK (kvsOf T us)))) ha)
      refine ⟨t, _, rfl, .inl (.inl ht), rfl, _, _, rfl, _, _, rfl, rfl, rfl, ?_⟩
      refine ⟨_, rfl, _, rfl, b, _, by rw [e1], e2.same s1, fun l hl => ?_⟩
      generalize hXq : upd _ l _ = J2
      have s2 := laid_same hXq hl
      have f2 := laid_at hXq
      clear hXq
      refine ⟨Nat.le_of_ble_eq_true rfl, fun o ho => ?_⟩
      generalize hXq : upd _ o _ = J3
      have s3 := laid_same hXq ho
      have f3 := laid_at hXq
      clear hXq
      refine kq _ _ (s2.trans s3) ⟨o, l, zs, T[i], rfl, List.getElem?_eq_getElem hi, fun z => ?_, fun z => hD (by rw [← z]; exact hl), f3, s3 _ _ f2, e3⟩
      rw [z] at ho
      exact hD (none_back s2 ho)
    intro D ys H1 hD s1 hy hl hf
    rw [lk] at hl
    obtain ⟨ls, ll, hls⟩ := ex_list (n := T.length) (G := fun i v => ∃ t l zs e, ys[i]? = some (.ref t) ∧ v = .ref l ∧ T[i]? = some e ∧ H1 t = some (.tup [.str (S e.1), .ref l]) ∧ H1 l = some (.lst zs) ∧ RowsIs H zs (e.2.map entV)) (fun i hi => by
      have hi2 : i < ys.length := by rw [hl]; exact hi
      obtain ⟨t, l, zs, e, h1, h2, _, _, h5, h6, h7⟩ := hf i ys[i] (List.getElem?_eq_getElem hi2)
      exact ⟨.ref l, t, l, zs, e, by rw [List.getElem?_eq_getElem hi2, h1], rfl, h2, h5, h6, h7⟩)
    obtain ⟨ts, rfl, ht1, ht2⟩ := pairs_of (kvs := kvsOf T ls) (G := fun _ t kv => H1 t = some (.tup [kV kv.1, kv.2])) (by rw [hl, kvsOf_len ll]) (fun i y kv h1 h2 => by
      have hi : i < T.length := by rw [← hl]; exact (List.getElem?_eq_some_iff.mp h1).1
      have hi2 : i < ls.length := by rw [ll]; exact hi
      obtain ⟨t, l, zs, e, g1, g2, g3, g4, g5, g6⟩ := hls i ls[i] (List.getElem?_eq_getElem hi2)
      rw [kvsOf_at ll hi] at h2
      obtain rfl := Option.some.inj h2
      rw [h1] at g1
      obtain rfl := Option.some.inj g1
      rw [List.getElem?_eq_getElem hi] at g3
      obtain rfl := Option.some.inj g3
      refine ⟨t, rfl, ?_⟩
      show H1 t = some (.tup [.str (S T[i].1), ls[i]])
      rw [g2]
      exact g4)
    refine ⟨D, ts, kvsOf T ls, rfl, SqL.of hy, paired_of ht1 (fun i t kv h1 h2 => .inl (.inl (ht2 i t kv h1 h2))), fun o ho => ?_⟩
    generalize hXq : upd _ o _ = H2
    have s2 := laid_same hXq ho
    have e2 := laid_at hXq
    clear hXq
    rw [mergeK_new _ _ (by
      rw [List.nil_append]
      unfold kvsOf
      rw [List.map_fst_zip (by rw [List.length_map, ll]; exact Nat.le_refl _), show (T.map fun e => (Sum.inr (S e.1) : Key)) = (T.map (·.1)).map fun n => (Sum.inr (S n) : Key) by rw [List.map_map]; rfl]
      exact inr_nd nd), List.nil_append] at e2
    refine q o H2 (none_back s1 ho) (s1.trans s2) ⟨ls, e2, ll, fun i v e h1 h2 => ?_⟩
    obtain ⟨t, l, zs, e', g1, g2, g3, g4, g5, g6⟩ := hls i v h1
    rw [h2] at g3
    obtain rfl := Option.some.inj g3
    exact ⟨l, zs, g2, s2 _ _ g5, g6.same (s1.trans s2)⟩
end
end Law
end
section
set_option Elab.async false
set_option linter.all false
set_option maxRecDepth 100000
set_option maxHeartbeats 4000000
namespace Law
open PySem PySem.Spec PyProof.Rows L2 IK SX
/-! ### what is due -/
def tLockV (te : TE) : TE := fun σ H Q => te σ H fun x H1 => ∃ d u, x = .ref d ∧ H1 d = some u ∧ Mut (some u) ∧ ∀ od, Q x (upd H1 d (.frz od u))
theorem pe_lockV {X : Cx} {e : Expr} {te : TE} (he : PE X e te) : PE X e (tLockV te) := ⟨fun pins s σ H Q I h => by
  refine thn (he.run pins s σ H _ I h) fun v s1 z => ?_
  obtain ⟨x, H1, I1, r, d, u, rfl, hd, mu, q⟩ := z
  obtain ⟨od, I2⟩ := I1.lock hd mu
  exact ⟨_, _, I2, r, q od⟩⟩
def spDue : Sp := fun vs H Q _ => ∃ (t a b c : Addr) (W : Wld) (P C N : NM), vs = [.ref t, .ref a, .ref b, .ref c] ∧ ToldAt H t W ∧ W.Good ∧ H a = some (.dK (nmKvs P)) ∧ H b = some (.dK (nmKvs C)) ∧ H c = some (.dK (nmKvs N)) ∧ NGood W.ports P ∧ NGood W.cnames C ∧ NGood W.vnames N ∧
  ∀ x H', H x = none → Same H H' → ToldAt H' x (W.ren P C N) → Q (.ref x) H'
def spDueT (K : PySem.W.Frag) : Sp := fun vs H Q _ => ∃ (a t bc bv : Addr) (W : Wld) (T : Tab) (C N : NM), vs = [.ref a, .ref t, .ref bc, .ref bv] ∧ ToldAt H a W ∧ W.Good ∧ TabAt K H t T ∧ TGood W T ∧ H bc = some (.dK (nmKvs C)) ∧ H bv = some (.dK (nmKvs N)) ∧ NGood W.cnames C ∧ NGood W.vnames N ∧
  ∀ b H', H b = none → Same H H' → TabL H' b (tabRen C N (tabTold W T)) → Q (.ref b) H'
section
variable {P : Program} {w : World} {K : PySem.W.Frag} {mg : Str → Option Value} {base : Heap}
theorem ok_due {f : Addr} {fd : FuncData} (F : Fun K "_law_due" "_law_due" s__law_due f fd) (B : Blt mg) : FnOk P w K mg base CX0 1 f fd ["_law_world_here", "_law_ports", "_law_channels", "_law_vessels"] spDue := by
  refine F.ok sc__law_due (fun vs H Q E h => ?_) (fun cdv A outer s H vs Q E hr h => ?_)
  · obtain ⟨t, a, b, c, W, P, C, N, rfl, _⟩ := h
    rfl
  · obtain ⟨t, a, b, c, W, P, C, N, rfl, hT, g, ha, hb, hc, gP, gC, gN, q⟩ := h
    have hu := room_u1 hr
    refine ⟨_, (pss_cons (ps_asg (pv 0) (pg_tup rfl (pgs_cons (pg_name (i := 4) sc__law_due.nd rfl (.inl rfl)) (pgs_cons (pg_name (i := 5) sc__law_due.nd rfl (.inl rfl)) (pgs_cons (pg_name (i := 6) sc__law_due.nd rfl (.inl rfl)) (pgs_cons (pg_name (i := 7) sc__law_due.nd rfl (.inl rfl)) (pgs_cons (pg_name (i := 8) sc__law_due.nd rfl (.inl rfl)) pgs_nil)))))))
      (pss_cons (ps_set (i := 9) sc__law_due.nd rfl (.inl rfl) (pe_callTy call_tuple_of (by rfl) B.tuple (by decide +kernel) (pa_cons (pe_lc (own := [("_law_row", 12)]) (g := gName 12) (tt := tYes) rfl sc__law_due.nd (pi_seq (pv 6)) (blkOk_by (N := ["_law_world_here", "_law_ports", "_law_channels", "_law_vessels", "_law_begin", "_law_own", "_law_ways", "_law_breakers", "_law_ships", "_law_rows", "_law_first", "_law_last", "_law_row", "_law_port"]) (sc := defScope s__law_due) (by decide +kernel)) (fun _ _ _ _ _ => pg_name (i := 12) sc__law_due.nd rfl (Or.inl rfl)) (fun _ _ _ _ _ => pts_nil) (fun _ _ _ _ _ => (pe_op (show OpR _ (binaryOp .Add) (rCatT K) from op_catT) (pe_tup (pa_cons (pe_dget hu (pv 2) (pe_ix (show IxR _ (rIxT K) from ix_tup) (pv 12) pe_int (fun _ _ => rfl)) (fun _ _ => rfl)) (pa_cons (pe_dget hu (pv 1) (pe_ix (show IxR _ (rIxT K) from ix_tup) (pv 12) pe_int (fun _ _ => rfl)) (fun _ _ => rfl)) (pa_cons (pe_dget hu (pv 1) (pe_ix (show IxR _ (rIxT K) from ix_tup) (pv 12) pe_int (fun _ _ => rfl)) (fun _ _ => rfl)) pa_nil)))) (pe_slice (show SlR _ (rSlT K) from sl_tup) (pv 12) (po_some pe_int) po_none)))) pa_nil)))
      (pss_cons (ps_set (i := 10) sc__law_due.nd rfl (.inl rfl) (pe_callTy call_tuple_of (by rfl) B.tuple (by decide +kernel) (pa_cons (pe_lc (own := [("_law_row", 12)]) (g := gName 12) (tt := tYes) rfl sc__law_due.nd (pi_seq (pv 7)) (blkOk_by (N := ["_law_world_here", "_law_ports", "_law_channels", "_law_vessels", "_law_begin", "_law_own", "_law_ways", "_law_breakers", "_law_ships", "_law_rows", "_law_first", "_law_last", "_law_row", "_law_port"]) (sc := defScope s__law_due) (by decide +kernel)) (fun _ _ _ _ _ => pg_name (i := 12) sc__law_due.nd rfl (Or.inl rfl)) (fun _ _ _ _ _ => pts_nil) (fun _ _ _ _ _ => (pe_op (show OpR _ (binaryOp .Add) (rCatT K) from op_catT) (pe_tup (pa_cons (pe_dget hu (pv 3) (pe_ix (show IxR _ (rIxT K) from ix_tup) (pv 12) pe_int (fun _ _ => rfl)) (fun _ _ => rfl)) (pa_cons (pe_dget hu (pv 1) (pe_ix (show IxR _ (rIxT K) from ix_tup) (pv 12) pe_int (fun _ _ => rfl)) (fun _ _ => rfl)) pa_nil))) (pe_slice (show SlR _ (rSlT K) from sl_tup) (pv 12) (po_some pe_int) po_none)))) pa_nil)))
      (pss_cons (ps_set (i := 11) sc__law_due.nd rfl (.inl rfl) (pe_callTy call_tuple_of (by rfl) B.tuple (by decide +kernel) (pa_cons (pe_lc (own := [("_law_row", 12)]) (g := gName 12) (tt := tYes) rfl sc__law_due.nd (pi_seq (pv 8)) (blkOk_by (N := ["_law_world_here", "_law_ports", "_law_channels", "_law_vessels", "_law_begin", "_law_own", "_law_ways", "_law_breakers", "_law_ships", "_law_rows", "_law_first", "_law_last", "_law_row", "_law_port"]) (sc := defScope s__law_due) (by decide +kernel)) (fun _ _ _ _ _ => pg_name (i := 12) sc__law_due.nd rfl (Or.inl rfl)) (fun _ _ _ _ _ => pts_nil) (fun _ _ _ _ _ => (pe_op (show OpR _ (binaryOp .Add) (rCatT K) from op_catT) (pe_tup (pa_cons (pe_dget hu (pv 3) (pe_ix (show IxR _ (rIxT K) from ix_tup) (pv 12) pe_int (fun _ _ => rfl)) (fun _ _ => rfl)) (pa_cons (pe_dget hu (pv 1) (pe_ix (show IxR _ (rIxT K) from ix_tup) (pv 12) pe_int (fun _ _ => rfl)) (fun _ _ => rfl)) (pa_cons (pe_dget hu (pv 1) (pe_ix (show IxR _ (rIxT K) from ix_tup) (pv 12) pe_int (fun _ _ => rfl)) (fun _ _ => rfl)) pa_nil)))) (pe_slice (show SlR _ (rSlT K) from sl_tup) (pv 12) (po_some pe_int) po_none)))) pa_nil)))
      (pss_one (ps_ret (pe_tup (pa_cons (pv 4) (pa_cons (pe_callTy call_tuple_of (by rfl) B.tuple (by decide +kernel) (pa_cons (pe_lc (own := [("_law_port", 13)]) (g := gName 13) (tt := tYes) rfl sc__law_due.nd (pi_seq (pv 5)) (blkOk_by (N := ["_law_world_here", "_law_ports", "_law_channels", "_law_vessels", "_law_begin", "_law_own", "_law_ways", "_law_breakers", "_law_ships", "_law_rows", "_law_first", "_law_last", "_law_row", "_law_port"]) (sc := defScope s__law_due) (by decide +kernel)) (fun _ _ _ _ _ => pg_name (i := 13) sc__law_due.nd rfl (Or.inl rfl)) (fun _ _ _ _ _ => pts_nil) (fun _ _ _ _ _ => (pe_dget hu (pv 1) (pv 13) (fun _ _ => rfl)))) pa_nil)) (pa_cons (pv 9) (pa_cons (pv 10) (pa_cons (pv 11) pa_nil)))))))))))), ?_⟩
    obtain ⟨ap, ac, ab, as, yc, yb, ys, t1, t2, t3, t4, t5, t6, t7, t8⟩ := id hT
    have lc2 : yc.length ≤ 12 := by rw [t4.1, List.length_map]; exact g.chans
    have lb2 : yb.length ≤ 4 := by rw [t6.1, List.length_map]; exact g.brks
    have ls2 : ys.length ≤ 6 := by rw [t8.1, List.length_map]; exact g.shps
    have su := Same.refl H
    refine ⟨_, rfl, t, _, rfl, .inl (.inl t1), rfl, _, _, rfl, _, _, rfl, _, _, rfl, _, _, rfl, _, _, rfl, rfl, ?_⟩
    refine ⟨_, rfl, ac, rfl, lc_map (fun x y H' => ∃ p c, x = .ref p ∧ H p = some (.tup (Chan.vals c)) ∧ ∃ a, y = .ref a ∧ H' a = some (.tup (Chan.vals (Chan.ren P C c)))) (.t (su _ _ t3)) (Nat.lt_of_le_of_lt lc2 (by decide)) (fun x y H H' s ⟨p, b, e, o, a, e2, h⟩ => ⟨p, b, e, o, a, e2, s _ _ h⟩)
        (fun x y H D l hD ⟨p, b, e, o, a, e2, h⟩ => ⟨p, b, e, o, a, e2, hide_of hD (fun _ z => by cases z) h⟩) ?_ ?_⟩
    · intro x J0 kk hx s0 kq
      obtain ⟨o, r, rfl, hm, e⟩ := t4.mem hx
      have e0 := s0 _ _ (su _ _ e)
      have ha0 := s0 _ _ (su _ _ ha)
      have hb0 := s0 _ _ (su _ _ hb)
      have hc0 := s0 _ _ (su _ _ hc)
      have m1 : r.name ∈ W.cnames := List.mem_map_of_mem hm
      have m2 := g.ends r hm
      refine ⟨rfl, _, rfl, _, rfl, o, _, 0, _, rfl, rfl, .inl (.inl e0), rfl, b, _, rfl, (by rw [← gC.val m1]; exact DGet.k (k := .inr (S _)) hb0), _, rfl, _, rfl, o, _, 1, _, rfl, rfl, .inl (.inl e0), rfl, a, _, rfl, (by rw [← gP.val m2.1]; exact DGet.k (k := .inr (S _)) ha0), _, rfl, _, rfl, o, _, 2, _, rfl, rfl, .inl (.inl e0), rfl, a, _, rfl, (by rw [← gP.val m2.2]; exact DGet.k (k := .inr (S _)) ha0), ?_⟩
      refine ⟨Nat.le_of_ble_eq_true rfl, fun t ht => ?_⟩
      generalize hXq : upd _ t _ = J2
      have s2' := laid_same hXq ht
      have e2' := laid_at hXq
      clear hXq
      refine ⟨_, rfl, _, rfl, o, _, rfl, .inl (.inl (s2' _ _ e0)), (by show ¬ (HT.sIx 8 0 (some 3) = 0 ∧ HT.sIx 8 8 none = 8); decide +kernel), fun q3 hq3 => ?_⟩
      generalize hXq : upd _ q3 _ = J4
      have s4' := laid_same hXq hq3
      have e4' := laid_at hXq
      clear hXq
      refine ⟨t, q3, _, _, rfl, rfl, .inl (.inl (s4' _ _ e2')), .inl (.inl e4'), (by intro z; cases z), Nat.le_of_ble_eq_true rfl, (fun z => by cases z), fun _ q5 hq5 => ?_⟩
      generalize hXq : upd _ q5 _ = J5
      have s5' := laid_same hXq hq5
      have e5' := laid_at hXq
      clear hXq
      exact kq _ _ (s2'.trans (s4'.trans s5')) ⟨o, r, rfl, e, q5, rfl, e5'⟩
    intro D1 zc J2 hD1 u1 hyc e
    have fc := rows_map (chan_ren P C) t4 e
    clear e
    have su := su.trans u1
    refine ⟨D1, _, rfl, .inl ⟨.inl (.inl hyc), fun w1 hw1 => ?_⟩⟩
    generalize hXq : upd _ w1 _ = G1
    have v1 := laid_same hXq hw1
    have f1 := laid_at hXq
    clear hXq
    have su := su.trans v1
    have fc := fc.same v1
    refine ⟨_, rfl, ab, rfl, lc_map (fun x y H' => ∃ p c, x = .ref p ∧ H p = some (.tup (Brk.vals c)) ∧ ∃ a, y = .ref a ∧ H' a = some (.tup (Brk.vals (Brk.ren P N c)))) (.t (su _ _ t5)) (Nat.lt_of_le_of_lt lb2 (by decide)) (fun x y H H' s ⟨p, b, e, o, a, e2, h⟩ => ⟨p, b, e, o, a, e2, s _ _ h⟩)
        (fun x y H D l hD ⟨p, b, e, o, a, e2, h⟩ => ⟨p, b, e, o, a, e2, hide_of hD (fun _ z => by cases z) h⟩) ?_ ?_⟩
    · intro x J0 kk hx s0 kq
      obtain ⟨o, r, rfl, hm, e⟩ := t6.mem hx
      have e0 := s0 _ _ (su _ _ e)
      have ha0 := s0 _ _ (su _ _ ha)
      have hb0 := s0 _ _ (su _ _ hb)
      have hc0 := s0 _ _ (su _ _ hc)
      have m1 : r.name ∈ W.vnames := List.mem_append_left _ (List.mem_map_of_mem (f := fun b : Brk => b.name) hm)
      have m2 := g.bports r hm
      refine ⟨rfl, _, rfl, _, rfl, o, _, 0, _, rfl, rfl, .inl (.inl e0), rfl, c, _, rfl, (by rw [← gN.val m1]; exact DGet.k (k := .inr (S _)) hc0), _, rfl, _, rfl, o, _, 1, _, rfl, rfl, .inl (.inl e0), rfl, a, _, rfl, (by rw [← gP.val m2]; exact DGet.k (k := .inr (S _)) ha0), ?_⟩
      refine ⟨Nat.le_of_ble_eq_true rfl, fun t ht => ?_⟩
      generalize hXq : upd _ t _ = J2
      have s2' := laid_same hXq ht
      have e2' := laid_at hXq
      clear hXq
      refine ⟨_, rfl, _, rfl, o, _, rfl, .inl (.inl (s2' _ _ e0)), (by show ¬ (HT.sIx 6 0 (some 2) = 0 ∧ HT.sIx 6 6 none = 6); decide +kernel), fun q3 hq3 => ?_⟩
      generalize hXq : upd _ q3 _ = J4
      have s4' := laid_same hXq hq3
      have e4' := laid_at hXq
      clear hXq
      refine ⟨t, q3, _, _, rfl, rfl, .inl (.inl (s4' _ _ e2')), .inl (.inl e4'), (by intro z; cases z), Nat.le_of_ble_eq_true rfl, (fun z => by cases z), fun _ q5 hq5 => ?_⟩
      generalize hXq : upd _ q5 _ = J5
      have s5' := laid_same hXq hq5
      have e5' := laid_at hXq
      clear hXq
      exact kq _ _ (s2'.trans (s4'.trans s5')) ⟨o, r, rfl, e, q5, rfl, e5'⟩
    intro D2 zb J3 hD2 u1 hyb e
    have fb := rows_map (brk_ren P N) t6 e
    clear e
    have su := su.trans u1
    have fc := fc.same u1
    have f1 := u1 _ _ f1
    refine ⟨D2, _, rfl, .inl ⟨.inl (.inl hyb), fun w2 hw2 => ?_⟩⟩
    generalize hXq : upd _ w2 _ = G2
    have v2 := laid_same hXq hw2
    have f2 := laid_at hXq
    clear hXq
    have su := su.trans v2
    have fc := fc.same v2
    have fb := fb.same v2
    have f1 := v2 _ _ f1
    refine ⟨_, rfl, as, rfl, lc_map (fun x y H' => ∃ p c, x = .ref p ∧ H p = some (.tup (Shp.row c)) ∧ ∃ a, y = .ref a ∧ H' a = some (.tup (Shp.row (Shp.ren P N c)))) (.t (su _ _ t7)) (Nat.lt_of_le_of_lt ls2 (by decide)) (fun x y H H' s ⟨p, b, e, o, a, e2, h⟩ => ⟨p, b, e, o, a, e2, s _ _ h⟩)
        (fun x y H D l hD ⟨p, b, e, o, a, e2, h⟩ => ⟨p, b, e, o, a, e2, hide_of hD (fun _ z => by cases z) h⟩) ?_ ?_⟩
    · intro x J0 kk hx s0 kq
      obtain ⟨o, r, rfl, hm, e⟩ := t8.mem hx
      have e0 := s0 _ _ (su _ _ e)
      have ha0 := s0 _ _ (su _ _ ha)
      have hb0 := s0 _ _ (su _ _ hb)
      have hc0 := s0 _ _ (su _ _ hc)
      have m1 : r.name ∈ W.vnames := List.mem_append_right _ (List.mem_map_of_mem (f := fun b : Shp => b.name) hm)
      have m2 := g.sports r hm
      refine ⟨rfl, _, rfl, _, rfl, o, _, 0, _, rfl, rfl, .inl (.inl e0), rfl, c, _, rfl, (by rw [← gN.val m1]; exact DGet.k (k := .inr (S _)) hc0), _, rfl, _, rfl, o, _, 1, _, rfl, rfl, .inl (.inl e0), rfl, a, _, rfl, (by rw [← gP.val m2.1]; exact DGet.k (k := .inr (S _)) ha0), _, rfl, _, rfl, o, _, 2, _, rfl, rfl, .inl (.inl e0), rfl, a, _, rfl, (by rw [← gP.val m2.2]; exact DGet.k (k := .inr (S _)) ha0), ?_⟩
      refine ⟨Nat.le_of_ble_eq_true rfl, fun t ht => ?_⟩
      generalize hXq : upd _ t _ = J2
      have s2' := laid_same hXq ht
      have e2' := laid_at hXq
      clear hXq
      refine ⟨_, rfl, _, rfl, o, _, rfl, .inl (.inl (s2' _ _ e0)), (by show ¬ (HT.sIx 6 0 (some 3) = 0 ∧ HT.sIx 6 6 none = 6); decide +kernel), fun q3 hq3 => ?_⟩
      generalize hXq : upd _ q3 _ = J4
      have s4' := laid_same hXq hq3
      have e4' := laid_at hXq
      clear hXq
      refine ⟨t, q3, _, _, rfl, rfl, .inl (.inl (s4' _ _ e2')), .inl (.inl e4'), (by intro z; cases z), Nat.le_of_ble_eq_true rfl, (fun z => by cases z), fun _ q5 hq5 => ?_⟩
      generalize hXq : upd _ q5 _ = J5
      have s5' := laid_same hXq hq5
      have e5' := laid_at hXq
      clear hXq
      exact kq _ _ (s2'.trans (s4'.trans s5')) ⟨o, r, rfl, e, q5, rfl, e5'⟩
    intro D3 zs J4 hD3 u1 hys e
    have fs := rows_map (shp_ren P N) t8 e
    clear e
    have su := su.trans u1
    have fc := fc.same u1
    have fb := fb.same u1
    have f1 := u1 _ _ f1
    have f2 := u1 _ _ f2
    refine ⟨D3, _, rfl, .inl ⟨.inl (.inl hys), fun w3 hw3 => ?_⟩⟩
    generalize hXq : upd _ w3 _ = G3
    have v3 := laid_same hXq hw3
    have f3 := laid_at hXq
    clear hXq
    have su := su.trans v3
    have fc := fc.same v3
    have fb := fb.same v3
    have fs := fs.same v3
    have f1 := v3 _ _ f1
    have f2 := v3 _ _ f2
    refine ⟨_, rfl, _, rfl, ap, rfl, lc_map (fun x y _ => ∃ n, n ∈ W.ports ∧ x = .str (S n) ∧ y = .str (S (Law.ren P n))) (.t (su _ _ t2)) (Nat.lt_of_le_of_lt (show (txts W.ports).length ≤ 8 by rw [txts, List.length_map]; exact g.ports.2) (by decide)) (fun _ _ _ _ _ e => e) (fun _ _ _ _ _ _ e => e) ?_ ?_⟩
    · intro x H3 kk hx s3 kq
      obtain ⟨n, hn, rfl⟩ := List.mem_map.mp hx
      refine ⟨rfl, _, rfl, _, rfl, a, _, rfl, (by rw [← gP.val hn]; exact DGet.k (k := .inr (S n)) (s3 _ _ (su _ _ ha))), ?_⟩
      exact kq _ _ (Same.refl _) ⟨n, hn, rfl, rfl⟩
    intro D0 zp J1 hD0 u1 hyp ep
    have ezp : zp = txts (W.ports.map (Law.ren P)) := by
      rw [txts, List.map_map]
      refine ep.map (f := fun n => V.str (S n)) (fun n _ y hy => ?_)
      obtain ⟨n', _, h1, h2⟩ := hy
      injection h1 with h1
      rw [h2, ← S_inj h1]
      rfl
    subst ezp
    clear ep
    have su := su.trans u1
    have fc := fc.same u1
    have fb := fb.same u1
    have fs := fs.same u1
    have f1 := u1 _ _ f1
    have f2 := u1 _ _ f2
    have f3 := u1 _ _ f3
    refine ⟨D0, _, rfl, .inl ⟨.inl (.inl hyp), fun w0 hw0 => ?_⟩⟩
    generalize hXq : upd _ w0 _ = G0
    have v0 := laid_same hXq hw0
    have f0 := laid_at hXq
    clear hXq
    have su := su.trans v0
    refine ⟨_, rfl, _, rfl, _, rfl, ?_⟩
    refine ⟨Nat.le_of_ble_eq_true rfl, fun t9 ht9 => ?_⟩
    generalize hXq : upd _ t9 _ = J9
    have u9 := laid_same hXq ht9
    have e9 := laid_at hXq
    clear hXq
    have fc := fc.same (v0.trans u9)
    have fb := fb.same (v0.trans u9)
    have fs := fs.same (v0.trans u9)
    refine q t9 J9 (none_back su ht9) (su.trans u9) ⟨w0, w1, w2, w3, zc, zb, zs, e9, u9 _ _ f0, u9 _ _ (v0 _ _ f1), ?_, u9 _ _ (v0 _ _ f2), ?_, u9 _ _ (v0 _ _ f3), ?_⟩
    · show RowsIs J9 zc ((W.chans.map (Chan.ren P C)).map Chan.vals)
      rw [List.map_map]
      exact fc
    · show RowsIs J9 zb ((W.brks.map (Brk.ren P N)).map Brk.vals)
      rw [List.map_map]
      exact fb
    · show RowsIs J9 zs ((W.shps.map (Shp.ren P N)).map Shp.row)
      rw [List.map_map]
      exact fs
end
end Law
end
section
set_option Elab.async false
set_option linter.all false
set_option maxRecDepth 100000
set_option maxHeartbeats 4000000
namespace Law
open PySem PySem.Spec PyProof.Rows L2 IK SX
section
variable {P : Program} {w : World} {K : PySem.W.Frag} {mg : Str → Option Value} {base : Heap}
theorem ok_dueT {f : Addr} {fd : FuncData} (F : Fun K "_law_due_table" "_law_due_table" s__law_due_table f fd) (B : Blt mg) (DA : Dn P w K mg base CX0 1 "_law_anew" ["_law_world_here", "_law_table_here"] (spAnewT K)) : FnOk P w K mg base CX0 2 f fd ["_law_world_here", "_law_table_here", "_law_channels", "_law_vessels"] (spDueT K) := by
  refine F.ok sc__law_due_table (fun vs H Q E h => ?_) (fun cdv A outer s H vs Q E hr h => ?_)
  · obtain ⟨a, t, bc, bv, W, T, C, N, rfl, _⟩ := h
    rfl
  · obtain ⟨a, t, bc, bv, W, T, C, N, rfl, hT, g, hTab, tg, hb1, hc1, gC, gN, q⟩ := h
    have hu := room_u1 hr
    refine ⟨_, (pss_cons (ps_set (i := 4) sc__law_due_table.nd rfl (.inl rfl) pe_dnewK)
      (pss_cons (ps_for PassesOwn.never rfl (pi_items (pe_lockV (pe_d DA (hr.mono (by decide)) (by rfl) pass0 (pa_cons (pv 0) (pa_cons (pv 1) pa_nil))))) (pg_tup rfl (pgs_cons (pg_name (i := 5) sc__law_due_table.nd rfl (.inl rfl)) (pgs_cons (pg_name (i := 6) sc__law_due_table.nd rfl (.inl rfl)) pgs_nil)))
      (pss_one (ps_dput hu (pv 4) (pe_dget hu (pv 3) (pv 5) (fun _ _ => rfl)) (pe_lc (own := [("_law_hour", 7), ("_law_channel_here", 8)]) (g := gTup K 2 (gCons (gName 7) (gCons (gName 8) gNil))) (tt := tYes) rfl sc__law_due_table.nd (pi_seq (pv 6)) (blkOk_by (N := ["_law_world_here", "_law_table_here", "_law_channels", "_law_vessels", "_law_found", "_law_name", "_law_entries", "_law_hour", "_law_channel_here"]) (sc := defScope s__law_due_table) (by decide +kernel)) (fun _ _ _ _ _ => pg_tup rfl (pgs_cons (pg_name (i := 7) sc__law_due_table.nd rfl (Or.inl rfl)) (pgs_cons (pg_name (i := 8) sc__law_due_table.nd rfl (Or.inl rfl)) pgs_nil))) (fun _ _ _ _ _ => pts_nil) (fun _ _ _ _ _ => (pe_tup (pa_cons (pv 7) (pa_cons (pe_dget hu (pv 2) (pv 8) (fun _ _ => rfl)) pa_nil))))) rfl)))
      (pss_one (ps_ret (pv 4))))), ?_⟩
    intro d hd
    generalize hXq : upd _ d _ = H1
    have s1 := laid_same hXq hd
    have e1 := laid_at hXq
    clear hXq
    refine ⟨_, rfl, _, rfl, a, t, W, T, rfl, hT.same s1, g, hTab.same s1, fun c H2 hc s2 hL => ?_⟩
    obtain ⟨us0, c1', c2'⟩ := hL
    have e2 := s2 _ _ e1
    have ncd : c ≠ d := fun z => by rw [z, e1] at hc; cases hc
    have g1 : ∀ {e : List Nat × List Ent}, e ∈ tabTold W T → e.1 ∈ W.vnames ∧ e.2 ≠ [] ∧ ∃ x ∈ T, x.1 = e.1 ∧ x.2 = e.2 := fun h => tabTold_mem h
    have g2 := tabTold_len g T
    have g3 := tabTold_nd g T
    have g4 : ∀ e ∈ tabTold W T, e.2.length ≤ 1000 := fun e he => by
      obtain ⟨_, _, x, hx, _, e2⟩ := g1 he
      rw [← e2]
      exact tg.few x hx
    have g5 : ∀ e ∈ tabTold W T, ∀ x ∈ e.2, x.2 ∈ W.cnames := fun e he => by
      obtain ⟨_, _, x, hx, _, e2⟩ := g1 he
      rw [← e2]
      exact (tg.rise x hx).mem
    generalize tabTold W T = T' at c1' c2' g1 g2 g3 g4 g5 q ⊢
    have bvd : bv ≠ d := fun z => by rw [z, hd] at hc1; cases hc1
    have bcd : bc ≠ d := fun z => by rw [z, hd] at hb1; cases hb1
    have bvc : bv ≠ c := fun z => by rw [z] at hc1; rw [s1 _ _ hc1] at hc; cases hc
    have bcc : bc ≠ c := fun z => by rw [z] at hb1; rw [s1 _ _ hb1] at hc; cases hc
    have hv2 := s2 _ _ (s1 _ _ hc1)
    have hb2 := s2 _ _ (s1 _ _ hb1)
    have c2 := c2'
    refine ⟨c, _, rfl, c1', trivial, fun od => ?_⟩
    refine ⟨c, od, _, rfl, upd_same, ?_⟩
    have c3 := c2'.lock (u := .frz od (.dK (kvsOf T' us0))) c1'
    refine for_it walk_items (fun i σ H' => ∃ y z u t', σ = [some (.ref a), some (.ref t), some (.ref bc), some (.ref bv), some (.ref d), y, z, u, t'] ∧ Bar d (upd H2 c (.frz od (.dK (kvsOf T' us0)))) H' ∧ H' c = some (.frz od (.dK (kvsOf T' us0))) ∧
      ∃ us, H' d = some (.dK (kvsOf (tabRen C N (T'.take i)) us)) ∧ ValsL H' us (tabRen C N (T'.take i))) ⟨_, _, _, _, rfl, Bar.refl, upd_same, [], by rw [upd_ne (Ne.symm ncd)]; exact e2, rfl, fun i v e h1 _ => by simp at h1⟩ (fun i σ H' _ ⟨_, _, _, _, _, _, e, _⟩ => e) ?_ ?_
    · rintro i x σ H' H3 hi ⟨_, _, _, _, rfl, b, hfz, us, hd', hus⟩ ⟨t, kx, v, rfl, ht, rfl, hk, hvx⟩
      rw [kvsOf_len c2.1] at hi
      have hkv := kvsOf_at c2.1 hi
      dsimp only at hk hvx
      rw [hkv] at hk hvx
      obtain rfl : kx = .str (S (T'[i]).1) := (Option.some.inj hk).symm
      obtain rfl : v = us0[i]'(by rw [c2.1]; exact hi) := (Option.some.inj hvx).symm
      have hm : T'[i] ∈ T' := List.getElem_mem hi
      generalize hXq : upd _ t _ = H3
      have s3 := laid_same hXq ht
      have e3 := laid_at hXq
      clear hXq
      have hus3 := hus.same s3
      have hd3 := s3 _ _ hd'
      have hfz3 := s3 _ _ hfz
      have b3 := b.trans (Bar.same (p := d) s3)
      obtain ⟨l, ys, ev, hl, hr3⟩ := c3.2 i _ T'[i] (by rw [List.getElem?_eq_getElem (by rw [c2.1]; exact hi)]) (List.getElem?_eq_getElem hi)
      have dd : upd H2 c (.frz od (.dK (kvsOf T' us0))) d = some (.dK []) := by rw [upd_ne (Ne.symm ncd)]; exact e2
      have nld : l ≠ d := fun z => by rw [z, dd] at hl; cases hl
      have hl3 := b3 _ _ nld hl
      have hr4 : RowsIs H3 ys ((T'[i]).2.map entV) := hr3.bar b3 dd
      refine ⟨t, _, rfl, .inl (.inl e3), rfl, _, _, rfl, _, _, rfl, rfl, ?_⟩
      rw [ev]
      refine ⟨_, rfl, l, rfl, lc_map (fun x y H' => ∃ p b, x = .ref p ∧ H3 p = some (.tup (entV b)) ∧ ∃ a, y = .ref a ∧ H' a = some (.tup (entV (Ent.ren C b)))) (.l hl3) (Nat.lt_of_le_of_lt (by rw [hr4.1, List.length_map]; exact g4 _ hm : ys.length ≤ 1000) (by decide)) (fun x y H H' s ⟨p, b, e, o, a, e2, h⟩ => ⟨p, b, e, o, a, e2, s _ _ h⟩)
        (fun x y H D l hD ⟨p, b, e, o, a, e2, h⟩ => ⟨p, b, e, o, a, e2, hide_of hD (fun _ z => by cases z) h⟩) ?_ ?_⟩
      · intro x J0 kk hx s0 kq
        obtain ⟨o, e, rfl, hme, he⟩ := hr4.mem hx
        refine ⟨o, _, rfl, .inl (.inl (s0 _ _ he)), rfl, _, _, rfl, _, _, rfl, rfl, rfl, ?_⟩
        refine ⟨_, rfl, _, rfl, _, rfl, bc, _, rfl, (by rw [← gC.val (g5 _ hm e hme)]; exact DGet.k (k := .inr (S _)) (s0 _ _ (b3 bc _ bcd (by rw [upd_ne bcc]; exact hb2)))), ?_⟩
        refine ⟨Nat.le_of_ble_eq_true rfl, fun q hq => ?_⟩
        generalize hXq : upd _ q _ = J1
        have s1' := laid_same hXq hq
        have e1' := laid_at hXq
        clear hXq
        exact kq _ _ s1' ⟨o, e, rfl, he, q, rfl, e1'⟩
      intro D zs J6 hD s7 hy e
      have rD := rows_map (ent_ren C) hr4 e
      have nv := (g1 hm).1
      refine ⟨_, rfl, _, rfl, _, rfl, bv, .str (S (Law.ren N (T'[i]).1)), rfl, (by rw [← gN.val nv]; exact DGet.k (k := .inr (S _)) (s7 _ _ (b3 bv _ bvd (by rw [upd_ne bvc]; exact hv2)))), d, _, rfl, DPut.k (k := .inr (S (Law.ren N (T'[i]).1))) (s7 _ _ hd3) (Nat.lt_of_le_of_lt ?_ (by decide : 100 < sizeLine)), ?_⟩
      · rw [kvsOf_len hus.1]
        unfold tabRen
        rw [List.length_map, List.length_take]
        omega
      have tk : tabRen C N (T'.take (i + 1)) = tabRen C N (T'.take i) ++ [(Law.ren N (T'[i]).1, (T'[i]).2.map (Ent.ren C))] := by
        unfold tabRen
        rw [List.take_succ, List.getElem?_eq_getElem hi, List.map_append]
        rfl
      have nn : ∀ e ∈ tabRen C N (T'.take i), e.1 ≠ Law.ren N (T'[i]).1 := by
        intro e he z
        obtain ⟨x, hx, rfl⟩ := List.mem_map.mp he
        obtain ⟨j, hj⟩ := List.getElem?_of_mem hx
        rw [List.getElem?_take] at hj
        split at hj
        · have hjl : j < T'.length := (List.getElem?_eq_some_iff.mp hj).1
          have hjl2 : j < (T'.map (·.1)).length := by rw [List.length_map]; exact hjl
          have := (List.getElem?_inj hjl2 g3 (j := i)).mp (by rw [List.getElem?_map, List.getElem?_map, hj, List.getElem?_eq_getElem hi]; exact congrArg some (gN.inj (g1 (List.mem_of_getElem? hj)).1 nv z))
          omega
        · cases hj
      refine ⟨_, _, _, _, rfl, (b3.trans (Bar.same s7)).trans Bar.at_, ?_, us ++ [.ref D], ?_, ?_⟩
      · rw [upd_ne ncd]
        exact s7 _ _ hfz3
      · rw [upd_same, putK_new _ (val_none nn), tk, kvsOf_snoc hus.1]
      · rw [tk]
        refine ((hus3.same s7).snoc hy ?_).bar Bar.at_ (s7 _ _ hd3)
        rw [List.map_map]
        exact rD
    · rintro σ H' ⟨_, _, _, _, rfl, b, hfz, us, hd', hus⟩
      rw [kvsOf_len c2.1, List.take_length] at hd' hus
      refine ⟨_, rfl, q d _ hd (fun x o e => ?_) ⟨us, hd', hus⟩⟩
      have xd : x ≠ d := fun z => by rw [z, hd] at e; cases e
      have xc : x ≠ c := fun z => by rw [z] at e; rw [s1 _ _ e] at hc; cases hc
      exact b x o xd (by rw [upd_ne xc]; exact s2 _ _ (s1 _ _ e))
end
end Law
end
section
set_option Elab.async false
set_option linter.all false
set_option maxRecDepth 100000
set_option maxHeartbeats 4000000
namespace Law
open PySem PySem.Spec PyProof.Rows L2 IK SX
theorem find_filter {T : Tab} {f : List Nat → List Ent} {m : List Nat} : ∀ {l : List (List Nat)}, m ∈ l → entsOf ((l.map fun n => (n, f n)).filter fun e => !e.2.isEmpty) m = f m
  | n :: l, h => by
    rw [List.map_cons, List.filter_cons]
    by_cases e : n = m
    · subst e
      by_cases z : (f n).isEmpty = true
      · have z' : f n = [] := by simpa using z
        rw [if_neg (by simp [z'])]
        have : entsOf ((l.map fun n => (n, f n)).filter fun e => !e.2.isEmpty) n = [] := by
          unfold entsOf
          have hn : ((l.map fun n => (n, f n)).filter fun e => !e.2.isEmpty).find? (fun e => e.1 == n) = none := by
            rw [List.find?_eq_none]
            intro x hx
            obtain ⟨h1, h2⟩ := List.mem_filter.mp hx
            obtain ⟨y, _, rfl⟩ := List.mem_map.mp h1
            intro hy
            have hy' : y = n := by simpa using hy
            subst hy'
            simp [z'] at h2
          rw [hn]
        rw [this, z']
      · rw [if_pos (by simpa using z)]
        simp [entsOf]
    · have hm : m ∈ l := by
        rcases List.mem_cons.mp h with h | h
        · exact absurd h.symm e
        · exact h
      have ih := find_filter (T := T) (f := f) (m := m) hm
      by_cases z : (!(f n).isEmpty) = true
      · rw [if_pos z]
        rw [← ih]
        simp [entsOf, e]
      · rw [if_neg z]
        exact ih
theorem told_ents {W : Wld} {T : Tab} {m : List Nat} (h : m ∈ W.vnames) : entsOf (tabTold W T) m = entsOf T m := find_filter (T := T) h
theorem TFew.told {W : Wld} (g : W.Good) {T : Tab} (h : TFew T) : TFew (tabTold W T) := by
  refine ⟨tabTold_len g T, fun e he => ?_, fun e he => ?_⟩
  · obtain ⟨_, _, x, hx, _, e2⟩ := tabTold_mem he
    rw [← e2]
    exact h.few x hx
  · obtain ⟨_, _, x, hx, _, e2⟩ := tabTold_mem he
    rw [← e2]
    exact h.hrs x hx
theorem Rise.lo {chs : List (List Nat)} : ∀ {es : List Ent} {lo : Int}, Rise chs lo es → ∀ x ∈ es, lo ≤ x.1
  | e :: es, _, ⟨h1, _, _, h4⟩, x, hx => by
    rcases List.mem_cons.mp hx with rfl | hx
    · exact h1
    · have := h4.lo x hx
      omega
theorem vname_ok {W : Wld} (g : W.Good) {n : List Nat} (hn : n ∈ W.vnames) : isName n = true := by
  unfold Wld.vnames at hn
  rcases List.mem_append.mp hn with hn | hn
  · obtain ⟨b, hb, rfl⟩ := List.mem_map.mp hn
    exact (g.bgood b hb).ves.name
  · obtain ⟨b, hb, rfl⟩ := List.mem_map.mp hn
    exact (g.sgood b hb).ves.name
theorem ents_ok {W : Wld} (g : W.Good) {T : Tab} (t : TGood W T) (h : TFew T) : EntsOk T := by
  refine ⟨h.len, fun e he => ⟨vname_ok g (t.ves e he), h.few e he, fun x hx => ⟨?_, ?_, ?_⟩⟩⟩
  · obtain ⟨c, hc, e2⟩ := List.mem_map.mp ((t.rise e he).mem x hx)
    rw [← e2]
    exact (g.good c hc).name
  · have := (t.rise e he).lo x hx
    have := g.begin
    omega
  · have := h.hrs e he x hx
    omega
end Law
end
section
set_option Elab.async false
set_option linter.all false
set_option maxRecDepth 100000
set_option maxHeartbeats 4000000
namespace Law
open PySem PySem.Spec PyProof.Rows L2 IK SX
/-! ### renamed and renamed back -/
section
variable {ns : List (List Nat)} {M : NM}
theorem back_keys : M.back.map (·.1) = M.map (·.2) := by unfold NM.back; rw [List.map_map]; rfl
theorem back_vals : M.back.map (·.2) = M.map (·.1) := by unfold NM.back; rw [List.map_map]; rfl
theorem NGood.of_back (g : NGood ns M) {n : List Nat} (h : n ∈ ns) : ren M.back (ren M n) = n := by
  obtain ⟨e, he, rfl, z⟩ := g.at h
  rw [z]
  have : (e.2, e.1) ∈ M.back := List.mem_map.mpr ⟨e, he, rfl⟩
  exact ren_of (M := M.back) (e := (e.2, e.1)) (by rw [back_keys]; exact g.vals) this
theorem NGood.bck (g : NGood ns M) (hn : ∀ n ∈ ns, isName n = true) : NGood (ns.map (ren M)) M.back := by
  refine ⟨by unfold NM.back; rw [List.length_map, List.length_map]; exact g.len, fun n hn => ?_, by rw [back_keys]; exact g.vals, by rw [back_vals]; exact g.keys, fun e he => ?_, by rw [List.length_map]; exact g.few, fun e he => ?_⟩
  · obtain ⟨m, hm, rfl⟩ := List.mem_map.mp hn
    obtain ⟨e, he, _, z⟩ := g.at hm
    exact ⟨(e.2, e.1), List.mem_map.mpr ⟨e, he, rfl⟩, z.symm⟩
  · obtain ⟨x, hx, rfl⟩ := List.mem_map.mp he
    exact hn _ (g.mem x hx)
  · obtain ⟨x, hx, rfl⟩ := List.mem_map.mp he
    exact List.mem_map.mpr ⟨x.1, g.mem x hx, ren_of g.keys hx⟩
end
section
variable {W : Wld} {P C N : NM}
theorem ren_cnames : (W.ren P C N).cnames = W.cnames.map (ren C) := by
  unfold Wld.cnames
  show (W.chans.map (Chan.ren P C)).map Chan.name = _
  rw [List.map_map, List.map_map]
  rfl
theorem ren_vnames : (W.ren P C N).vnames = W.vnames.map (ren N) := by
  unfold Wld.vnames
  show (W.brks.map (Brk.ren P N)).map (fun b => b.name) ++ (W.shps.map (Shp.ren P N)).map (fun b => b.name) = _
  rw [List.map_append, List.map_map, List.map_map, List.map_map, List.map_map]
  rfl
theorem map_fix {α : Type} {f : α → α} {l : List α} (h : ∀ a ∈ l, f a = a) : l.map f = l := by
  conv => rhs; rw [← List.map_id l]
  exact List.map_congr_left h
theorem ren_back (g : W.Good) (gP : NGood W.ports P) (gC : NGood W.cnames C) (gN : NGood W.vnames N) : (W.ren P C N).ren P.back C.back N.back = W := by
  have mb : ∀ c ∈ W.brks, c.name ∈ W.vnames := fun c hc => List.mem_append_left _ (List.mem_map_of_mem (f := fun b : Brk => b.name) hc)
  have ms : ∀ c ∈ W.shps, c.name ∈ W.vnames := fun c hc => List.mem_append_right _ (List.mem_map_of_mem (f := fun b : Shp => b.name) hc)
  have mc : ∀ c ∈ W.chans, c.name ∈ W.cnames := fun c hc => List.mem_map_of_mem hc
  have h1 : (W.ports.map (ren P)).map (ren P.back) = W.ports := by
    rw [List.map_map]
    exact map_fix fun n hn => gP.of_back hn
  have h2 : (W.chans.map (Chan.ren P C)).map (Chan.ren P.back C.back) = W.chans := by
    rw [List.map_map]
    refine map_fix fun c hc => ?_
    have e := g.ends c hc
    simp only [Function.comp, Chan.ren, gC.of_back (mc c hc), gP.of_back e.1, gP.of_back e.2]
  have h3 : (W.brks.map (Brk.ren P N)).map (Brk.ren P.back N.back) = W.brks := by
    rw [List.map_map]
    refine map_fix fun c hc => ?_
    simp only [Function.comp, Brk.ren, gN.of_back (mb c hc), gP.of_back (g.bports c hc)]
  have h4 : (W.shps.map (Shp.ren P N)).map (Shp.ren P.back N.back) = W.shps := by
    rw [List.map_map]
    refine map_fix fun c hc => ?_
    have e := g.sports c hc
    simp only [Function.comp, Shp.ren, gN.of_back (ms c hc), gP.of_back e.1, gP.of_back e.2]
  show (⟨W.begin, (W.ports.map (ren P)).map (ren P.back), (W.chans.map (Chan.ren P C)).map (Chan.ren P.back C.back), (W.brks.map (Brk.ren P N)).map (Brk.ren P.back N.back), (W.shps.map (Shp.ren P N)).map (Shp.ren P.back N.back)⟩ : Wld) = W
  rw [h1, h2, h3, h4]
theorem port_ok (g : W.Good) : ∀ n ∈ W.ports, isName n = true := g.names
theorem cname_ok (g : W.Good) : ∀ n ∈ W.cnames, isName n = true := fun n hn => by
  obtain ⟨c, hc, rfl⟩ := List.mem_map.mp hn
  exact (g.good c hc).name
theorem entsOf_ren (C : NM) (gN : NGood W.vnames N) {m : List Nat} (hm : m ∈ W.vnames) : ∀ {T : Tab}, (∀ e ∈ T, e.1 ∈ W.vnames) → entsOf (tabRen C N T) (ren N m) = (entsOf T m).map (Ent.ren C)
  | [], _ => rfl
  | e :: T, h => by
    by_cases z : e.1 = m
    · subst z
      simp [entsOf, tabRen]
    · have z' : ¬ ren N e.1 = ren N m := fun y => z (gN.inj (h e List.mem_cons_self) hm y)
      have ih := entsOf_ren C gN hm (T := T) fun x hx => h x (List.mem_cons_of_mem _ hx)
      unfold entsOf tabRen at ih ⊢
      rw [List.map_cons, List.find?_cons_of_neg (by simpa using z'), List.find?_cons_of_neg (by simpa using z)]
      exact ih
theorem told_ren (gN : NGood W.vnames N) (T : Tab) : tabTold (W.ren P C N) (tabRen C N (tabTold W T)) = tabRen C N (tabTold W T) := by
  have e1 : tabTold (W.ren P C N) (tabRen C N (tabTold W T)) = (W.vnames.map fun m => (ren N m, (entsOf T m).map (Ent.ren C))).filter fun e => !e.2.isEmpty := by
    rw [tabTold, ren_vnames, List.map_map]
    congr 1
    refine List.map_congr_left fun m hm => ?_
    show (ren N m, entsOf (tabRen C N (tabTold W T)) (ren N m)) = _
    rw [entsOf_ren C gN hm (fun e he => (tabTold_mem he).1), told_ents hm]
  rw [e1]
  unfold tabTold
  generalize W.vnames = l
  induction l with
  | nil => rfl
  | cons m l ih =>
    rw [List.map_cons, List.map_cons, List.filter_cons, List.filter_cons]
    by_cases z : (entsOf T m).isEmpty = true
    · rw [if_neg (by simp at z; simp [z]), if_neg (by simp at z; simp [z])]
      exact ih
    · rw [if_pos (by simp at z; simp [z]), if_pos (by simp at z; simp [z]), ih]
      rfl
theorem tab_back (gC : NGood W.cnames C) (gN : NGood W.vnames N) {T : Tab} (h1 : ∀ e ∈ T, e.1 ∈ W.vnames) (h2 : ∀ e ∈ T, ∀ x ∈ e.2, x.2 ∈ W.cnames) : tabRen C.back N.back (tabRen C N T) = T := by
  unfold tabRen
  rw [List.map_map]
  refine map_fix fun e he => ?_
  have k1 : (e.2.map (Ent.ren C)).map (Ent.ren C.back) = e.2 := by
    rw [List.map_map]
    refine map_fix fun x hx => ?_
    simp only [Function.comp, Ent.ren, gC.of_back (h2 e he x hx)]
  show (ren N.back (ren N e.1), (e.2.map (Ent.ren C)).map (Ent.ren C.back)) = e
  rw [k1, gN.of_back (h1 e he)]
theorem Rise.ren {chs : List (List Nat)} (C : NM) : ∀ {es : List Ent} {lo : Int}, Rise chs lo es → Rise (chs.map (Law.ren C)) lo (es.map (Ent.ren C))
  | [], _, _ => trivial
  | e :: es, _, ⟨h1, h2, h3, h4⟩ => ⟨h1, h2, List.mem_map_of_mem h3, h4.ren C⟩
theorem TGood.ren {T : Tab} (t : TGood W T) (gN : NGood W.vnames N) : TGood (W.ren P C N) (tabRen C N T) := by
  refine ⟨?_, fun e he => ?_, fun e he => ?_, fun e he => ?_⟩
  · have : (tabRen C N T).map (·.1) = (T.map (·.1)).map (Law.ren N) := by unfold tabRen; rw [List.map_map, List.map_map]; rfl
    rw [this]
    refine gN.nodup (fun n hn => ?_) t.nd
    obtain ⟨e, he, rfl⟩ := List.mem_map.mp hn
    exact t.ves e he
  · obtain ⟨x, hx, rfl⟩ := List.mem_map.mp he
    rw [ren_vnames]
    exact List.mem_map_of_mem (t.ves x hx)
  · obtain ⟨x, hx, rfl⟩ := List.mem_map.mp he
    rw [ren_cnames]
    exact (t.rise x hx).ren C
  · obtain ⟨x, hx, rfl⟩ := List.mem_map.mp he
    show (x.2.map _).length ≤ 1000
    rw [List.length_map]
    exact t.few x hx
theorem ents_ok_ren {T : Tab} (h : EntsOk T) (gC : NGood W.cnames C) (gN : NGood W.vnames N) (h1 : ∀ e ∈ T, e.1 ∈ W.vnames) (h2 : ∀ e ∈ T, ∀ x ∈ e.2, x.2 ∈ W.cnames) : EntsOk (tabRen C N T) := by
  refine ⟨by unfold tabRen; rw [List.length_map]; exact h.1, fun e he => ?_⟩
  obtain ⟨x, hx, rfl⟩ := List.mem_map.mp he
  obtain ⟨_, k2, k3⟩ := h.2 x hx
  refine ⟨gN.is (h1 x hx), by show (x.2.map _).length ≤ 12; rw [List.length_map]; exact k2, fun y hy => ?_⟩
  obtain ⟨z, hz, rfl⟩ := List.mem_map.mp hy
  exact ⟨gC.is (h2 x hx z hz), (k3 z hz).2⟩
end
end Law
end
section
set_option Elab.async false
set_option linter.all false
set_option maxRecDepth 100000
set_option maxHeartbeats 4000000
namespace Law
open PySem PySem.Spec PyProof.Rows L2 IK SX
/-! ### how a table and names are shown together -/
structure FineD (k w : Nat) (d : PyData) : Prop where
  ls : d.leavesShort 13 = true
  sh : d.showable = true
  dp : d.depth ≤ k
  wt : d.weight ≤ w
theorem FineD.mono {k w k' w' : Nat} {d : PyData} (h : FineD k w d) (h1 : k ≤ k') (h2 : w ≤ w') : FineD k' w' d := ⟨h.ls, h.sh, Nat.le_trans h.dp h1, Nat.le_trans h.wt h2⟩
theorem fineD_all {k w : Nat} : ∀ {ds : List PyData}, (∀ d ∈ ds, FineD k w d) → PyData.leavesShortAll 13 ds = true ∧ PyData.showableAll ds = true ∧ PyData.depthAll ds ≤ k ∧ PyData.weightAll ds ≤ ds.length * (w + 1)
  | [], _ => ⟨rfl, rfl, Nat.zero_le _, by simp [PyData.weightAll]⟩
  | d :: ds, h => by
    obtain ⟨b1, b2, b4, b5⟩ := fineD_all (ds := ds) fun x hx => h x (List.mem_cons_of_mem _ hx)
    have a := h d List.mem_cons_self
    refine ⟨?_, ?_, ?_, ?_⟩
    · rw [PyData.leavesShortAll, a.ls, b1]; rfl
    · rw [PyData.showableAll, a.sh, b2]; rfl
    · rw [PyData.depthAll]
      have := a.dp
      omega
    · rw [PyData.weightAll, List.length_cons, Nat.add_mul]
      have := a.wt
      omega
theorem fineD_lst {k w n : Nat} {ds : List PyData} (h : ∀ d ∈ ds, FineD k w d) (hl : ds.length ≤ n) : FineD (k + 1) (n * (w + 1)) (.list ds) := by
  obtain ⟨b1, b2, b4, b5⟩ := fineD_all h
  refine ⟨b1, b2, ?_, Nat.le_trans b5 (Nat.mul_le_mul_right _ hl)⟩
  rw [PyData.depth]
  omega
/-- names for names as data -/
def nmD (M : NM) : PyData := .dict ((M.map fun e => PyData.str (S e.1)).zip (M.map fun e => PyData.str (S e.2)))
def NmOk (M : NM) : Prop := M.length ≤ 12 ∧ ∀ e ∈ M, isName e.1 = true ∧ isName e.2 = true
theorem NGood.ok {ns : List (List Nat)} {M : NM} (g : NGood ns M) (hn : ∀ n ∈ ns, isName n = true) : NmOk M := ⟨by rw [g.len]; exact g.few, fun e he => ⟨hn _ (g.mem e he), g.name e he⟩⟩
theorem nmD_eq (M : NM) : dictD (nmKvs M) (M.map fun e => PyData.str (S e.2)) = nmD M := by
  unfold dictD nmD nmKvs
  rw [List.map_map]
  rfl
theorem nm_fine {M : NM} (h : NmOk M) : FineD 3 50000 (nmD M) := by
  obtain ⟨b1, b2, b3, b4⟩ := kv_fine (w := 41) (ks := M.map fun e => PyData.str (S e.1)) (ds := M.map fun e => PyData.str (S e.2)) (fun d hd => by
    obtain ⟨e, he, rfl⟩ := List.mem_map.mp hd
    exact fine_name (h.2 e he).1) (fun d hd => by
    obtain ⟨e, he, rfl⟩ := List.mem_map.mp hd
    exact (fine_name (h.2 e he).2).mono (by decide) (by decide))
  refine ⟨b1, b2, ?_, ?_⟩
  · rw [nmD, PyData.depth]
    omega
  · show PyData.weightKv _ ≤ 50000
    rw [List.length_map] at b4
    have := Nat.mul_le_mul_right (41 + 43) h.1
    omega
theorem tab_fine {K : PySem.W.Frag} {H : Hp} {T : Tab} {vs : List V} {ds : List PyData} (hd : EntsD K H vs T ds) (ok : EntsOk T) : FineD 3 50000 (tabDs T ds) := by
  obtain ⟨k1, k2⟩ := entsD_dp hd (fun e he => ent_cells ok he) fun e he => (ok.2 e he).2.1
  obtain ⟨b1, b2, b3, b4⟩ := kv_fine (ks := T.map fun e => PyData.str (S e.1)) (ds := ds) (fun d hd => by
    obtain ⟨e, he, rfl⟩ := List.mem_map.mp hd
    exact fine_name (ok.2 e he).1) k2
  refine ⟨b1, b2, ?_, ?_⟩
  · rw [tabDs, PyData.depth]
    omega
  · show PyData.weightKv _ ≤ 50000
    have h1 : ds.length ≤ 10 := by rw [hd.2.1]; exact ok.1
    have h2 := Nat.mul_le_mul_right (4045 + 43) h1
    omega
def keptD (T : Tab) (ds : List PyData) (P C N : NM) : PyData := .list [tabDs T ds, .list [nmD P, nmD C, nmD N]]
theorem dpM_of {K : PySem.W.Frag} {H : Hp} {v : V} {d : PyData} (h : Dp K H v d) (nd : d.hasDict = false) : ∀ n, DpM K H n v d
  | 0 => ⟨h, nd⟩
  | _ + 1 => .inl ⟨h, nd⟩
theorem all2_of {K : PySem.W.Frag} {H : Hp} (n : Nat) : ∀ {vs : List V} {ds : List PyData}, DpAll K H vs ds → (∀ d ∈ ds, d.hasDict = false) → All2 (DpM K H n) vs ds
  | [], _, h, _ => by cases h; exact .nil
  | v :: vs, _, h, nd => by
    cases h with
    | cons h1 h2 => exact .cons (dpM_of h1 (nd _ List.mem_cons_self) n) (all2_of n h2 fun x hx => nd x (List.mem_cons_of_mem _ hx))
theorem nm_dpM {K : PySem.W.Frag} {H : Hp} {a : Addr} {M : NM} (n : Nat) (h : H a = some (.dK (nmKvs M))) : DpM K H (n + 1) (.ref a) (nmD M) := by
  refine .inr (.inr ⟨a, nmKvs M, M.map fun e => PyData.str (S e.2), rfl, (nmD_eq M).symm, h, ?_⟩)
  unfold nmKvs
  rw [List.map_map]
  clear h
  induction M with
  | nil => exact .nil
  | cons e M ih => exact .cons (dpM_of (.str _) rfl n) ih
theorem tab_dpM {K : PySem.W.Frag} {H : Hp} {a : Addr} {T : Tab} {vs : List V} {ds : List PyData} (n : Nat) (h : H a = some (.dK (kvsOf T vs))) (hd : EntsD K H vs T ds) (ok : EntsOk T) : DpM K H (n + 1) (.ref a) (tabDs T ds) := by
  obtain ⟨k1, k2⟩ := entsD_dp hd (fun e he => ent_cells ok he) fun e he => (ok.2 e he).2.1
  have e2 : (kvsOf T vs).map (·.2) = vs := by
    unfold kvsOf
    exact List.map_snd_zip (by rw [List.length_map, hd.1]; exact Nat.le_refl _)
  exact .inr (.inr ⟨a, kvsOf T vs, ds, rfl, (tabDs_eq hd.1).symm, h, by rw [e2]; exact all2_of n k1 fun d hd => (k2 d hd).nd⟩)
theorem repr_kept {K : PySem.W.Frag} {H : Hp} {l t dl a b c : Addr} {T : Tab} {vs : List V} {ds : List PyData} {P C N : NM} {Q : VK} (hl : H l = some (.lst [.ref t, .ref dl])) (ht : H t = some (.dK (kvsOf T vs))) (hd : EntsD K H vs T ds) (ok : EntsOk T)
    (hdl : H dl = some (.lst [.ref a, .ref b, .ref c])) (ha : H a = some (.dK (nmKvs P))) (hb : H b = some (.dK (nmKvs C))) (hc : H c = some (.dK (nmKvs N))) (oP : NmOk P) (oC : NmOk C) (oN : NmOk N) (q : Q (.str (keptD T ds P C N).shown) H) : rReprN K [.ref l] H Q := by
  have f1 := tab_fine hd ok
  have f2 : FineD 4 200000 (.list [nmD P, nmD C, nmD N]) := (fineD_lst (k := 3) (w := 50000) (n := 3) (fun d hd => by
    simp only [List.mem_cons, List.not_mem_nil, or_false] at hd
    rcases hd with rfl | rfl | rfl
    · exact nm_fine oP
    · exact nm_fine oC
    · exact nm_fine oN) (Nat.le_refl _)).mono (by decide) (by decide)
  have f3 : ∀ d ∈ [tabDs T ds, .list [nmD P, nmD C, nmD N]], FineD 4 200000 d := fun d hd => by
    simp only [List.mem_cons, List.not_mem_nil, or_false] at hd
    rcases hd with rfl | rfl
    · exact f1.mono (by decide) (by decide)
    · exact f2
  obtain ⟨b1, b2, b3, b4⟩ := fineD_all f3
  refine ⟨l, _, [tabDs T ds, .list [nmD P, nmD C, nmD N]], rfl, SqL.of hl, (fun z => by cases z), .cons (tab_dpM 3 ht hd ok) (.cons (.inr (.inl ⟨dl, _, _, rfl, rfl, SqL.of hdl, .cons (nm_dpM 2 ha) (.cons (nm_dpM 2 hb) (.cons (nm_dpM 2 hc) .nil))⟩)) .nil), b2, Nat.le_trans b3 (by decide), ?_, q⟩
  refine PyData.shown_fits (B := 13) (by decide) (by decide) b1 ?_
  show PyData.weightAll _ ≤ 2 ^ 20
  have : ([tabDs T ds, PyData.list [nmD P, nmD C, nmD N]] : List PyData).length = 2 := rfl
  rw [this] at b4
  omega
end Law
end
section
set_option Elab.async false
set_option linter.all false
set_option maxRecDepth 100000
set_option maxHeartbeats 4000000
namespace Law
open PySem PySem.Spec PyProof.Rows L2 IK SX
theorem ne_self {x : Str} {H : Hp} {Q : VK} (q : Q (.bl false) H) : rNe (.str x) (.str x) H Q := ⟨rfl, by rw [decide_eq_true rfl]; exact q⟩
theorem eq_self {x : Str} {H : Hp} {Q : VK} (q : Q (.bl true) H) : rEq (.str x) (.str x) H Q := ⟨rfl, by rw [decide_eq_true rfl]; exact q⟩
theorem wld_raw {k : KA} {H : Hp} {p : Addr} {W : Wld} (h : WldAt k H p W) : ∃ dx vs, H p = some (.ins k.W dx (wldK.zip vs)) := by
  obtain ⟨xc, xb, xs, ⟨dx, lp, lc, lb, ls, hp, _⟩, _⟩ := h
  exact ⟨dx, _, hp⟩
def rDictD : List V → Hp → VK → Prop := fun xs H Q => ∃ (a : Addr) (kvs : List (Key × V)), xs = [.ref a] ∧ Rd H a (.dK kvs) ∧ ∀ p, H p = none → Q (.ref p) (upd H p (.dK kvs))
/-! ### hiding dicts -/
theorem hide_ofD {D b : Addr} {H : Hp} {kvs : List (Key × V)} {o : HO} (h : H D = some (.dK kvs)) (ho : ∀ l, o ≠ .dK l) (e : H b = some o) : hide D H b = some o := by
  rw [hide_ne fun z => by rw [z, h] at e; exact ho _ (Option.some.inj e).symm]
  exact e
theorem same_hide {D : Addr} {H H' : Hp} (s : Same H H') (n : H D = none) : Same H (hide D H') := fun b o e => by
  rw [hide_ne (ne_of_none e n)]
  exact s b o e
theorem same_put {D : Addr} {Z H : Hp} {o : HO} (s : Same Z H) (n : Z D = none) : Same Z (upd H D o) := fun b u e => by
  rw [upd_ne (ne_of_none e n)]
  exact s b u e
theorem hide_at {D : Addr} {H : Hp} : hide D H D = none := if_pos rfl
theorem hide_none {D b : Addr} {H : Hp} (n : H b = none) : hide D H b = none := by
  unfold hide
  split
  · rfl
  · exact n
theorem bar_hide {D : Addr} {H : Hp} : Bar D H (hide D H) := fun b o n e => by rw [hide_ne n]; exact e
theorem WldAt.hideD {k : KA} {H : Hp} {p d : Addr} {W : Wld} {kvs : List (Key × V)} (h : WldAt k H p W) (hd : H d = some (.dK kvs)) : WldAt k (hide d H) p W := by
  obtain ⟨xc, xb, xs, ⟨dx, lp, lc, lb, ls, h1, h2, h3, h4, h5⟩, oc, ob, os⟩ := h
  have f : ∀ {b : Addr} {o : HO}, (∀ l, o ≠ .dK l) → H b = some o → hide d H b = some o := fun ho e => hide_ofD hd ho e
  have g : ∀ {C : Addr} {ks : List Str} {xs : List V} {vss : List (List V)}, Objs C H ks xs vss → Objs C (hide d H) ks xs vss := fun o => ⟨o.1, fun i x vs e1 e2 => by
    obtain ⟨p, e, dx, hp⟩ := o.2 i x vs e1 e2
    exact ⟨p, e, dx, f (fun l z => by cases z) hp⟩⟩
  exact ⟨xc, xb, xs, ⟨dx, lp, lc, lb, ls, f (fun l z => by cases z) h1, f (fun l z => by cases z) h2, f (fun l z => by cases z) h3, f (fun l z => by cases z) h4, f (fun l z => by cases z) h5⟩, g oc, g ob, g os⟩
theorem hide_dK {D b : Addr} {H : Hp} {kvs : List (Key × V)} (h : H b = some (.dK kvs)) : hide D H b = some (.dK kvs) ∨ D = b := by
  by_cases z : b = D
  · exact .inr z.symm
  · exact .inl (by rw [hide_ne z]; exact h)
/-- three dicts hidden -/
def hide3 (a b c : Addr) (H : Hp) : Hp := hide a (hide b (hide c H))
theorem hide3_a {a b c : Addr} {H : Hp} : hide3 a b c H a = none := hide_at
theorem hide3_b {a b c : Addr} {H : Hp} : hide3 a b c H b = none := hide_none hide_at
theorem hide3_c {a b c : Addr} {H : Hp} : hide3 a b c H c = none := hide_none (hide_none hide_at)
theorem hide3_none {a b c x : Addr} {H : Hp} (n : H x = none) : hide3 a b c H x = none := hide_none (hide_none (hide_none n))
theorem hide3_le {a b c : Addr} {H : Hp} : Same (hide3 a b c H) H := fun x o e => hide_le _ _ (hide_le _ _ (hide_le _ _ e))
theorem hide3_same {a b c : Addr} {H H' : Hp} (s : Same H H') : Same (hide3 a b c H) (hide3 a b c H') := hide_same (hide_same (hide_same s))
theorem same_hide3 {a b c : Addr} {H H' : Hp} (s : Same H H') (ha : H a = none) (hb : H b = none) (hc : H c = none) : Same H (hide3 a b c H') := same_hide (same_hide (same_hide s hc) hb) ha
theorem hide_cases {P : Hp → Prop} {d : Addr} {H : Hp} {kvs : List (Key × V)} (hd : H d = some (.dK kvs) ∨ H d = none) (f : ∀ kvs, H d = some (.dK kvs) → P H → P (hide d H)) (h : P H) : P (hide d H) := by
  rcases hd with hd | hd
  · exact f _ hd h
  · have : hide d H = H := by
      funext b
      by_cases z : b = d
      · rw [z, hide_at, hd]
      · rw [hide_ne z]
    rw [this]
    exact h
theorem hide_was {D b : Addr} {H : Hp} {kvs : List (Key × V)} (h : H b = some (.dK kvs)) : hide D H b = some (.dK kvs) ∨ hide D H b = none := by
  by_cases z : b = D
  · exact .inr (by rw [z]; exact hide_at)
  · exact .inl (by rw [hide_ne z]; exact h)
theorem hide_was2 {D b : Addr} {H : Hp} {kvs : List (Key × V)} (h : H b = some (.dK kvs) ∨ H b = none) : hide D H b = some (.dK kvs) ∨ hide D H b = none := by
  rcases h with h | h
  · exact hide_was h
  · exact .inr (hide_none h)
theorem hide3_of {P : Hp → Prop} {a b c : Addr} {H : Hp} {ka kb kc : List (Key × V)} (ha : H a = some (.dK ka)) (hb : H b = some (.dK kb)) (hc : H c = some (.dK kc)) (f : ∀ (d : Addr) (H : Hp) kvs, H d = some (.dK kvs) → P H → P (hide d H)) (h : P H) : P (hide3 a b c H) :=
  hide_cases (hide_was2 (hide_was ha)) (fun kvs e => f _ _ _ e) (hide_cases (hide_was hb) (fun kvs e => f _ _ _ e) (f _ _ _ hc h))
theorem hide3_tab {a b c t : Addr} {H : Hp} {T : Tab} (ha : t ≠ a) (hb : t ≠ b) (hc : t ≠ c) {us : List V} (e : H t = some (.dK (kvsOf T us))) : hide3 a b c H t = some (.dK (kvsOf T us)) := by
  unfold hide3
  rw [hide_ne ha, hide_ne hb, hide_ne hc]
  exact e
/-- what the law holds: the world, its rows, a table, names for names -/
structure Scene4 (K : PySem.W.Frag) (k : KA) (H : Hp) (W : Wld) (T : Tab) (P C N : NM) (pm aw t dl a b c : Addr) : Prop where
  made : WldAt k H pm W
  rows : ToldAt H aw W
  tab : TabAt K H t T
  dl : H dl = some (.lst [.ref a, .ref b, .ref c])
  ha : H a = some (.dK (nmKvs P))
  hb : H b = some (.dK (nmKvs C))
  hc : H c = some (.dK (nmKvs N))
  good : W.Good
  tg : TGood W T
  few : TFew T
  gP : NGood W.ports P
  gC : NGood W.cnames C
  gN : NGood W.vnames N
theorem Scene4.same {K : PySem.W.Frag} {k : KA} {H H' : Hp} {W : Wld} {T : Tab} {P C N : NM} {pm aw t dl a b c : Addr} (h : Scene4 K k H W T P C N pm aw t dl a b c) (s : Same H H') : Scene4 K k H' W T P C N pm aw t dl a b c :=
  ⟨h.made.same s, h.rows.same s, h.tab.same s, s _ _ h.dl, s _ _ h.ha, s _ _ h.hb, s _ _ h.hc, h.good, h.tg, h.few, h.gP, h.gC, h.gN⟩
theorem nmKvs_inj {M M' : NM} (h : nmKvs M = nmKvs M') : M = M' := by
  unfold nmKvs at h
  refine (List.map_inj_right ?_).mp h
  rintro ⟨a, b⟩ ⟨c, d⟩ e
  simp only [Prod.mk.injEq, Sum.inr.injEq, V.str.injEq] at e
  rw [S_inj e.1, S_inj e.2]
theorem each3 {F : V → V → Prop} {x y z : V} {ys : List V} (h : Each F [x, y, z] ys) : ∃ a b c, ys = [a, b, c] ∧ F x a ∧ F y b ∧ F z c := by
  obtain ⟨hl, hf⟩ := h
  match ys, hl with
  | [a, b, c], _ => exact ⟨a, b, c, rfl, hf 0 _ _ rfl rfl, hf 1 _ _ rfl rfl, hf 2 _ _ rfl rfl⟩
theorem eqV_nm {K : PySem.W.Frag} {H : Hp} {a b : Addr} {M : NM} (h1 : H a = some (.dK (nmKvs M))) (h2 : H b = some (.dK (nmKvs M))) (nd : (M.map (·.1)).Nodup) : EqV K H 2 (.ref a) (.ref b) := by
  refine .inr (.inr (.inr ⟨a, b, nmKvs M, nmKvs M, rfl, rfl, h1, h2, rfl, fun p hp => ?_⟩))
  obtain ⟨e, he, rfl⟩ := List.mem_map.mp hp
  exact ⟨_, nm_val nd he, .inl ⟨rfl, rfl⟩⟩
def spRight4 (K : PySem.W.Frag) (k : KA) : Sp := fun vs H Q _ => ∃ (sc : Addr) (W : Wld) (T : Tab) (P C N : NM) (pm aw t dl a b c : Addr), vs = [.ref sc] ∧ H sc = some (.tup [.ref pm, .ref aw, .ref t, .ref dl]) ∧ Scene4 K k H W T P C N pm aw t dl a b c ∧ ∀ H', Same H H' → Q (.bl true) H'
section
variable {P : Program} {w : World} {K : PySem.W.Frag} {mg : Str → Option Value} {base : Heap}
theorem ok_right4 {k : KA} {f : Addr} {fd : FuncData} (F : Fun K "_law_right" "_law_right" s__law_right f fd) (B : Blt mg) (TW : Cl K k.W wldK) (MT : Me P w K mg base CX0 3 k.W "told" ["self"] (spTold k)) (DRW : Dn P w K mg base CX0 9 "renamed" ["world", "ports", "channels", "vessels"] (spRenamed k)) (DRT : Dn P w K mg base CX0 7 "renamed_table" ["world", "table", "channels", "vessels"] (spRenT K k))
    (DD : Dn P w K mg base CX0 1 "_law_due" ["_law_world_here", "_law_ports", "_law_channels", "_law_vessels"] spDue) (DDT : Dn P w K mg base CX0 2 "_law_due_table" ["_law_world_here", "_law_table_here", "_law_channels", "_law_vessels"] (spDueT K)) (DC : Dn P w K mg base CX0 1 "_law_copy" ["_law_table_here"] (spLawCopy K))
    (DB : Dn P w K mg base CX0 1 "_law_back" ["_law_names_here"] spLawBack) (DA : Dn P w K mg base CX0 1 "_law_anew" ["_law_world_here", "_law_table_here"] (spAnewT K)) :
    FnG P w K mg base CX0 10 f fd ["_law_scene"] (spRight4 K k) := by
  refine funG F sc__law_right (fun vs H Q E h => ?_) (fun cdv A outer s H vs Q E hr gd h => ?_)
  · obtain ⟨sc, W, T, P, C, N, pm, aw, t, dl, a, b, c, rfl, _⟩ := h
    rfl
  · obtain ⟨sc, W, T, P, C, N, pm, aw, t, dl, a, b, c, rfl, hsc, S0, q⟩ := h
    have hu := hr.units
    have hu1 := room_u1 hr
    refine ⟨_, (pss_cons (ps_asg (pv 0) (pg_tup rfl (pgs_cons (pg_name (i := 1) sc__law_right.nd rfl (.inl rfl)) (pgs_cons (pg_name (i := 2) sc__law_right.nd rfl (.inl rfl)) (pgs_cons (pg_name (i := 3) sc__law_right.nd rfl (.inl rfl)) (pgs_cons (pg_name (i := 4) sc__law_right.nd rfl (.inl rfl)) pgs_nil))))))
      (pss_cons (ps_set (i := 5) sc__law_right.nd rfl (.inl rfl) (pe_callB (call_reprN gd hu) (by rfl) B.repr (by decide +kernel) (pa_cons (pe_lst (pa_cons (pv 3) (pa_cons (pv 4) pa_nil))) pa_nil)))
      (pss_cons (ps_set (i := 6) sc__law_right.nd rfl (.inl rfl) (pe_d DD (hr.mono (by decide)) (by rfl) pass0 (pa_cons (pv 2) (pa_cons (pe_ix ix_list (pv 4) pe_int (fun _ _ => rfl)) (pa_cons (pe_ix ix_list (pv 4) pe_int (fun _ _ => rfl)) (pa_cons (pe_ix ix_list (pv 4) pe_int (fun _ _ => rfl)) pa_nil))))))
      (pss_cons (ps_set (i := 7) sc__law_right.nd rfl (.inl rfl) (pe_d DDT (hr.mono (by decide)) (by rfl) pass0 (pa_cons (pv 2) (pa_cons (pv 3) (pa_cons (pe_ix ix_list (pv 4) pe_int (fun _ _ => rfl)) (pa_cons (pe_ix ix_list (pv 4) pe_int (fun _ _ => rfl)) pa_nil))))))
      (pss_cons (ps_for (passes_of rfl) rfl (pi_range1 (by rfl) B.range (pa_cons pe_int pa_nil)) (pg_name (i := 8) sc__law_right.nd rfl (.inl rfl))
      (pss_cons (ps_setLc (i := 9) (own := [("_law_names_here", 12)]) (g := gName 12) (tt := tYes) rfl sc__law_right.nd rfl rfl (by rfl) (pi_seq (pv 4)) (blkOk_by (N := ["_law_scene", "_law_made_here", "_law_world_here", "_law_table_here", "_law_dicts", "_law_kept", "_law_due_here", "_law_rows", "_law_turn", "_law_handed", "_law_found", "_law_told", "_law_names_here", "_law_back_here", "_law_again", "_law_entries"]) (sc := defScope s__law_right) (by decide +kernel)) (fun _ _ _ _ _ => pg_name (i := 12) sc__law_right.nd rfl (Or.inl rfl)) (fun _ _ _ _ _ => pts_nil) (fun _ _ _ _ _ => (pe_callTy (show CallR _ (.type "dict") rDictD from call_dictD) (by rfl) B.dict (by decide +kernel) (pa_cons (pv 12) pa_nil))))
      (pss_cons (ps_set (i := 10) sc__law_right.nd rfl (.inl rfl) (pe_d DRW (hr.mono (by decide)) (by rfl) pass0 (pa_cons (pv 1) (pa_cons (pe_ix ix_list (pv 9) pe_int (fun _ _ => rfl)) (pa_cons (pe_ix ix_list (pv 9) pe_int (fun _ _ => rfl)) (pa_cons (pe_ix ix_list (pv 9) pe_int (fun _ _ => rfl)) pa_nil))))))
      (pss_cons (ps_set (i := 11) sc__law_right.nd rfl (.inl rfl) (pe_d DRT (hr.mono (by decide)) (by rfl) pass0 (pa_cons (pv 1) (pa_cons (pe_d DC (hr.mono (by decide)) (by rfl) pass0 (pa_cons (pv 3) pa_nil)) (pa_cons (pe_ix ix_list (pv 9) pe_int (fun _ _ => rfl)) (pa_cons (pe_ix ix_list (pv 9) pe_int (fun _ _ => rfl)) pa_nil))))))
      (pss_cons (ps_if (PW.pt (pw_or (pt_cmpR (op_neV hu) (pv 9) (pv 4) (nomark _)) (pw_or (pt_cmpR op_ne (pe_callB (call_repr gd hu) (by rfl) B.repr (by decide +kernel) (pa_cons (pe_me0 MT TW.cls (hr.mono (by decide)) pass0 (pv 10)) pa_nil)) (pe_callB (call_repr gd hu) (by rfl) B.repr (by decide +kernel) (pa_cons (pv 6) pa_nil)) (nomark _)) (pw_or1 (pt_cmpR op_ne (pe_callB (call_reprM gd hu) (by rfl) B.repr (by decide +kernel) (pa_cons (pv 11) pa_nil)) (pe_callB (call_reprM gd hu) (by rfl) B.repr (by decide +kernel) (pa_cons (pv 7) pa_nil)) (nomark _)))))) (pss_one (ps_ret pe_bl)) pss_nil)
      (pss_cons (ps_if (PW.pt (pw_or (pt_cmpR op_ne (pe_callB (call_reprM gd hu) (by rfl) B.repr (by decide +kernel) (pa_cons (pe_d DRT (hr.mono (by decide)) (by rfl) pass0 (pa_cons (pv 1) (pa_cons (pv 3) (pa_cons (pe_ix ix_list (pv 4) pe_int (fun _ _ => rfl)) (pa_cons (pe_ix ix_list (pv 4) pe_int (fun _ _ => rfl)) pa_nil))))) pa_nil)) (pe_callB (call_reprM gd hu) (by rfl) B.repr (by decide +kernel) (pa_cons (pv 7) pa_nil)) (nomark _)) (pw_or1 (pt_cmpR op_ne (pe_callB (call_reprN gd hu) (by rfl) B.repr (by decide +kernel) (pa_cons (pe_lst (pa_cons (pv 3) (pa_cons (pv 4) pa_nil))) pa_nil)) (pv 5) (nomark _))))) (pss_one (ps_ret pe_bl)) pss_nil)
      (pss_cons (ps_for (passes_of rfl) rfl (pi_list (pv 9)) (pg_name (i := 12) sc__law_right.nd rfl (.inl rfl))
      (pss_one (ps_expr (pe_dclear (pv 12)))))
      (pss_cons (ps_setLc (i := 13) (own := [("_law_names_here", 12)]) (g := gName 12) (tt := tYes) rfl sc__law_right.nd rfl rfl (by rfl) (pi_seq (pv 4)) (blkOk_by (N := ["_law_scene", "_law_made_here", "_law_world_here", "_law_table_here", "_law_dicts", "_law_kept", "_law_due_here", "_law_rows", "_law_turn", "_law_handed", "_law_found", "_law_told", "_law_names_here", "_law_back_here", "_law_again", "_law_entries"]) (sc := defScope s__law_right) (by decide +kernel)) (fun _ _ _ _ _ => pg_name (i := 12) sc__law_right.nd rfl (Or.inl rfl)) (fun _ _ _ _ _ => pts_nil) (fun _ _ _ _ _ => (pe_d DB (hr.mono (by decide)) (by rfl) pass0 (pa_cons (pv 12) pa_nil))))
      (pss_cons (ps_set (i := 14) sc__law_right.nd rfl (.inl rfl) (pe_d DRW (hr.mono (by decide)) (by rfl) pass0 (pa_cons (pv 10) (pa_cons (pe_ix ix_list (pv 13) pe_int (fun _ _ => rfl)) (pa_cons (pe_ix ix_list (pv 13) pe_int (fun _ _ => rfl)) (pa_cons (pe_ix ix_list (pv 13) pe_int (fun _ _ => rfl)) pa_nil))))))
      (pss_cons (ps_if (PW.pt (pw_or (pt_cmpR op_ne (pe_callB (call_repr gd hu) (by rfl) B.repr (by decide +kernel) (pa_cons (pe_me0 MT TW.cls (hr.mono (by decide)) pass0 (pv 14)) pa_nil)) (pe_callB (call_repr gd hu) (by rfl) B.repr (by decide +kernel) (pa_cons (pv 2) pa_nil)) (nomark _)) (pw_or1 (pt_cmpR op_ne (pe_callB (call_repr gd hu) (by rfl) B.repr (by decide +kernel) (pa_cons (pe_me0 MT TW.cls (hr.mono (by decide)) pass0 (pv 1)) pa_nil)) (pe_callB (call_repr gd hu) (by rfl) B.repr (by decide +kernel) (pa_cons (pv 2) pa_nil)) (nomark _))))) (pss_one (ps_ret pe_bl)) pss_nil)
      (pss_cons (ps_if (pt_cmpR op_ne (pe_callB (call_reprM gd hu) (by rfl) B.repr (by decide +kernel) (pa_cons (pe_d DRT (hr.mono (by decide)) (by rfl) pass0 (pa_cons (pv 10) (pa_cons (pv 11) (pa_cons (pe_ix ix_list (pv 13) pe_int (fun _ _ => rfl)) (pa_cons (pe_ix ix_list (pv 13) pe_int (fun _ _ => rfl)) pa_nil))))) pa_nil)) (pe_callB (call_reprM gd hu) (by rfl) B.repr (by decide +kernel) (pa_cons (pe_d DA (hr.mono (by decide)) (by rfl) pass0 (pa_cons (pv 2) (pa_cons (pv 3) pa_nil))) pa_nil)) (nomark _)) (pss_one (ps_ret pe_bl)) pss_nil)
      (pss_one (ps_lock (ps_for (passes_of rfl) rfl (pi_values (pv 11)) (pg_name (i := 15) sc__law_right.nd rfl (.inl rfl))
      (pss_one (ps_expr (pe_bm0 PySem.F.plainAttrs_list PySem.F.slot_list_clear PySem.F.type_list_clear mt_clear (pv 15))))))))))))))))))
      (pss_one (ps_ret (pe_cmpR op_eq (pe_callB (call_repr gd hu) (by rfl) B.repr (by decide +kernel) (pa_cons (pe_me0 MT TW.cls (hr.mono (by decide)) pass0 (pv 10)) pa_nil)) (pe_callB (call_repr gd hu) (by rfl) B.repr (by decide +kernel) (pa_cons (pv 6) pa_nil)) (nomark _))))))))), ?_⟩
    have g := S0.good
    have gr := g.ren S0.gP S0.gC S0.gN
    obtain ⟨vs, ht, hvs⟩ := id S0.tab
    obtain ⟨ds, hds⟩ := entsD_of hvs
    have ok := ents_ok g S0.tg S0.few
    have ok' := ents_ok g (tabTold_good g S0.tg) (S0.few.told g)
    have tgt := tabTold_good g S0.tg
    have okr := ents_ok_ren ok' S0.gC S0.gN (fun e he => (tabTold_mem he).1) (fun e he => (tgt.rise e he).mem)
    have oP := S0.gP.ok g.names
    have oC := S0.gC.ok (cname_ok g)
    have oN := S0.gN.ok (fun n hn => vname_ok g hn)
    refine ⟨_, rfl, sc, _, rfl, .inl (.inl hsc), rfl, _, _, rfl, _, _, rfl, _, _, rfl, _, _, rfl, rfl, ?_⟩
    refine ⟨_, rfl, _, rfl, ?_⟩
    refine ⟨Nat.le_of_ble_eq_true rfl, fun l1 hl1 => ?_⟩
    generalize hXq : upd _ l1 _ = H1
    have s1 := laid_same hXq hl1
    have e1 := laid_at hXq
    clear hXq
    dsimp only [tCons, tC, tNil]
    have S1 := S0.same s1
    refine repr_kept e1 (s1 _ _ ht) (hds.nb (Nb.same s1)) ok S1.dl S1.ha S1.hb S1.hc oP oC oN ?_
    refine ⟨_, rfl, _, rfl, dl, _, 0, _, rfl, rfl, SqL.of S1.dl, rfl, _, rfl, dl, _, 1, _, rfl, rfl, SqL.of S1.dl, rfl, _, rfl, dl, _, 2, _, rfl, rfl, SqL.of S1.dl, rfl, aw, a, b, c, W, P, C, N, rfl, S1.rows, g, S1.ha, S1.hb, S1.hc, S1.gP, S1.gC, S1.gN, fun du H2 hdu s2 hTd => ?_⟩
    have S2 := S1.same s2
    refine ⟨_, rfl, _, rfl, _, rfl, dl, _, 1, _, rfl, rfl, SqL.of S2.dl, rfl, _, rfl, dl, _, 2, _, rfl, rfl, SqL.of S2.dl, rfl, aw, t, b, c, W, T, C, N, rfl, S2.rows, g, S2.tab, S2.tg, S2.hb, S2.hc, S2.gC, S2.gN, fun rw' H3 hrw s3 hLr => ?_⟩
    have S3 := S2.same s3
    have hTd3 := hTd.same s3
    have s03 : Same H H3 := s1.trans (s2.trans s3)
    refine ⟨2, rfl, by decide, by decide, for_it walk_rng (fun i σ H' => ∃ y1 y2 y3 y4 y5 y6 y7 y8, σ = [some (.ref sc), some (.ref pm), some (.ref aw), some (.ref t), some (.ref dl), some (.str (keptD T ds P C N).shown), some (.ref du), some (.ref rw'), y1, y2, y3, y4, y5, y6, y7, y8] ∧ Same H3 H' ∧ (1 ≤ i → ∃ pf, y3 = some (.ref pf) ∧ WldAt k H' pf (W.ren P C N)))
      ⟨_, _, _, _, _, _, _, _, rfl, Same.refl _, fun h => by omega⟩ (fun _ _ _ _ _ => trivial) ?_ ?_⟩
    · rintro i x σ Hq Hi hi ⟨_, _, _, _, _, _, _, _, rfl, si, _⟩ ⟨rfl, rfl⟩
      have Si := S3.same si
      refine ⟨_, rfl, dl, rfl, lc_map (fun x y H' => ∃ p d kvs, x = .ref p ∧ Hi p = some (.dK kvs) ∧ y = .ref d ∧ Hi d = none ∧ H' d = some (.dK kvs)) (.l Si.dl) (Nat.lt_of_le_of_lt (show 3 ≤ 3 from Nat.le_refl _) (by decide)) (fun x y H H' s ⟨p, d, kvs, h1, h2, h3, h4, h5⟩ => ⟨p, d, kvs, h1, h2, h3, h4, s _ _ h5⟩)
        (fun x y H D l hD ⟨p, d, kvs, h1, h2, h3, h4, h5⟩ => ⟨p, d, kvs, h1, h2, h3, h4, hide_of hD (fun _ z => by cases z) h5⟩) ?_ ?_⟩
      · intro x J0 kk hx s0 kq
        obtain ⟨p, M, rfl, hp⟩ : ∃ p M, x = .ref p ∧ Hi p = some (.dK (nmKvs M)) := by
          simp only [List.mem_cons, List.not_mem_nil, or_false] at hx
          rcases hx with rfl | rfl | rfl
          · exact ⟨a, P, rfl, Si.ha⟩
          · exact ⟨b, C, rfl, Si.hb⟩
          · exact ⟨c, N, rfl, Si.hc⟩
        refine ⟨rfl, _, rfl, p, _, rfl, .inl (s0 _ _ hp), fun o ho => ?_⟩
        generalize hXq : upd _ o _ = J1
        have u1 := laid_same hXq ho
        have e1' := laid_at hXq
        clear hXq
        exact kq _ _ u1 ⟨p, o, _, rfl, hp, rfl, none_back s0 ho, e1'⟩
      intro lh ys J1 hlh t1 hlhy hys
      obtain ⟨_, _, _, rfl, ⟨pa, h1, ka, e1', q1, rfl, n1, m1⟩, ⟨pb, h2, kb, e2', q2, rfl, n2, m2⟩, ⟨pc, h3, kc, e3', q3, rfl, n3, m3⟩⟩ := each3 hys
      injection e1' with e1'
      injection e2' with e2'
      injection e3' with e3'
      subst e1' e2' e3'
      rw [Si.ha] at q1
      rw [Si.hb] at q2
      rw [Si.hc] at q3
      injection q1 with q1
      injection q1 with q1
      injection q2 with q2
      injection q2 with q2
      injection q3 with q3
      injection q3 with q3
      subst q1 q2 q3
      have SJ := Si.same t1
      -- found
      refine ⟨_, rfl, _, rfl, lh, _, 0, _, rfl, rfl, SqL.of hlhy, rfl, _, rfl, lh, _, 1, _, rfl, rfl, SqL.of hlhy, rfl, _, rfl, lh, _, 2, _, rfl, rfl, SqL.of hlhy, rfl, pm, h1, h2, h3, W, P, C, N, rfl, SJ.made, g, m1, m2, m3, S0.gP, S0.gC, S0.gN, fun pf J2 hpf t2 hWf => ?_⟩
      have SJ2 := SJ.same t2
      -- told
      refine ⟨_, rfl, _, rfl, t, T, rfl, SJ2.tab, S0.tg.nd, S0.few.len, fun tc J3 htc t3 hLc => ?_⟩
      have SJ3 := SJ2.same t3
      have t23 := t2.trans t3
      refine ⟨_, rfl, lh, _, 1, _, rfl, rfl, SqL.of (t23 _ _ hlhy), rfl, _, rfl, lh, _, 2, _, rfl, rfl, SqL.of (t23 _ _ hlhy), rfl, pm, tc, h2, h3, W, T, C, N, rfl, SJ3.made, g, hLc.at, S0.tg, t23 _ _ m2, t23 _ _ m3, S0.gC, S0.gN, fun td J4 htd t4 hF => ?_⟩
      have SJ4 := SJ3.same t4
      have t24 := t23.trans t4
      have t34 := t3.trans t4
      have hWf4 := hWf.same t34
      -- handed != dicts
      refine ⟨_, rfl, _, rfl, 2, lh, dl, _, _, by decide, rfl, rfl, SqL.of (t24 _ _ hlhy), SqL.of SJ4.dl, .cons (eqV_nm (t24 _ _ m1) SJ4.ha S0.gP.keys) (.cons (eqV_nm (t24 _ _ m2) SJ4.hb S0.gC.keys) (.cons (eqV_nm (t24 _ _ m3) SJ4.hc S0.gN.keys) .nil)), ?_⟩
      refine ⟨_, rfl, iteF ?_⟩
      obtain ⟨dxf, vf, hpf4⟩ := wld_raw hWf4
      refine ⟨_, rfl, pf, dxf, _, rfl, hpf4, look_no (by decide +kernel), pf, W.ren P C N, rfl, hWf4, gr, fun a3 J5 h3' t5 hT3 => ?_⟩
      dsimp only [tCons, tC, tNil]
      refine repr_told hT3 gr ?_
      have t05 := (si.trans t1).trans (t24.trans t5)
      refine ⟨_, rfl, ?_⟩
      dsimp only [tCons, tC, tNil]
      refine repr_told (hTd3.same t05) gr ?_
      refine ne_self ?_
      refine ⟨_, rfl, iteF ?_⟩
      refine ⟨_, rfl, ?_⟩
      dsimp only [tCons, tC, tNil]
      refine repr_tabL (hF.l.same t5) okr ?_
      refine ⟨_, rfl, ?_⟩
      dsimp only [tCons, tC, tNil]
      refine repr_tabL (hLr.same t05) okr ?_
      refine ne_self ?_
      refine ⟨_, rfl, iteF ?_⟩
      have SJ5 := SJ4.same t5
      refine ⟨_, rfl, _, rfl, _, rfl, dl, _, 1, _, rfl, rfl, SqL.of SJ5.dl, rfl, _, rfl, dl, _, 2, _, rfl, rfl, SqL.of SJ5.dl, rfl, pm, t, b, c, W, T, C, N, rfl, SJ5.made, g, SJ5.tab, S0.tg, SJ5.hb, SJ5.hc, S0.gC, S0.gN, fun te J6 hte t6 hF6 => ?_⟩
      dsimp only [tCons, tC, tNil]
      refine repr_tabL hF6.l okr ?_
      refine ⟨_, rfl, ?_⟩
      dsimp only [tCons, tC, tNil]
      refine repr_tabL (hLr.same (t05.trans t6)) okr ?_
      refine ne_self ?_
      refine ⟨_, rfl, iteF ?_⟩
      refine ⟨_, rfl, _, rfl, ?_⟩
      refine ⟨Nat.le_of_ble_eq_true rfl, fun l7 hl7 => ?_⟩
      generalize hXq : upd _ l7 _ = J7
      have t7 := laid_same hXq hl7
      have e7 := laid_at hXq
      clear hXq
      dsimp only [tCons, tC, tNil]
      have SJ7 := (SJ5.same t6).same t7
      have s07 : Same H J7 := s03.trans (t05.trans (t6.trans t7))
      refine repr_kept e7 (s07 _ _ ht) (hds.nb (Nb.same s07)) ok SJ7.dl SJ7.ha SJ7.hb SJ7.hc oP oC oN ?_
      refine ⟨_, rfl, ne_self ?_⟩
      refine ⟨_, rfl, iteF ?_⟩
      -- the handed dicts are cleared
      have t27 := t24.trans (t5.trans (t6.trans t7))
      have t47 := t5.trans (t6.trans t7)
      have z1 : Same (hide3 h1 h2 h3 J2) (hide3 h1 h2 h3 J7) := hide3_same (t34.trans t47)
      have hi1 := n1
      have sHi : Same Hi J2 := t1.trans t2
      have SZ1 : Scene4 K k (hide3 h1 h2 h3 J2) W T P C N pm aw t dl a b c := Si.same (same_hide3 sHi n1 n2 n3)
      have WZ1 : WldAt k (hide3 h1 h2 h3 J2) pf (W.ren P C N) := hide3_of (P := fun H => WldAt k H pf (W.ren P C N)) (t2 _ _ m1) (t2 _ _ m2) (t2 _ _ m3) (fun d H kvs e h => h.hideD e) hWf
      have sZ1 : Same Hi (hide3 h1 h2 h3 J2) := same_hide3 sHi n1 n2 n3
      obtain ⟨us, f1, f2, f3⟩ := hF
      have VZ2 : ValsL (hide3 h1 h2 h3 J7) us (tabRen C N (tabTold W T)) := hide3_of (P := fun H => ValsL H us (tabRen C N (tabTold W T))) (t27 _ _ m1) (t27 _ _ m2) (t27 _ _ m3) (fun d H kvs e h => h.bar bar_hide e) (f2.same t47)
      have ntd : ∀ {h : Addr} {kvs : List (Key × V)}, J1 h = some (.dK kvs) → td ≠ h := fun e z => by
        rw [z] at htd
        rw [t23 _ _ e] at htd
        cases htd
      have DZ2 : hide3 h1 h2 h3 J7 td = some (.dK (kvsOf (tabRen C N (tabTold W T)) us)) := hide3_tab (ntd m1) (ntd m2) (ntd m3) (t47 _ _ f1)
      have hlh7 : J7 lh = some (.lst [.ref h1, .ref h2, .ref h3]) := t27 _ _ hlhy
      have hlhZ : hide3 h1 h2 h3 J7 lh = some (.lst [.ref h1, .ref h2, .ref h3]) := hide3_of (P := fun H => H lh = some (.lst [.ref h1, .ref h2, .ref h3])) (t27 _ _ m1) (t27 _ _ m2) (t27 _ _ m3) (fun d H kvs e h => hide_ofD e (fun l z => by cases z) h) hlh7
      refine ⟨_, rfl, lh, rfl, ⟨_, SqL.of hlh7⟩, for_it (walk_lst (xs := [.ref h1, .ref h2, .ref h3])) (fun j σ H' => ∃ y, σ = [some (.ref sc), some (.ref pm), some (.ref aw), some (.ref t), some (.ref dl), some (.str (keptD T ds P C N).shown), some (.ref du), some (.ref rw'), some (.int (0 + (i : Int))), some (.ref lh), some (.ref pf), some (.ref td), y, _, _, _] ∧ Same (hide3 h1 h2 h3 J7) H' ∧ ∀ h ∈ [h1, h2, h3], ∃ kvs, H' h = some (.dK kvs)) ⟨_, rfl, hide3_le, fun h hh => ?_⟩ (fun j σ H' _ ⟨_, _, s, _⟩ => SqL.of (s _ _ hlhZ)) ?_ ?_⟩
      · simp only [List.mem_cons, List.not_mem_nil, or_false] at hh
        rcases hh with rfl | rfl | rfl
        · exact ⟨_, t27 _ _ m1⟩
        · exact ⟨_, t27 _ _ m2⟩
        · exact ⟨_, t27 _ _ m3⟩
      · rintro j x σ Hq' Hj hj ⟨_, rfl, sj, hdj⟩ ⟨rfl, hx⟩
        obtain ⟨h, hh, rfl⟩ : ∃ h ∈ [h1, h2, h3], x = .ref h := by
          have := List.mem_of_getElem? hx
          simp only [List.mem_cons, List.not_mem_nil, or_false] at this
          rcases this with rfl | rfl | rfl
          · exact ⟨_, by simp, rfl⟩
          · exact ⟨_, by simp, rfl⟩
          · exact ⟨_, by simp, rfl⟩
        obtain ⟨kvs, hk⟩ := hdj h hh
        have nz : hide3 h1 h2 h3 J7 h = none := by
          simp only [List.mem_cons, List.not_mem_nil, or_false] at hh
          rcases hh with rfl | rfl | rfl
          · exact hide3_a
          · exact hide3_b
          · exact hide3_c
        refine ⟨_, rfl, .inr (.inr (.inl ⟨rfl, .inl ⟨_, hk⟩⟩)), h, kvs, rfl, rfl, hk, ?_⟩
        refine ⟨_, rfl, same_put sj nz, fun h' hh' => ?_⟩
        by_cases z : h' = h
        · exact ⟨_, by rw [z]; exact upd_same⟩
        · obtain ⟨kvs', hk'⟩ := hdj h' hh'
          exact ⟨kvs', by rw [upd_ne z]; exact hk'⟩
      · rintro σ J8 ⟨_, rfl, s8, _⟩
        have SJ8 := (SZ1.same z1).same s8
        have WJ8 := (WZ1.same z1).same s8
        refine ⟨_, rfl, dl, rfl, lc_map (fun x y H' => ∃ p M d, x = .ref p ∧ J8 p = some (.dK (nmKvs M)) ∧ y = .ref d ∧ H' d = some (.dK (nmKvs M.back))) (.l SJ8.dl) (Nat.lt_of_le_of_lt (show 3 ≤ 3 from Nat.le_refl _) (by decide)) (fun x y H H' s ⟨p, M, d, h1, h2, h3, h5⟩ => ⟨p, M, d, h1, h2, h3, s _ _ h5⟩)
          (fun x y H D l hD ⟨p, M, d, h1, h2, h3, h5⟩ => ⟨p, M, d, h1, h2, h3, hide_of hD (fun _ z => by cases z) h5⟩) ?_ ?_⟩
        · intro x J0 kk hx s0 kq
          obtain ⟨p, M, rfl, hp, nd, few⟩ : ∃ p M, x = .ref p ∧ J8 p = some (.dK (nmKvs M)) ∧ (M.map (·.2)).Nodup ∧ M.length ≤ 12 := by
            simp only [List.mem_cons, List.not_mem_nil, or_false] at hx
            rcases hx with rfl | rfl | rfl
            · exact ⟨a, P, rfl, SJ8.ha, S0.gP.vals, oP.1⟩
            · exact ⟨b, C, rfl, SJ8.hb, S0.gC.vals, oC.1⟩
            · exact ⟨c, N, rfl, SJ8.hc, S0.gN.vals, oN.1⟩
          refine ⟨rfl, _, rfl, p, M, rfl, s0 _ _ hp, nd, few, fun d J1' hd u1 e1' => ?_⟩
          exact kq _ _ u1 ⟨p, M, d, rfl, hp, rfl, e1'⟩
        intro lb ys J9 hlb t9 hlby hys
        obtain ⟨_, _, _, rfl, ⟨pa, Ma, b1, e1', q1, rfl, m1'⟩, ⟨pb, Mb, b2, e2', q2, rfl, m2'⟩, ⟨pc, Mc, b3, e3', q3, rfl, m3'⟩⟩ := each3 hys
        injection e1' with e1'
        injection e2' with e2'
        injection e3' with e3'
        subst e1' e2' e3'
        rw [SJ8.ha] at q1
        rw [SJ8.hb] at q2
        rw [SJ8.hc] at q3
        injection q1 with q1
        injection q1 with q1
        injection q2 with q2
        injection q2 with q2
        injection q3 with q3
        injection q3 with q3
        obtain rfl := nmKvs_inj q1
        obtain rfl := nmKvs_inj q2
        obtain rfl := nmKvs_inj q3
        have WJ9 := WJ8.same t9
        have gbP : NGood (W.ren P C N).ports P.back := S0.gP.bck g.names
        have gbC : NGood (W.ren P C N).cnames C.back := by rw [ren_cnames]; exact S0.gC.bck (cname_ok g)
        have gbN : NGood (W.ren P C N).vnames N.back := by rw [ren_vnames]; exact S0.gN.bck (fun n hn => vname_ok g hn)
        refine ⟨_, rfl, _, rfl, lb, _, 0, _, rfl, rfl, SqL.of hlby, rfl, _, rfl, lb, _, 1, _, rfl, rfl, SqL.of hlby, rfl, _, rfl, lb, _, 2, _, rfl, rfl, SqL.of hlby, rfl, pf, b1, b2, b3, W.ren P C N, P.back, C.back, N.back, rfl, WJ9, gr, m1', m2', m3', gbP, gbC, gbN, fun pg J10 hpg t10 hWg => ?_⟩
        rw [ren_back g S0.gP S0.gC S0.gN] at hWg
        obtain ⟨dxg, vg, hpg'⟩ := wld_raw hWg
        refine ⟨_, rfl, pg, dxg, _, rfl, hpg', look_no (by decide +kernel), pg, W, rfl, hWg, g, fun a4 J11 h4 t11 hT4 => ?_⟩
        dsimp only [tCons, tC, tNil]
        refine repr_told hT4 g ?_
        have t811 := t9.trans (t10.trans t11)
        have SJ11 := SJ8.same t811
        refine ⟨_, rfl, ?_⟩
        dsimp only [tCons, tC, tNil]
        refine repr_told SJ11.rows g ?_
        refine ne_self ?_
        refine ⟨_, rfl, iteF ?_⟩
        obtain ⟨dxm, vm, hpm⟩ := wld_raw SJ11.made
        refine ⟨_, rfl, pm, dxm, _, rfl, hpm, look_no (by decide +kernel), pm, W, rfl, SJ11.made, g, fun a5 J12 h5 t12 hT5 => ?_⟩
        dsimp only [tCons, tC, tNil]
        refine repr_told hT5 g ?_
        refine ⟨_, rfl, ?_⟩
        dsimp only [tCons, tC, tNil]
        refine repr_told (SJ11.rows.same t12) g ?_
        refine ne_self ?_
        refine ⟨_, rfl, iteF ?_⟩
        have t912 := t10.trans (t11.trans t12)
        have t812 := t9.trans t912
        have SJ12 := SJ8.same t812
        have hTab12 : TabL J12 td (tabRen C N (tabTold W T)) := ⟨us, t812 _ _ (s8 _ _ DZ2), (VZ2.same s8).same t812⟩
        refine ⟨_, rfl, _, rfl, _, rfl, lb, _, 1, _, rfl, rfl, SqL.of (t912 _ _ hlby), rfl, _, rfl, lb, _, 2, _, rfl, rfl, SqL.of (t912 _ _ hlby), rfl, pf, td, b2, b3, W.ren P C N, tabRen C N (tabTold W T), C.back, N.back, rfl, WJ8.same t812, gr, hTab12.at, tgt.ren S0.gN, t912 _ _ m2', t912 _ _ m3', gbC, gbN, fun tg' J13 htg t13 hF13 => ?_⟩
        rw [told_ren S0.gN, tab_back S0.gC S0.gN (fun e he => (tabTold_mem he).1) (fun e he => (tgt.rise e he).mem)] at hF13
        dsimp only [tCons, tC, tNil]
        refine repr_tabL hF13.l ok' ?_
        have SJ13 := SJ12.same t13
        refine ⟨_, rfl, _, rfl, aw, t, W, T, rfl, SJ13.rows, g, SJ13.tab, fun ta J14 hta t14 hL14 => ?_⟩
        dsimp only [tCons, tC, tNil]
        refine repr_tabL hL14 ok' ?_
        refine ne_self ?_
        refine ⟨_, rfl, iteF ?_⟩
        -- the told lists are cleared
        have t814 := t812.trans (t13.trans t14)
        have sZ14 : Same (hide3 h1 h2 h3 J2) J14 := z1.trans (s8.trans t814)
        have f1' : J14 td = some (.dK (kvsOf (tabRen C N (tabTold W T)) us)) := t814 _ _ (s8 _ _ DZ2)
        have f2' : ValsL J14 us (tabRen C N (tabTold W T)) := (VZ2.same s8).same t814
        have ztd : hide3 h1 h2 h3 J2 td = none := hide3_none (none_back t3 htd)
        refine ⟨td, _, f1', trivial, fun od => ?_⟩
        refine ⟨_, rfl, td, od, _, rfl, upd_same, ?_⟩
        refine for_it walk_values (fun j σ H' => ∃ y, σ = [some (.ref sc), some (.ref pm), some (.ref aw), some (.ref t), some (.ref dl), some (.str (keptD T ds P C N).shown), some (.ref du), some (.ref rw'), some (.int (0 + (i : Int))), some (.ref lh), some (.ref pf), some (.ref td), _, _, _, y] ∧ Same (hide3 h1 h2 h3 J2) H' ∧
          H' td = some (.frz od (.dK (kvsOf (tabRen C N (tabTold W T)) us))) ∧ ∀ v ∈ us, ∃ b l, v = .ref b ∧ hide3 h1 h2 h3 J2 b = none ∧ H' b = some (.lst l)) ⟨_, rfl, same_put sZ14 ztd, upd_same, ?_⟩ (fun i σ H' _ ⟨_, _, _, e, _⟩ => e) ?_ ?_
        · intro v hv
          obtain ⟨b, rfl, hb0⟩ := f3 v hv
          obtain ⟨j, hj⟩ := List.getElem?_of_mem hv
          have hjl : j < (tabRen C N (tabTold W T)).length := by rw [← f2.1]; exact (List.getElem?_eq_some_iff.mp hj).1
          obtain ⟨b', zs, e1, e2, e3⟩ := f2'.2 j (.ref b) _ hj (List.getElem?_eq_getElem hjl)
          injection e1 with e1
          subst e1
          refine ⟨b, zs, rfl, hide3_none (none_back t3 hb0), ?_⟩
          rw [upd_ne (fun z => by rw [z, f1'] at e2; cases e2)]
          exact e2
        · rintro j v σ H0' H' hj ⟨_, rfl, k1, k3, k4⟩ ⟨rfl, kx, hkv⟩
          have hv : v ∈ us := by
            have := List.mem_of_getElem? hkv
            exact (List.of_mem_zip this).2
          obtain ⟨b, l, rfl, hb0, hbl⟩ := k4 v hv
          have btd : b ≠ td := fun z => by rw [z, k3] at hbl; cases hbl
          refine ⟨_, rfl, .inl ⟨rfl, l, .inl (.inl hbl)⟩, b, l, rfl, rfl, hbl, ?_⟩
          refine ⟨_, rfl, same_put k1 hb0, ?_, fun v' hv' => ?_⟩
          · rw [upd_ne (Ne.symm btd)]
            exact k3
          · obtain ⟨b', l', rfl, hb0', hbl'⟩ := k4 v' hv'
            by_cases z : b' = b
            · subst z
              exact ⟨b', _, rfl, hb0', upd_same⟩
            · exact ⟨b', l', rfl, hb0', by rw [upd_ne z]; exact hbl'⟩
        · rintro σ H9 ⟨_, rfl, k1, k3, _⟩
          refine ⟨k3, ?_⟩
          have sA : Same (hide3 h1 h2 h3 J2) (upd H9 td (.dK (kvsOf (tabRen C N (tabTold W T)) us))) := same_put k1 ztd
          exact ⟨_, _, _, _, _, _, _, _, rfl, si.trans (sZ1.trans sA), fun _ => ⟨pf, rfl, WZ1.same sA⟩⟩
    · rintro σ H' ⟨_, _, _, _, _, _, _, _, rfl, sE, hf⟩
      obtain ⟨pf, rfl, hWf⟩ := hf (by decide)
      obtain ⟨dxf, vf, hpf⟩ := wld_raw hWf
      refine ⟨_, rfl, pf, dxf, _, rfl, hpf, look_no (by decide +kernel), pf, W.ren P C N, rfl, hWf, gr, fun a3 J5 h3' t5 hT3 => ?_⟩
      dsimp only [tCons, tC, tNil]
      refine repr_told hT3 gr ?_
      refine ⟨_, rfl, ?_⟩
      dsimp only [tCons, tC, tNil]
      refine repr_told ((hTd3.same sE).same t5) gr ?_
      exact eq_self (q _ (s03.trans (sE.trans t5)))
end
end Law
end
section
set_option Elab.async false
set_option linter.all false
set_option maxRecDepth 100000
set_option maxHeartbeats 4000000
namespace Law
open PySem PySem.Spec PyProof.Rows L2 IK SX
def spLaw (K : PySem.W.Frag) : Sp := fun vs H Q _ => ∃ (a : Addr) (ns : List Int), vs = [.ref a] ∧ SqL K H a (ns.map V.int) ∧ (∀ l, H a ≠ some (.lst l)) ∧ ns.length ≤ 63 ∧ ∀ H', Q (.bl true) H'
theorem Nb.hide {H H' : Hp} {d : Addr} (s : Nb H H') : Nb (hide d H) (hide d H') := fun b o n e => by
  by_cases z : b = d
  · simp [Law.hide, z] at e
  · rw [hide_ne z] at e ⊢
    exact s b o n e
theorem Scene4.nb {K : PySem.W.Frag} {k : KA} {H H' : Hp} {W : Wld} {T : Tab} {P C N : NM} {pm aw t dl a b c : Addr} (h : Scene4 K k H W T P C N pm aw t dl a b c) (s : Nb H H') : Scene4 K k H' W T P C N pm aw t dl a b c :=
  ⟨h.made.nb s, h.rows.nb s, h.tab.nb s, s _ _ (nb_lst fun x hx i z => by
    simp only [List.mem_cons, List.not_mem_nil, or_false] at hx
    rcases hx with rfl | rfl | rfl <;> cases z) h.dl, s _ _ rfl h.ha, s _ _ rfl h.hb, s _ _ rfl h.hc, h.good, h.tg, h.few, h.gP, h.gC, h.gN⟩
/-- the scenes that are held in the list at d -/
def Held (K : PySem.W.Frag) (k : KA) (d : Addr) (H : Hp) (v : V) : Prop := ∃ sc W T P C N pm aw t dl a b c, v = .ref sc ∧ hide d H sc = some (.tup [.ref pm, .ref aw, .ref t, .ref dl]) ∧ Scene4 K k (hide d H) W T P C N pm aw t dl a b c
theorem Held.nb {K : PySem.W.Frag} {k : KA} {d : Addr} {H H' : Hp} {v : V} (h : Held K k d H v) (s : Nb H H') : Held K k d H' v := by
  obtain ⟨sc, W, T, P, C, N, pm, aw, t, dl, a, b, c, h1, h2, h3⟩ := h
  exact ⟨sc, W, T, P, C, N, pm, aw, t, dl, a, b, c, h1, s.hide _ _ rfl h2, h3.nb s.hide⟩
theorem Held.put {K : PySem.W.Frag} {k : KA} {d : Addr} {H : Hp} {o : HO} {v : V} (h : Held K k d H v) : Held K k d (upd H d o) v := by
  obtain ⟨sc, W, T, P, C, N, pm, aw, t, dl, a, b, c, h1, h2, h3⟩ := h
  exact ⟨sc, W, T, P, C, N, pm, aw, t, dl, a, b, c, h1, by rw [hide_upd]; exact h2, by rw [hide_upd]; exact h3⟩
/-- the script: locked, or written -/
def Scr (K : PySem.W.Frag) (H : Hp) (a : Addr) (xs : List V) : Prop := (∃ o, H a = some (.frz o (.lst xs))) ∨ ∃ (o : Obj) (its : Array Value) (n : Nat), K.lookup a = some o ∧ o.cls = .type "list" ∧ o.dict = none ∧ o.data = .seq its n ∧ its.size ≤ sizeLine ∧ Vals xs its.toList
theorem Scr.l {K : PySem.W.Frag} {H : Hp} {a : Addr} {xs : List V} (h : Scr K H a xs) : SqL K H a xs := by
  rcases h with h | h
  · exact .inl (.inr h)
  · exact .inr h
theorem Scr.of {K : PySem.W.Frag} {H : Hp} {a : Addr} {xs : List V} (h : SqL K H a xs) (n : ∀ l, H a ≠ some (.lst l)) : Scr K H a xs := by
  rcases h with (h | h) | h
  · exact absurd h (n _)
  · exact .inl h
  · exact .inr h
theorem Scr.nb {K : PySem.W.Frag} {H H' : Hp} {a : Addr} {xs : List V} (h : Scr K H a xs) (s : Nb H H') : Scr K H' a xs := by
  rcases h with ⟨o, h⟩ | h
  · exact .inl ⟨o, s _ _ rfl h⟩
  · exact .inr h
theorem Scr.put {K : PySem.W.Frag} {H : Hp} {a d : Addr} {xs l : List V} {o : HO} (h : Scr K H a xs) (hd : H d = some (.lst l)) : Scr K (upd H d o) a xs := by
  rcases h with ⟨o', h⟩ | h
  · exact .inl ⟨o', by rw [upd_ne (fun z => by rw [z, hd] at h; cases h)]; exact h⟩
  · exact .inr h
theorem cut_mem {l : List V} {a b : Option Int} {x : V} (h : x ∈ cutV l a b) : x ∈ l := List.mem_of_mem_drop (List.mem_of_mem_take h)
theorem nb_refs {l : List V} (h : ∀ v ∈ l, ∃ a, v = .ref a) : nb (.lst l) = true := nb_lst fun x hx i z => by
  obtain ⟨a, h1⟩ := h x hx
  rw [h1] at z
  cases z
theorem nb_held {K : PySem.W.Frag} {k : KA} {d : Addr} {H : Hp} {l : List V} (h : ∀ v ∈ l, Held K k d H v) : nb (.lst l) = true := nb_refs fun x hx => by
  obtain ⟨sc, W, T, P, C, N, pm, aw, t, dl, a, b, c, h1, _⟩ := h x hx
  exact ⟨sc, h1⟩
theorem names_all {H : Hp} {yb ys zs : List V} {W : Wld} (rb : RowsIs H yb (W.brks.map Brk.vals)) (rs : RowsIs H ys (W.shps.map Shp.row)) (e : Each (fun x y => ∃ t v r, x = .ref t ∧ H t = some (.tup (v :: r)) ∧ y = v) (yb ++ ys) zs) : zs = txts W.vnames := by
  have hl : (yb ++ ys).length = W.vnames.length := by
    rw [List.length_append, rb.1, rs.1, Wld.vnames, List.length_append]
    simp
  refine List.ext_getElem? fun i => ?_
  cases hx : (yb ++ ys)[i]? with
  | none =>
    have h1 := List.getElem?_eq_none_iff.mp hx
    rw [List.getElem?_eq_none_iff.mpr (by rw [e.1]; exact h1), List.getElem?_eq_none_iff.mpr (by rw [List.length_map, ← hl]; exact h1)]
  | some x =>
    obtain ⟨n, t, r, hn, rfl, ht⟩ := row_at rb rs hx
    have h1 := (List.getElem?_eq_some_iff.mp hx).1
    have hz : zs[i]? = some (zs[i]'(by rw [e.1]; exact h1)) := List.getElem?_eq_getElem _
    obtain ⟨t', v, r', e1, e2, e3⟩ := e.2 i _ _ hx hz
    injection e1 with e1
    subst e1
    rw [ht] at e2
    injection e2 with e2
    injection e2 with e2
    injection e2 with e2 _
    rw [hz, e3, ← e2, List.getElem?_map, hn]
    rfl
section
variable {P : Program} {w : World} {K : PySem.W.Frag} {mg : Str → Option Value} {base : Heap}
theorem ok_law {k : KA} {f : Addr} {fd : FuncData} (F : Fun K "law" "law" s_law f fd) (B : Blt mg) (DC : Dn P w K mg base CX0 1 "_law_cell" ["_law_script", "_law_k"] (spCell K)) (DB : Dn P w K mg base CX0 1 "_law_box" ["_law_cell_here"] spBox)
    (DF : Dn P w K mg base CX0 2 "_law_few" ["_law_box_here"] spFew) (DLWd : Dn P w K mg base CX0 4 "_law_world" ["_law_box_here", "_law_sizes"] spLWorld) (DM : Dn P w K mg base CX0 7 "_law_made" ["_law_world_here"] (spMade k)) (DLTb : Dn P w K mg base CX0 3 "_law_table" ["_law_box_here", "_law_world_here"] (spLTable K))
    (DD : Dn P w K mg base CX0 3 "_law_dict" ["_law_box_here", "_law_names_here"] spLawDict) (DR : DnG P w K mg base CX0 10 "_law_right" ["_law_scene"] (spRight4 K k)) : FnG P w K mg base CX0 11 f fd ["_law_script"] (spLaw K) := by
  refine funG F sc_law (fun vs H Q E h => ?_) (fun cdv A outer s H vs Q E hr gd h => ?_)
  · obtain ⟨a, ns, rfl, _⟩ := h
    rfl
  · obtain ⟨a, ns, rfl, hS, hn, hl, q⟩ := h
    refine ⟨_, (pss_cons (ps_set (i := 1) sc_law.nd rfl (.inl rfl) (pe_lst pa_nil))
      (pss_cons (ps_for (passes_of rfl) rfl (pi_range1 (by rfl) B.range (pa_cons (pe_callB (call_max2 rfl) (by rfl) B.max (by decide +kernel) (pa_cons pe_int (pa_cons (pe_callB (call_min2 rfl) (by rfl) B.min (by decide +kernel) (pa_cons pe_int (pa_cons (pe_callB call_len_seq (by rfl) B.len PySem.boot_len (pa_cons (pv 0) pa_nil)) pa_nil))) pa_nil))) pa_nil)) (pg_name (i := 2) sc_law.nd rfl (.inl rfl))
      (pss_cons (ps_set (i := 3) sc_law.nd rfl (.inr rfl) (pe_d DB (hr.mono (by decide)) (by rfl) pass0 (pa_cons (pe_d DC (hr.mono (by decide)) (by rfl) pass0 (pa_cons (pv 0) (pa_cons (pv 2) pa_nil))) pa_nil)))
      (pss_cons (ps_set (i := 4) sc_law.nd rfl (.inl rfl) (pe_d DLWd (hr.mono (by decide)) (by rfl) pass0 (pa_cons (pv 3) (pa_cons (pe_d DF (hr.mono (by decide)) (by rfl) pass0 (pa_cons (pv 3) pa_nil)) pa_nil))))
      (pss_cons (ps_set (i := 5) sc_law.nd rfl (.inl rfl) (pe_d DLTb (hr.mono (by decide)) (by rfl) pass0 (pa_cons (pv 3) (pa_cons (pv 4) pa_nil))))
      (pss_cons (ps_set (i := 6) sc_law.nd rfl (.inl rfl) (pe_lst (pa_cons (pe_callTy call_list_of (by rfl) B.list (by decide +kernel) (pa_cons (pe_ix ix_tup (pv 4) pe_int (fun _ _ => rfl)) pa_nil)) (pa_cons (pe_lc (own := [("_law_row", 9)]) (g := gName 9) (tt := tYes) rfl sc_law.nd (pi_seq (pe_ix ix_tup (pv 4) pe_int (fun _ _ => rfl))) (blkOk_by (N := ["_law_script", "_law_ahead", "_law_k", "_law_box_here", "_law_world_here", "_law_table_here", "_law_names_here", "_law_dicts", "_law_scene", "_law_row", "_law_some"]) (sc := defScope s_law) (by decide +kernel)) (fun _ _ _ _ _ => pg_name (i := 9) sc_law.nd rfl (Or.inl rfl)) (fun _ _ _ _ _ => pts_nil) (fun _ _ _ _ _ => (pe_ix (show IxR _ (rIxT K) from ix_tup) (pv 9) pe_int (fun _ _ => rfl)))) (pa_cons (pe_lc (own := [("_law_row", 9)]) (g := gName 9) (tt := tYes) rfl sc_law.nd (pi_seq (pe_op op_catA (pe_ix ix_tup (pv 4) pe_int (fun _ _ => rfl)) (pe_ix ix_tup (pv 4) pe_int (fun _ _ => rfl)))) (blkOk_by (N := ["_law_script", "_law_ahead", "_law_k", "_law_box_here", "_law_world_here", "_law_table_here", "_law_names_here", "_law_dicts", "_law_scene", "_law_row", "_law_some"]) (sc := defScope s_law) (by decide +kernel)) (fun _ _ _ _ _ => pg_name (i := 9) sc_law.nd rfl (Or.inl rfl)) (fun _ _ _ _ _ => pts_nil) (fun _ _ _ _ _ => (pe_ix (show IxR _ (rIxT K) from ix_tup) (pv 9) pe_int (fun _ _ => rfl)))) pa_nil)))))
      (pss_cons (ps_setLc (i := 7) (own := [("_law_some", 10)]) (g := gName 10) (tt := tYes) rfl sc_law.nd rfl rfl (by rfl) (pi_list (pv 6)) (blkOk_by (N := ["_law_script", "_law_ahead", "_law_k", "_law_box_here", "_law_world_here", "_law_table_here", "_law_names_here", "_law_dicts", "_law_scene", "_law_row", "_law_some"]) (sc := defScope s_law) (by decide +kernel)) (fun _ _ _ _ _ => pg_name (i := 10) sc_law.nd rfl (Or.inl rfl)) (fun _ _ _ _ _ => pts_nil) (fun _ _ _ _ _ => (pe_d DD (hr.mono (by decide)) (by rfl) pass0 (pa_cons (pv 3) (pa_cons (pv 10) pa_nil)))))
      (pss_cons (ps_expr (pe_bm PySem.F.plainAttrs_list PySem.F.slot_list_append PySem.F.type_list_append mt_append (pv 1) (pa_cons (pe_tup (pa_cons (pe_d DM (hr.mono (by decide)) (by rfl) pass0 (pa_cons (pv 4) pa_nil)) (pa_cons (pv 4) (pa_cons (pv 5) (pa_cons (pv 7) pa_nil))))) pa_nil)))
      (pss_one (ps_for (passes_of rfl) rfl (pi_list (pe_slice sl_list (pv 1) (po_some (pe_un un_neg pe_int)) po_none)) (pg_name (i := 8) sc_law.nd rfl (.inl rfl))
      (pss_one (ps_if (pt_not (pt_val (pe_dG DR (hr.mono (by decide)) gd (by rfl) pass0 (pa_cons (pv 8) pa_nil)))) (pss_one (ps_ret pe_bl)) pss_nil)))))))))))
      (pss_one (ps_ret pe_bl)))), ?_⟩
    refine ⟨Nat.le_of_ble_eq_true rfl, fun d hd => ?_⟩
    generalize hXq : upd _ d _ = H0
    have s0 := laid_same hXq hd
    have e0 := laid_at hXq
    clear hXq
    have hS0 := (Scr.of hS hn).nb (Nb.same s0)
    have hn63 : (ns.map V.int).length ≤ 63 := by rw [List.length_map]; exact hl
    generalize hm : (ns.map V.int).length = m at hn63
    refine ⟨_, rfl, a, _, rfl, .inl hS0.l, _, _, rfl, _, _, rfl, _, rfl, ?_, ?_, ?_⟩
    · split <;> split <;> omega
    · split <;> split <;> omega
    refine for_it walk_rng (fun i σ H' => ∃ y1 y2 y3 y4 y5 y6 y7 y8 y9, σ = [some (.ref a), some (.ref d), y1, y2, y3, y4, y5, y6, y7, y8, y9] ∧ Scr K H' a (ns.map V.int) ∧ ∃ L, H' d = some (.lst L) ∧ L.length ≤ i ∧ ∀ v ∈ L, Held K k d H' v)
      ⟨_, _, _, _, _, _, _, _, _, rfl, hS0, [], e0, Nat.le_refl _, fun _ h => by cases h⟩ (fun _ _ _ _ _ => trivial) ?_ ?_
    · rintro i x σ Hq Hi hi ⟨_, _, _, _, _, _, _, _, _, rfl, hSi, L, hdi, hLl, hLi⟩ ⟨rfl, rfl⟩
      have hi6 : i < 6 := Nat.lt_of_lt_of_le hi (by split <;> split <;> omega)
      have nbL := nb_held hLi
      refine ⟨_, rfl, _, rfl, a, ns, i, (by rw [Int.zero_add]), hSi.l, hl, fun cn => ?_⟩
      refine ⟨cn, rfl, fun p H1 hp0 hp1 s1 => ?_⟩
      refine ⟨_, rfl, _, rfl, p, _, rfl, hp1, by decide, fun lz z1 z2 z3 z4 H3 k1 k2 k3 k4 hz hp3 b3 => ?_⟩
      refine ⟨p, lz, z1, z2, z3, z4, _, rfl, hp3, by omega, hz, k1, k2, k3, k4, fun aw W H4 g hT hp4 b4 => ?_⟩
      have N4 : Nb Hi H4 := (Nb.same s1).trans ((hp1.nb b3).trans (hp3.nb b4))
      have hd4 := N4 _ _ nbL hdi
      refine ⟨_, rfl, _, rfl, p, aw, W, _, rfl, hp4, by omega, hT, g, fun t T H5 ht5 hTab tg few hp5 b5 hh5 => ?_⟩
      have N5 := hp4.nb b5
      have hd5 := N5 _ _ nbL hd4
      have dp : d ≠ p := fun z => by
        obtain ⟨u, v, w, h1, _⟩ := hp5
        rw [z, h1] at hd5
        rw [← Option.some.inj hd5] at nbL
        cases nbL
      have hT5 := hT.nb N5
      have hTh := hh5 d L hd4 dp
      obtain ⟨ap, ac, ab, as, yc, yb, ys, t1, t2, t3, rc, t5, rb, t7, rs⟩ := id hT5
      have lc1 : yc.length ≤ 12 := by rw [rc.1, List.length_map]; exact g.chans
      have lb1 : yb.length ≤ 4 := by rw [rb.1, List.length_map]; exact g.brks
      have ls1 : ys.length ≤ 6 := by rw [rs.1, List.length_map]; exact g.shps
      refine ⟨_, rfl, aw, _, 1, _, rfl, rfl, .inl (.inl t1), rfl, ap, _, rfl, .inr (.inl (.inl t2)), fun l1 hl1 => ?_⟩
      generalize hXq : upd _ l1 _ = H6
      have s6 := laid_same hXq hl1
      have e6 := laid_at hXq
      clear hXq
      refine ⟨_, rfl, aw, _, 2, _, rfl, rfl, .inl (.inl (s6 _ _ t1)), rfl, ac, rfl, lc_map (fun x y _ => ∃ p r, x = .ref p ∧ H5 p = some (.tup r) ∧ r[0]? = some y) (.t (s6 _ _ t3)) (Nat.lt_of_le_of_lt lc1 (by decide)) (fun _ _ _ _ _ e => e) (fun _ _ _ _ _ _ e => e) ?_ ?_⟩
      · intro x J0 kk hx s0' kq
        obtain ⟨o, b, rfl, _, e⟩ := rc.mem hx
        refine ⟨rfl, _, rfl, o, _, 0, _, rfl, rfl, .inl (.inl (s0' _ _ (s6 _ _ e))), rfl, ?_⟩
        exact kq _ _ (Same.refl _) ⟨o, _, rfl, e, rfl⟩
      intro l2 zs H7 hl2 s7 e7 e
      obtain rfl : zs = txts W.cnames := by
        rw [cells_of (j := 0) (f := fun c : Chan => V.str (S c.name)) (fun _ => rfl) rc e, txts, Wld.cnames, List.map_map]
        rfl
      clear e
      have s57 := s6.trans s7
      refine ⟨_, rfl, aw, _, 3, _, rfl, rfl, .inl (.inl (s57 _ _ t1)), rfl, _, rfl, aw, _, 4, _, rfl, rfl, .inl (.inl (s57 _ _ t1)), rfl, ?_⟩
      refine catA_use (s57 _ _ t5) (s57 _ _ t7) (by omega) fun r H8 s8 hr8 => ?_
      have s58 := s57.trans s8
      refine ⟨r, rfl, lc_map (fun x y _ => ∃ t v r, x = .ref t ∧ H5 t = some (.tup (v :: r)) ∧ y = v) (.t hr8) (Nat.lt_of_le_of_lt (show (yb ++ ys).length ≤ 10 by rw [List.length_append]; omega) (by decide)) (fun _ _ _ _ _ e => e) (fun _ _ _ _ _ _ e => e) ?_ ?_⟩
      · intro x J0 kk hx s0' kq
        obtain ⟨j, hj⟩ := List.getElem?_of_mem hx
        obtain ⟨n, t', r', hn', rfl, ht'⟩ := row_at rb rs hj
        refine ⟨rfl, _, rfl, t', _, 0, _, rfl, rfl, .inl (.inl (s0' _ _ (s58 _ _ ht'))), atI_nat (j := 0) rfl, ?_⟩
        exact kq _ _ (Same.refl _) ⟨t', _, _, rfl, ht', rfl⟩
      intro l3 zs H9 hl3 s9 e9 e
      obtain rfl := names_all rb rs e
      clear e
      refine ⟨Nat.le_of_ble_eq_true rfl, fun lN hlN => ?_⟩
      generalize hXq : upd _ lN _ = H10
      have s10 := laid_same hXq hlN
      have e10 := laid_at hXq
      clear hXq
      have s510 := s58.trans (s9.trans s10)
      have f1 : H10 l1 = some (.lst (txts W.ports)) := s10 _ _ (s9 _ _ (s8 _ _ (s7 _ _ e6)))
      have f2 : H10 l2 = some (.lst (txts W.cnames)) := s10 _ _ (s9 _ _ (s8 _ _ e7))
      have f3 : H10 l3 = some (.lst (txts W.vnames)) := s10 _ _ e9
      have hp10 := hp5.same s510
      have hd10 := s510 _ _ hd5
      have vn := vnames_le g
      have cn : W.cnames.length ≤ 12 := by rw [Wld.cnames, List.length_map]; exact g.chans
      have nbN : nb (.lst [.ref l1, .ref l2, .ref l3]) = true := nb_refs fun v hv => by
        simp only [List.mem_cons, List.not_mem_nil, or_false] at hv
        rcases hv with rfl | rfl | rfl <;> exact ⟨_, rfl⟩
      refine ⟨_, rfl, lN, rfl, ⟨_, SqL.of e10⟩, lc_walkB (walk_lst (xs := [.ref l1, .ref l2, .ref l3])) 20 (fun i y H => ∃ dd M, y = .ref dd ∧ H dd = some (.dK (nmKvs M)) ∧ (i = 0 → NGood W.ports M) ∧ (i = 1 → NGood W.cnames M) ∧ (i = 2 → NGood W.vnames M)) hp10 (Nat.lt_of_le_of_lt (show 3 ≤ 3 from Nat.le_refl _) (by decide)) (fun H' s' => SqL.of (s' _ _ nbN e10))
        (fun i y H H' s' ⟨dd, M, h1, h2, h3⟩ => ⟨dd, M, h1, s' _ _ rfl h2, h3⟩) (fun i y H D l hD ⟨dd, M, h1, h2, h3⟩ => ⟨dd, M, h1, hide_of hD (fun _ z => by cases z) h2, h3⟩) ?_ ?_⟩
      · rintro j y H' kk hj hy b' hb' kq
        have Nj := hp10.nb b'
        match j, hj, hy with
        | 0, _, hy =>
          obtain rfl := (Option.some.inj hy).symm
          refine ⟨rfl, _, rfl, _, rfl, p, l1, _, W.ports, rfl, hb', by omega, Nj _ _ nb_txts f1, g.nd, g.names, Nat.le_trans g.ports.2 (by decide), fun dd M H4 h1 h2 h3 h4 h5 => ?_⟩
          exact kq _ _ h5 h4 ⟨dd, M, rfl, h2, fun _ => h3, fun z => by omega, fun z => by omega⟩
        | 1, _, hy =>
          obtain rfl := (Option.some.inj hy).symm
          refine ⟨rfl, _, rfl, _, rfl, p, l2, _, W.cnames, rfl, hb', by omega, Nj _ _ nb_txts f2, g.cnd, cname_ok g, cn, fun dd M H4 h1 h2 h3 h4 h5 => ?_⟩
          exact kq _ _ h5 h4 ⟨dd, M, rfl, h2, fun z => by omega, fun _ => h3, fun z => by omega⟩
        | 2, _, hy =>
          obtain rfl := (Option.some.inj hy).symm
          refine ⟨rfl, _, rfl, _, rfl, p, l3, _, W.vnames, rfl, hb', by omega, Nj _ _ nb_txts f3, g.vnd, fun n hn => vname_ok g hn, by omega, fun dd M H4 h1 h2 h3 h4 h5 => ?_⟩
          exact kq _ _ h5 h4 ⟨dd, M, rfl, h2, fun z => by omega, fun z => by omega, fun _ => h3⟩
      intro dl zs H11 hdl b11 hp11 e11 l11 f11
      obtain ⟨a1, a2, a3, rfl⟩ : ∃ a1 a2 a3, zs = [a1, a2, a3] := by
        match zs, l11 with
        | [a1, a2, a3], _ => exact ⟨a1, a2, a3, rfl⟩
      obtain ⟨da, P', rfl, g1, gP, _, _⟩ := f11 0 _ rfl
      obtain ⟨db, C', rfl, g2, _, gC, _⟩ := f11 1 _ rfl
      obtain ⟨dc, N', rfl, g3, _, _, gN⟩ := f11 2 _ rfl
      have gP := gP rfl
      have gC := gC rfl
      have gN := gN rfl
      clear f11 l11
      have N511 : Nb H5 H11 := (Nb.same s510).trans (hp10.nb b11)
      have hd11 := N511 _ _ nbL hd5
      have hT11 := hT5.nb N511
      refine ⟨_, rfl, .inl ⟨rfl, L, .inl (.inl hd11)⟩, _, rfl, aw, W, rfl, hT11, g, fun pm H12 hpm s12 hW12 hh12 => ?_⟩
      refine ⟨_, rfl, _, rfl, _, rfl, ?_⟩
      refine ⟨Nat.le_of_ble_eq_true rfl, fun sc hsc => ?_⟩
      generalize hXq : upd _ sc _ = H13
      have s13 := laid_same hXq hsc
      have e13 := laid_at hXq
      clear hXq
      have s1113 := s12.trans s13
      have hd13 := s1113 _ _ hd11
      have ndl : dl ≠ d := fun z => by rw [z, hd10] at hdl; cases hdl
      have S13 : Scene4 K k (hide d H13) W T P' C' N' pm aw t dl da db dc := ⟨(hh12 d L hd11).same (hide_same s13), (hT11.same s1113).hide hd13, ((hTh.nb N511.hide).nb (Nb.same (hide_same s1113))), by rw [hide_ne ndl]; exact s1113 _ _ e11,
        hide_of hd13 (fun _ z => by cases z) (s1113 _ _ g1), hide_of hd13 (fun _ z => by cases z) (s1113 _ _ g2), hide_of hd13 (fun _ z => by cases z) (s1113 _ _ g3), g, tg, few, gP, gC, gN⟩
      have hn : Held K k d H13 (.ref sc) := ⟨sc, W, T, P', C', N', pm, aw, t, dl, da, db, dc, rfl, hide_of hd13 (fun _ z => by cases z) e13, S13⟩
      refine ⟨d, L, _, rfl, rfl, hd13, Nat.lt_of_le_of_lt (show L.length ≤ 10 by omega) (by decide), ?_⟩
      have NX13 : Nb Hi H13 := N4.trans (N5.trans (N511.trans (Nb.same s1113)))
      have hL10 : ∀ v ∈ L ++ [.ref sc], Held K k d (upd H13 d (.lst (L ++ [.ref sc]))) v := fun v hv => by
        rcases List.mem_append.mp hv with hv | hv
        · exact ((hLi v hv).nb NX13).put
        · obtain rfl := List.mem_singleton.mp hv
          exact hn.put
      have hScr := (hSi.nb NX13).put (o := .lst (L ++ [.ref sc])) hd13
      have hd14 : upd H13 d (.lst (L ++ [.ref sc])) d = some (.lst (L ++ [.ref sc])) := upd_same
      have lenL : (L ++ [V.ref sc]).length ≤ i + 1 := by simp; omega
      generalize upd H13 d (.lst (L ++ [.ref sc])) = H14 at hL10 hScr hd14 ⊢
      generalize L ++ [V.ref sc] = L' at hL10 hd14 lenL ⊢
      have nbL' := nb_held hL10
      refine ⟨_, rfl, _, rfl, _, rfl, d, _, rfl, SqL.of hd14, fun l2' hl2' => ?_⟩
      generalize hXq : upd _ l2' _ = H15
      have s15 := laid_same hXq hl2'
      have e15 := laid_at hXq
      clear hXq
      have nb2 : nb (.lst (cutV L' (some (-2)) none)) = true := nb_held fun v hv => hL10 v (cut_mem hv)
      refine ⟨l2', rfl, ⟨_, SqL.of e15⟩, for_it (walk_lst (xs := cutV L' (some (-2)) none)) (fun j σ H' => ∃ y1 y2 y3 y4 y5 y6 y7 y8 y9, σ = [some (.ref a), some (.ref d), y1, y2, y3, y4, y5, y6, y7, y8, y9] ∧ Same H15 H') ⟨_, _, _, _, _, _, _, _, _, rfl, Same.refl _⟩
        (fun j σ H' _ ⟨_, _, _, _, _, _, _, _, _, _, n⟩ => SqL.of (n _ _ e15)) ?_ ?_⟩
      · rintro j x σ Hq H16 hj ⟨_, _, _, _, _, _, _, _, _, rfl, N16⟩ ⟨rfl, hx⟩
        obtain ⟨sc', W', T', Px, Cx, Nx, pm', aw', t', dl', a', b', c', rfl, h2, h3⟩ := ((hL10 x (cut_mem (List.mem_of_getElem? hx))).nb (Nb.same (s15.trans N16)))
        refine ⟨_, rfl, sc', W', T', Px, Cx, Nx, pm', aw', t', dl', a', b', c', rfl, hide_le _ _ h2, h3.same hide_le, fun H17 s17 => ?_⟩
        refine ⟨true, rfl, iteF ?_⟩
        exact ⟨_, _, _, _, _, _, _, _, _, rfl, N16.trans s17⟩
      · rintro σ H16 ⟨_, _, _, _, _, _, _, _, _, rfl, N16⟩
        have NE := s15.trans N16
        exact ⟨_, _, _, _, _, _, _, _, _, rfl, hScr.nb (Nb.same NE), L', NE _ _ hd14, lenL, fun v hv => (hL10 v hv).nb (Nb.same NE)⟩
    · rintro σ H' ⟨_, _, _, _, _, _, _, _, _, rfl, _⟩
      exact q H'
end
end Law
end
section
set_option Elab.async false
set_option linter.all false
set_option maxRecDepth 100000
set_option maxHeartbeats 4000000
namespace Law
open PySem PySem.Spec PyProof.Rows L2 IK SX
/-- what is read of an error class over ValueError -/
theorem kit_self {K : PySem.W.Frag} {C : Addr} : PySem.W.kitOne K (.ref C) (.ref C) = some true := by
  unfold PySem.W.kitOne
  rw [if_pos (by simp)]
end Law
end
section
set_option Elab.async false
open PySem PySem.W PyProof.Rows
set_option maxHeartbeats 0
set_option maxRecDepth 100000
open_top head for PySem.Challenge.rw_iceopened_k74_renamed
end
section
set_option Elab.async false
set_option linter.all false
set_option maxRecDepth 100000
set_option maxHeartbeats 4000000
namespace Law
open PySem PySem.Spec PyProof.Rows L2 IK SX
theorem all_mk {P : Program} {w : World} {K : PySem.W.Frag} {h : Heap} {mg : Str → Option Value} {fa : Addr} (X : K.In h) (G : h.Ns mainGlobals mg) (hfa : mg "law" = some (.ref fa))
    {CC CV CB CS CW : Addr} {tL : Tok}
    {t_MOST_HOUR : Tok}
    {t_MOST_ICE : Tok}
    {t_MOST_DEPTH : Tok}
    {t_MOST_LENGTH : Tok}
    {t_MOST_GROWTH : Tok}
    {t_MOST_BEGIN : Tok}
    {t_MOST_PORTS : Tok}
    {t_MOST_CHANNELS : Tok}
    {t_MOST_BREAKERS : Tok}
    {t_MOST_SHIPS : Tok}
    {t_LAST_HOUR : Tok}
    {t_LONGEST_NAME : Tok}
    {f0 : Addr} {oc0 kV0 dc0 pm0 cd0 ct0 : Value} {od0 an0 : Option Addr} {sl0 : Array (Option Value)}
    {f1 : Addr} {oc1 kV1 dc1 pm1 cd1 ct1 : Value} {od1 an1 : Option Addr} {sl1 : Array (Option Value)}
    {f2 : Addr} {oc2 kV2 dc2 pm2 cd2 ct2 : Value} {od2 an2 : Option Addr} {sl2 : Array (Option Value)}
    {f3 : Addr} {oc3 kV3 dc3 pm3 cd3 ct3 : Value} {od3 an3 : Option Addr} {sl3 : Array (Option Value)}
    {f4 : Addr} {oc4 kV4 dc4 pm4 cd4 ct4 : Value} {od4 an4 : Option Addr} {sl4 : Array (Option Value)}
    {f5 : Addr} {oc5 kV5 dc5 pm5 cd5 ct5 : Value} {od5 an5 : Option Addr} {sl5 : Array (Option Value)}
    {f6 : Addr} {oc6 kV6 dc6 pm6 cd6 ct6 : Value} {od6 an6 : Option Addr} {sl6 : Array (Option Value)}
    {f7 : Addr} {oc7 kV7 dc7 pm7 cd7 ct7 : Value} {od7 an7 : Option Addr} {sl7 : Array (Option Value)}
    {f8 : Addr} {oc8 kV8 dc8 pm8 cd8 ct8 : Value} {od8 an8 : Option Addr} {sl8 : Array (Option Value)}
    {f9 : Addr} {oc9 kV9 dc9 pm9 cd9 ct9 : Value} {od9 an9 : Option Addr} {sl9 : Array (Option Value)}
    {f10 : Addr} {oc10 kV10 dc10 pm10 cd10 ct10 : Value} {od10 an10 : Option Addr} {sl10 : Array (Option Value)}
    {f11 : Addr} {oc11 kV11 dc11 pm11 cd11 ct11 : Value} {od11 an11 : Option Addr} {sl11 : Array (Option Value)}
    {f12 : Addr} {oc12 kV12 dc12 pm12 cd12 ct12 : Value} {od12 an12 : Option Addr} {sl12 : Array (Option Value)}
    {f13 : Addr} {oc13 kV13 dc13 pm13 cd13 ct13 : Value} {od13 an13 : Option Addr} {sl13 : Array (Option Value)}
    {f14 : Addr} {oc14 kV14 dc14 pm14 cd14 ct14 : Value} {od14 an14 : Option Addr} {sl14 : Array (Option Value)}
    {f15 : Addr} {oc15 kV15 dc15 pm15 cd15 ct15 : Value} {od15 an15 : Option Addr} {sl15 : Array (Option Value)}
    {f16 : Addr} {oc16 kV16 dc16 pm16 cd16 ct16 : Value} {od16 an16 : Option Addr} {sl16 : Array (Option Value)}
    {f17 : Addr} {oc17 kV17 dc17 pm17 cd17 ct17 : Value} {od17 an17 : Option Addr} {sl17 : Array (Option Value)}
    {f18 : Addr} {oc18 kV18 dc18 pm18 cd18 ct18 : Value} {od18 an18 : Option Addr} {sl18 : Array (Option Value)}
    {f19 : Addr} {oc19 kV19 dc19 pm19 cd19 ct19 : Value} {od19 an19 : Option Addr} {sl19 : Array (Option Value)}
    {f20 : Addr} {oc20 kV20 dc20 pm20 cd20 ct20 : Value} {od20 an20 : Option Addr} {sl20 : Array (Option Value)}
    {f21 : Addr} {oc21 kV21 dc21 pm21 cd21 ct21 : Value} {od21 an21 : Option Addr} {sl21 : Array (Option Value)}
    {f22 : Addr} {oc22 kV22 dc22 pm22 cd22 ct22 : Value} {od22 an22 : Option Addr} {sl22 : Array (Option Value)}
    {f23 : Addr} {oc23 kV23 dc23 pm23 cd23 ct23 : Value} {od23 an23 : Option Addr} {sl23 : Array (Option Value)}
    {f24 : Addr} {oc24 kV24 dc24 pm24 cd24 ct24 : Value} {od24 an24 : Option Addr} {sl24 : Array (Option Value)}
    {f25 : Addr} {oc25 kV25 dc25 pm25 cd25 ct25 : Value} {od25 an25 : Option Addr} {sl25 : Array (Option Value)}
    {f26 : Addr} {oc26 kV26 dc26 pm26 cd26 ct26 : Value} {od26 an26 : Option Addr} {sl26 : Array (Option Value)}
    {f27 : Addr} {oc27 kV27 dc27 pm27 cd27 ct27 : Value} {od27 an27 : Option Addr} {sl27 : Array (Option Value)}
    {f28 : Addr} {oc28 kV28 dc28 pm28 cd28 ct28 : Value} {od28 an28 : Option Addr} {sl28 : Array (Option Value)}
    {f29 : Addr} {oc29 kV29 dc29 pm29 cd29 ct29 : Value} {od29 an29 : Option Addr} {sl29 : Array (Option Value)}
    {f30 : Addr} {oc30 kV30 dc30 pm30 cd30 ct30 : Value} {od30 an30 : Option Addr} {sl30 : Array (Option Value)}
    {f31 : Addr} {oc31 kV31 dc31 pm31 cd31 ct31 : Value} {od31 an31 : Option Addr} {sl31 : Array (Option Value)}
    {f32 : Addr} {oc32 kV32 dc32 pm32 cd32 ct32 : Value} {od32 an32 : Option Addr} {sl32 : Array (Option Value)}
    {f33 : Addr} {oc33 kV33 dc33 pm33 cd33 ct33 : Value} {od33 an33 : Option Addr} {sl33 : Array (Option Value)}
    {f34 : Addr} {oc34 kV34 dc34 pm34 cd34 ct34 : Value} {od34 an34 : Option Addr} {sl34 : Array (Option Value)}
    {f35 : Addr} {oc35 kV35 dc35 pm35 cd35 ct35 : Value} {od35 an35 : Option Addr} {sl35 : Array (Option Value)}
    {f36 : Addr} {oc36 kV36 dc36 pm36 cd36 ct36 : Value} {od36 an36 : Option Addr} {sl36 : Array (Option Value)}
    {f37 : Addr} {oc37 kV37 dc37 pm37 cd37 ct37 : Value} {od37 an37 : Option Addr} {sl37 : Array (Option Value)}
    {f38 : Addr} {oc38 kV38 dc38 pm38 cd38 ct38 : Value} {od38 an38 : Option Addr} {sl38 : Array (Option Value)}
    {f39 : Addr} {oc39 kV39 dc39 pm39 cd39 ct39 : Value} {od39 an39 : Option Addr} {sl39 : Array (Option Value)}
    {f40 : Addr} {oc40 kV40 dc40 pm40 cd40 ct40 : Value} {od40 an40 : Option Addr} {sl40 : Array (Option Value)}
    {f41 : Addr} {oc41 kV41 dc41 pm41 cd41 ct41 : Value} {od41 an41 : Option Addr} {sl41 : Array (Option Value)}
    {f42 : Addr} {oc42 kV42 dc42 pm42 cd42 ct42 : Value} {od42 an42 : Option Addr} {sl42 : Array (Option Value)}
    {f43 : Addr} {oc43 kV43 dc43 pm43 cd43 ct43 : Value} {od43 an43 : Option Addr} {sl43 : Array (Option Value)}
    {f44 : Addr} {oc44 kV44 dc44 pm44 cd44 ct44 : Value} {od44 an44 : Option Addr} {sl44 : Array (Option Value)}
    {f45 : Addr} {oc45 kV45 dc45 pm45 cd45 ct45 : Value} {od45 an45 : Option Addr} {sl45 : Array (Option Value)}
    {f46 : Addr} {oc46 kV46 dc46 pm46 cd46 ct46 : Value} {od46 an46 : Option Addr} {sl46 : Array (Option Value)}
    {f47 : Addr} {oc47 kV47 dc47 pm47 cd47 ct47 : Value} {od47 an47 : Option Addr} {sl47 : Array (Option Value)}
    {f48 : Addr} {oc48 kV48 dc48 pm48 cd48 ct48 : Value} {od48 an48 : Option Addr} {sl48 : Array (Option Value)}
    {f49 : Addr} {oc49 kV49 dc49 pm49 cd49 ct49 : Value} {od49 an49 : Option Addr} {sl49 : Array (Option Value)}
    {f50 : Addr} {oc50 kV50 dc50 pm50 cd50 ct50 : Value} {od50 an50 : Option Addr} {sl50 : Array (Option Value)}
    {f51 : Addr} {oc51 kV51 dc51 pm51 cd51 ct51 : Value} {od51 an51 : Option Addr} {sl51 : Array (Option Value)}
    {f52 : Addr} {oc52 kV52 dc52 pm52 cd52 ct52 : Value} {od52 an52 : Option Addr} {sl52 : Array (Option Value)}
    {f53 : Addr} {oc53 kV53 dc53 pm53 cd53 ct53 : Value} {od53 an53 : Option Addr} {sl53 : Array (Option Value)}
    {f54 : Addr} {oc54 kV54 dc54 pm54 cd54 ct54 : Value} {od54 an54 : Option Addr} {sl54 : Array (Option Value)}
    {f55 : Addr} {oc55 kV55 dc55 pm55 cd55 ct55 : Value} {od55 an55 : Option Addr} {sl55 : Array (Option Value)}
    (a0 : PySem.W.nsIn K mainGlobals "is_whole" = some (some (.ref f0)))
    (l0 : K.lookup f0 = some ⟨oc0, od0, .func (PySem.W.fnOf "is_whole" "is_whole" (defArgs s_is_whole) (defBody s_is_whole) (defScope s_is_whole) .none kV0 dc0 pm0 an0 cd0 ct0), sl0⟩)
    (c0 : PySem.W.codeIn K cd0 "is_whole" = true)
    (k0 : PySem.W.keepIn K (.ref f0) = true)
    (a1 : PySem.W.nsIn K mainGlobals "is_within" = some (some (.ref f1)))
    (l1 : K.lookup f1 = some ⟨oc1, od1, .func (PySem.W.fnOf "is_within" "is_within" (defArgs s_is_within) (defBody s_is_within) (defScope s_is_within) .none kV1 dc1 pm1 an1 cd1 ct1), sl1⟩)
    (c1 : PySem.W.codeIn K cd1 "is_within" = true)
    (k1 : PySem.W.keepIn K (.ref f1) = true)
    (a2 : PySem.W.nsIn K mainGlobals "is_name" = some (some (.ref f2)))
    (l2 : K.lookup f2 = some ⟨oc2, od2, .func (PySem.W.fnOf "is_name" "is_name" (defArgs s_is_name) (defBody s_is_name) (defScope s_is_name) .none kV2 dc2 pm2 an2 cd2 ct2), sl2⟩)
    (c2 : PySem.W.codeIn K cd2 "is_name" = true)
    (k2 : PySem.W.keepIn K (.ref f2) = true)
    (a3 : PySem.W.nsIn K mainGlobals "need_names" = some (some (.ref f3)))
    (l3 : K.lookup f3 = some ⟨oc3, od3, .func (PySem.W.fnOf "need_names" "need_names" (defArgs s_need_names) (defBody s_need_names) (defScope s_need_names) .none kV3 dc3 pm3 an3 cd3 ct3), sl3⟩)
    (c3 : PySem.W.codeIn K cd3 "need_names" = true)
    (k3 : PySem.W.keepIn K (.ref f3) = true)
    (a4 : PySem.W.nsIn K mainGlobals "need_numbers" = some (some (.ref f4)))
    (l4 : K.lookup f4 = some ⟨oc4, od4, .func (PySem.W.fnOf "need_numbers" "need_numbers" (defArgs s_need_numbers) (defBody s_need_numbers) (defScope s_need_numbers) .none kV4 dc4 pm4 an4 cd4 ct4), sl4⟩)
    (c4 : PySem.W.codeIn K cd4 "need_numbers" = true)
    (k4 : PySem.W.keepIn K (.ref f4) = true)
    (a5 : PySem.W.nsIn K mainGlobals "is_list" = some (some (.ref f5)))
    (l5 : K.lookup f5 = some ⟨oc5, od5, .func (PySem.W.fnOf "is_list" "is_list" (defArgs s_is_list) (defBody s_is_list) (defScope s_is_list) .none kV5 dc5 pm5 an5 cd5 ct5), sl5⟩)
    (c5 : PySem.W.codeIn K cd5 "is_list" = true)
    (k5 : PySem.W.keepIn K (.ref f5) = true)
    (a6 : PySem.W.nsIn K mainGlobals "need_kinds" = some (some (.ref f6)))
    (l6 : K.lookup f6 = some ⟨oc6, od6, .func (PySem.W.fnOf "need_kinds" "need_kinds" (defArgs s_need_kinds) (defBody s_need_kinds) (defScope s_need_kinds) .none kV6 dc6 pm6 an6 cd6 ct6), sl6⟩)
    (c6 : PySem.W.codeIn K cd6 "need_kinds" = true)
    (k6 : PySem.W.keepIn K (.ref f6) = true)
    (a7 : PySem.W.nsIn K mainGlobals "need_unlike" = some (some (.ref f7)))
    (l7 : K.lookup f7 = some ⟨oc7, od7, .func (PySem.W.fnOf "need_unlike" "need_unlike" (defArgs s_need_unlike) (defBody s_need_unlike) (defScope s_need_unlike) .none kV7 dc7 pm7 an7 cd7 ct7), sl7⟩)
    (c7 : PySem.W.codeIn K cd7 "need_unlike" = true)
    (k7 : PySem.W.keepIn K (.ref f7) = true)
    (a8 : PySem.W.nsIn K mainGlobals "need_ports" = some (some (.ref f8)))
    (l8 : K.lookup f8 = some ⟨oc8, od8, .func (PySem.W.fnOf "need_ports" "need_ports" (defArgs s_need_ports) (defBody s_need_ports) (defScope s_need_ports) .none kV8 dc8 pm8 an8 cd8 ct8), sl8⟩)
    (c8 : PySem.W.codeIn K cd8 "need_ports" = true)
    (k8 : PySem.W.keepIn K (.ref f8) = true)
    (a9 : PySem.W.nsIn K mainGlobals "is_entry" = some (some (.ref f9)))
    (l9 : K.lookup f9 = some ⟨oc9, od9, .func (PySem.W.fnOf "is_entry" "is_entry" (defArgs s_is_entry) (defBody s_is_entry) (defScope s_is_entry) .none kV9 dc9 pm9 an9 cd9 ct9), sl9⟩)
    (c9 : PySem.W.codeIn K cd9 "is_entry" = true)
    (k9 : PySem.W.keepIn K (.ref f9) = true)
    (a10 : PySem.W.nsIn K mainGlobals "are_entries" = some (some (.ref f10)))
    (l10 : K.lookup f10 = some ⟨oc10, od10, .func (PySem.W.fnOf "are_entries" "are_entries" (defArgs s_are_entries) (defBody s_are_entries) (defScope s_are_entries) .none kV10 dc10 pm10 an10 cd10 ct10), sl10⟩)
    (c10 : PySem.W.codeIn K cd10 "are_entries" = true)
    (k10 : PySem.W.keepIn K (.ref f10) = true)
    (a11 : PySem.W.nsIn K mainGlobals "is_table" = some (some (.ref f11)))
    (l11 : K.lookup f11 = some ⟨oc11, od11, .func (PySem.W.fnOf "is_table" "is_table" (defArgs s_is_table) (defBody s_is_table) (defScope s_is_table) .none kV11 dc11 pm11 an11 cd11 ct11), sl11⟩)
    (c11 : PySem.W.codeIn K cd11 "is_table" = true)
    (k11 : PySem.W.keepIn K (.ref f11) = true)
    (a12 : PySem.W.nsIn K mainGlobals "table_told" = some (some (.ref f12)))
    (l12 : K.lookup f12 = some ⟨oc12, od12, .func (PySem.W.fnOf "table_told" "table_told" (defArgs s_table_told) (defBody s_table_told) (defScope s_table_told) .none kV12 dc12 pm12 an12 cd12 ct12), sl12⟩)
    (c12 : PySem.W.codeIn K cd12 "table_told" = true)
    (k12 : PySem.W.keepIn K (.ref f12) = true)
    (a13 : PySem.W.nsIn K mainGlobals "channel_anew" = some (some (.ref f13)))
    (l13 : K.lookup f13 = some ⟨oc13, od13, .func (PySem.W.fnOf "channel_anew" "channel_anew" (defArgs s_channel_anew) (defBody s_channel_anew) (defScope s_channel_anew) .none kV13 dc13 pm13 an13 cd13 ct13), sl13⟩)
    (c13 : PySem.W.codeIn K cd13 "channel_anew" = true)
    (k13 : PySem.W.keepIn K (.ref f13) = true)
    (a14 : PySem.W.nsIn K mainGlobals "breaker_anew" = some (some (.ref f14)))
    (l14 : K.lookup f14 = some ⟨oc14, od14, .func (PySem.W.fnOf "breaker_anew" "breaker_anew" (defArgs s_breaker_anew) (defBody s_breaker_anew) (defScope s_breaker_anew) .none kV14 dc14 pm14 an14 cd14 ct14), sl14⟩)
    (c14 : PySem.W.codeIn K cd14 "breaker_anew" = true)
    (k14 : PySem.W.keepIn K (.ref f14) = true)
    (a15 : PySem.W.nsIn K mainGlobals "ship_anew" = some (some (.ref f15)))
    (l15 : K.lookup f15 = some ⟨oc15, od15, .func (PySem.W.fnOf "ship_anew" "ship_anew" (defArgs s_ship_anew) (defBody s_ship_anew) (defScope s_ship_anew) .none kV15 dc15 pm15 an15 cd15 ct15), sl15⟩)
    (c15 : PySem.W.codeIn K cd15 "ship_anew" = true)
    (k15 : PySem.W.keepIn K (.ref f15) = true)
    (a16 : PySem.W.nsIn K mainGlobals "world_anew" = some (some (.ref f16)))
    (l16 : K.lookup f16 = some ⟨oc16, od16, .func (PySem.W.fnOf "world_anew" "world_anew" (defArgs s_world_anew) (defBody s_world_anew) (defScope s_world_anew) .none kV16 dc16 pm16 an16 cd16 ct16), sl16⟩)
    (c16 : PySem.W.codeIn K cd16 "world_anew" = true)
    (k16 : PySem.W.keepIn K (.ref f16) = true)
    (a17 : PySem.W.nsIn K mainGlobals "need_names_for" = some (some (.ref f17)))
    (l17 : K.lookup f17 = some ⟨oc17, od17, .func (PySem.W.fnOf "need_names_for" "need_names_for" (defArgs s_need_names_for) (defBody s_need_names_for) (defScope s_need_names_for) .none kV17 dc17 pm17 an17 cd17 ct17), sl17⟩)
    (c17 : PySem.W.codeIn K cd17 "need_names_for" = true)
    (k17 : PySem.W.keepIn K (.ref f17) = true)
    (a18 : PySem.W.nsIn K mainGlobals "names_of" = some (some (.ref f18)))
    (l18 : K.lookup f18 = some ⟨oc18, od18, .func (PySem.W.fnOf "names_of" "names_of" (defArgs s_names_of) (defBody s_names_of) (defScope s_names_of) .none kV18 dc18 pm18 an18 cd18 ct18), sl18⟩)
    (c18 : PySem.W.codeIn K cd18 "names_of" = true)
    (k18 : PySem.W.keepIn K (.ref f18) = true)
    (a19 : PySem.W.nsIn K mainGlobals "renamed" = some (some (.ref f19)))
    (l19 : K.lookup f19 = some ⟨oc19, od19, .func (PySem.W.fnOf "renamed" "renamed" (defArgs s_renamed) (defBody s_renamed) (defScope s_renamed) .none kV19 dc19 pm19 an19 cd19 ct19), sl19⟩)
    (c19 : PySem.W.codeIn K cd19 "renamed" = true)
    (k19 : PySem.W.keepIn K (.ref f19) = true)
    (a20 : PySem.W.nsIn K mainGlobals "renamed_table" = some (some (.ref f20)))
    (l20 : K.lookup f20 = some ⟨oc20, od20, .func (PySem.W.fnOf "renamed_table" "renamed_table" (defArgs s_renamed_table) (defBody s_renamed_table) (defScope s_renamed_table) .none kV20 dc20 pm20 an20 cd20 ct20), sl20⟩)
    (c20 : PySem.W.codeIn K cd20 "renamed_table" = true)
    (k20 : PySem.W.keepIn K (.ref f20) = true)
    (a21 : PySem.W.nsIn K mainGlobals "_law_cell" = some (some (.ref f21)))
    (l21 : K.lookup f21 = some ⟨oc21, od21, .func (PySem.W.fnOf "_law_cell" "_law_cell" (defArgs s__law_cell) (defBody s__law_cell) (defScope s__law_cell) .none kV21 dc21 pm21 an21 cd21 ct21), sl21⟩)
    (c21 : PySem.W.codeIn K cd21 "_law_cell" = true)
    (k21 : PySem.W.keepIn K (.ref f21) = true)
    (a22 : PySem.W.nsIn K mainGlobals "_law_box" = some (some (.ref f22)))
    (l22 : K.lookup f22 = some ⟨oc22, od22, .func (PySem.W.fnOf "_law_box" "_law_box" (defArgs s__law_box) (defBody s__law_box) (defScope s__law_box) .none kV22 dc22 pm22 an22 cd22 ct22), sl22⟩)
    (c22 : PySem.W.codeIn K cd22 "_law_box" = true)
    (k22 : PySem.W.keepIn K (.ref f22) = true)
    (a23 : PySem.W.nsIn K mainGlobals "_law_take" = some (some (.ref f23)))
    (l23 : K.lookup f23 = some ⟨oc23, od23, .func (PySem.W.fnOf "_law_take" "_law_take" (defArgs s__law_take) (defBody s__law_take) (defScope s__law_take) .none kV23 dc23 pm23 an23 cd23 ct23), sl23⟩)
    (c23 : PySem.W.codeIn K cd23 "_law_take" = true)
    (k23 : PySem.W.keepIn K (.ref f23) = true)
    (a24 : PySem.W.nsIn K mainGlobals "_law_names" = some (some (.ref f24)))
    (l24 : K.lookup f24 = some ⟨oc24, od24, .func (PySem.W.fnOf "_law_names" "_law_names" (defArgs s__law_names) (defBody s__law_names) (defScope s__law_names) .none kV24 dc24 pm24 an24 cd24 ct24), sl24⟩)
    (c24 : PySem.W.codeIn K cd24 "_law_names" = true)
    (k24 : PySem.W.keepIn K (.ref f24) = true)
    (a25 : PySem.W.nsIn K mainGlobals "_law_number" = some (some (.ref f25)))
    (l25 : K.lookup f25 = some ⟨oc25, od25, .func (PySem.W.fnOf "_law_number" "_law_number" (defArgs s__law_number) (defBody s__law_number) (defScope s__law_number) .none kV25 dc25 pm25 an25 cd25 ct25), sl25⟩)
    (c25 : PySem.W.codeIn K cd25 "_law_number" = true)
    (k25 : PySem.W.keepIn K (.ref f25) = true)
    (a26 : PySem.W.nsIn K mainGlobals "_law_channel" = some (some (.ref f26)))
    (l26 : K.lookup f26 = some ⟨oc26, od26, .func (PySem.W.fnOf "_law_channel" "_law_channel" (defArgs s__law_channel) (defBody s__law_channel) (defScope s__law_channel) .none kV26 dc26 pm26 an26 cd26 ct26), sl26⟩)
    (c26 : PySem.W.codeIn K cd26 "_law_channel" = true)
    (k26 : PySem.W.keepIn K (.ref f26) = true)
    (a27 : PySem.W.nsIn K mainGlobals "_law_breaker" = some (some (.ref f27)))
    (l27 : K.lookup f27 = some ⟨oc27, od27, .func (PySem.W.fnOf "_law_breaker" "_law_breaker" (defArgs s__law_breaker) (defBody s__law_breaker) (defScope s__law_breaker) .none kV27 dc27 pm27 an27 cd27 ct27), sl27⟩)
    (c27 : PySem.W.codeIn K cd27 "_law_breaker" = true)
    (k27 : PySem.W.keepIn K (.ref f27) = true)
    (a28 : PySem.W.nsIn K mainGlobals "_law_ship" = some (some (.ref f28)))
    (l28 : K.lookup f28 = some ⟨oc28, od28, .func (PySem.W.fnOf "_law_ship" "_law_ship" (defArgs s__law_ship) (defBody s__law_ship) (defScope s__law_ship) .none kV28 dc28 pm28 an28 cd28 ct28), sl28⟩)
    (c28 : PySem.W.codeIn K cd28 "_law_ship" = true)
    (k28 : PySem.W.keepIn K (.ref f28) = true)
    (a29 : PySem.W.nsIn K mainGlobals "_law_world" = some (some (.ref f29)))
    (l29 : K.lookup f29 = some ⟨oc29, od29, .func (PySem.W.fnOf "_law_world" "_law_world" (defArgs s__law_world) (defBody s__law_world) (defScope s__law_world) .none kV29 dc29 pm29 an29 cd29 ct29), sl29⟩)
    (c29 : PySem.W.codeIn K cd29 "_law_world" = true)
    (k29 : PySem.W.keepIn K (.ref f29) = true)
    (a30 : PySem.W.nsIn K mainGlobals "_law_few" = some (some (.ref f30)))
    (l30 : K.lookup f30 = some ⟨oc30, od30, .func (PySem.W.fnOf "_law_few" "_law_few" (defArgs s__law_few) (defBody s__law_few) (defScope s__law_few) .none kV30 dc30 pm30 an30 cd30 ct30), sl30⟩)
    (c30 : PySem.W.codeIn K cd30 "_law_few" = true)
    (k30 : PySem.W.keepIn K (.ref f30) = true)
    (a31 : PySem.W.nsIn K mainGlobals "_law_made" = some (some (.ref f31)))
    (l31 : K.lookup f31 = some ⟨oc31, od31, .func (PySem.W.fnOf "_law_made" "_law_made" (defArgs s__law_made) (defBody s__law_made) (defScope s__law_made) .none kV31 dc31 pm31 an31 cd31 ct31), sl31⟩)
    (c31 : PySem.W.codeIn K cd31 "_law_made" = true)
    (k31 : PySem.W.keepIn K (.ref f31) = true)
    (a32 : PySem.W.nsIn K mainGlobals "_law_table" = some (some (.ref f32)))
    (l32 : K.lookup f32 = some ⟨oc32, od32, .func (PySem.W.fnOf "_law_table" "_law_table" (defArgs s__law_table) (defBody s__law_table) (defScope s__law_table) .none kV32 dc32 pm32 an32 cd32 ct32), sl32⟩)
    (c32 : PySem.W.codeIn K cd32 "_law_table" = true)
    (k32 : PySem.W.keepIn K (.ref f32) = true)
    (a33 : PySem.W.nsIn K mainGlobals "_law_anew" = some (some (.ref f33)))
    (l33 : K.lookup f33 = some ⟨oc33, od33, .func (PySem.W.fnOf "_law_anew" "_law_anew" (defArgs s__law_anew) (defBody s__law_anew) (defScope s__law_anew) .none kV33 dc33 pm33 an33 cd33 ct33), sl33⟩)
    (c33 : PySem.W.codeIn K cd33 "_law_anew" = true)
    (k33 : PySem.W.keepIn K (.ref f33) = true)
    (a34 : PySem.W.nsIn K mainGlobals "_law_copy" = some (some (.ref f34)))
    (l34 : K.lookup f34 = some ⟨oc34, od34, .func (PySem.W.fnOf "_law_copy" "_law_copy" (defArgs s__law_copy) (defBody s__law_copy) (defScope s__law_copy) .none kV34 dc34 pm34 an34 cd34 ct34), sl34⟩)
    (c34 : PySem.W.codeIn K cd34 "_law_copy" = true)
    (k34 : PySem.W.keepIn K (.ref f34) = true)
    (a35 : PySem.W.nsIn K mainGlobals "_law_dict" = some (some (.ref f35)))
    (l35 : K.lookup f35 = some ⟨oc35, od35, .func (PySem.W.fnOf "_law_dict" "_law_dict" (defArgs s__law_dict) (defBody s__law_dict) (defScope s__law_dict) .none kV35 dc35 pm35 an35 cd35 ct35), sl35⟩)
    (c35 : PySem.W.codeIn K cd35 "_law_dict" = true)
    (k35 : PySem.W.keepIn K (.ref f35) = true)
    (a36 : PySem.W.nsIn K mainGlobals "_law_due" = some (some (.ref f36)))
    (l36 : K.lookup f36 = some ⟨oc36, od36, .func (PySem.W.fnOf "_law_due" "_law_due" (defArgs s__law_due) (defBody s__law_due) (defScope s__law_due) .none kV36 dc36 pm36 an36 cd36 ct36), sl36⟩)
    (c36 : PySem.W.codeIn K cd36 "_law_due" = true)
    (k36 : PySem.W.keepIn K (.ref f36) = true)
    (a37 : PySem.W.nsIn K mainGlobals "_law_due_table" = some (some (.ref f37)))
    (l37 : K.lookup f37 = some ⟨oc37, od37, .func (PySem.W.fnOf "_law_due_table" "_law_due_table" (defArgs s__law_due_table) (defBody s__law_due_table) (defScope s__law_due_table) .none kV37 dc37 pm37 an37 cd37 ct37), sl37⟩)
    (c37 : PySem.W.codeIn K cd37 "_law_due_table" = true)
    (k37 : PySem.W.keepIn K (.ref f37) = true)
    (a38 : PySem.W.nsIn K mainGlobals "_law_back" = some (some (.ref f38)))
    (l38 : K.lookup f38 = some ⟨oc38, od38, .func (PySem.W.fnOf "_law_back" "_law_back" (defArgs s__law_back) (defBody s__law_back) (defScope s__law_back) .none kV38 dc38 pm38 an38 cd38 ct38), sl38⟩)
    (c38 : PySem.W.codeIn K cd38 "_law_back" = true)
    (k38 : PySem.W.keepIn K (.ref f38) = true)
    (a39 : PySem.W.nsIn K mainGlobals "_law_right" = some (some (.ref f39)))
    (l39 : K.lookup f39 = some ⟨oc39, od39, .func (PySem.W.fnOf "_law_right" "_law_right" (defArgs s__law_right) (defBody s__law_right) (defScope s__law_right) .none kV39 dc39 pm39 an39 cd39 ct39), sl39⟩)
    (c39 : PySem.W.codeIn K cd39 "_law_right" = true)
    (k39 : PySem.W.keepIn K (.ref f39) = true)
    (a40 : PySem.W.nsIn K mainGlobals "law" = some (some (.ref f40)))
    (l40 : K.lookup f40 = some ⟨oc40, od40, .func (PySem.W.fnOf "law" "law" (defArgs s_law) (defBody s_law) (defScope s_law) .none kV40 dc40 pm40 an40 cd40 ct40), sl40⟩)
    (c40 : PySem.W.codeIn K cd40 "law" = true)
    (k40 : PySem.W.keepIn K (.ref f40) = true)
    (nCC : PySem.W.nsIn K mainGlobals "Channel" = some (some (.ref CC)))
    (nCV : PySem.W.nsIn K mainGlobals "Vessel" = some (some (.ref CV)))
    (nCB : PySem.W.nsIn K mainGlobals "Breaker" = some (some (.ref CB)))
    (nCS : PySem.W.nsIn K mainGlobals "Ship" = some (some (.ref CS)))
    (nCW : PySem.W.nsIn K mainGlobals "World" = some (some (.ref CW)))
    (a41 : PySem.W.findIn K (.ref CC) "__init__" = some (some (.ref f41)))
    (i41 : PySem.W.isFn K (.ref f41) = true)
    (l41 : K.lookup f41 = some ⟨oc41, od41, .func (PySem.W.fnOf "__init__" "Channel.__init__" (defArgs s_Channel___init__) (defBody s_Channel___init__) (defScope s_Channel___init__) .none kV41 dc41 pm41 an41 cd41 ct41), sl41⟩)
    (c41 : PySem.W.codeIn K cd41 "Channel.__init__" = true)
    (k41 : PySem.W.keepIn K (.ref f41) = true)
    (a42 : PySem.W.findIn K (.ref CC) "row" = some (some (.ref f42)))
    (i42 : PySem.W.isFn K (.ref f42) = true)
    (l42 : K.lookup f42 = some ⟨oc42, od42, .func (PySem.W.fnOf "row" "Channel.row" (defArgs s_Channel_row) (defBody s_Channel_row) (defScope s_Channel_row) .none kV42 dc42 pm42 an42 cd42 ct42), sl42⟩)
    (c42 : PySem.W.codeIn K cd42 "Channel.row" = true)
    (k42 : PySem.W.keepIn K (.ref f42) = true)
    (a43 : PySem.W.findIn K (.ref CV) "__init__" = some (some (.ref f43)))
    (i43 : PySem.W.isFn K (.ref f43) = true)
    (l43 : K.lookup f43 = some ⟨oc43, od43, .func (PySem.W.fnOf "__init__" "Vessel.__init__" (defArgs s_Vessel___init__) (defBody s_Vessel___init__) (defScope s_Vessel___init__) .none kV43 dc43 pm43 an43 cd43 ct43), sl43⟩)
    (c43 : PySem.W.codeIn K cd43 "Vessel.__init__" = true)
    (k43 : PySem.W.keepIn K (.ref f43) = true)
    (a44 : PySem.W.findIn K (.ref CV) "settle" = some (some (.ref f44)))
    (i44 : PySem.W.isFn K (.ref f44) = true)
    (l44 : K.lookup f44 = some ⟨oc44, od44, .func (PySem.W.fnOf "settle" "Vessel.settle" (defArgs s_Vessel_settle) (defBody s_Vessel_settle) (defScope s_Vessel_settle) .none kV44 dc44 pm44 an44 cd44 ct44), sl44⟩)
    (c44 : PySem.W.codeIn K cd44 "Vessel.settle" = true)
    (k44 : PySem.W.keepIn K (.ref f44) = true)
    (a45 : PySem.W.findIn K (.ref CV) "row" = some (some (.ref f45)))
    (i45 : PySem.W.isFn K (.ref f45) = true)
    (l45 : K.lookup f45 = some ⟨oc45, od45, .func (PySem.W.fnOf "row" "Vessel.row" (defArgs s_Vessel_row) (defBody s_Vessel_row) (defScope s_Vessel_row) .none kV45 dc45 pm45 an45 cd45 ct45), sl45⟩)
    (c45 : PySem.W.codeIn K cd45 "Vessel.row" = true)
    (k45 : PySem.W.keepIn K (.ref f45) = true)
    (a46 : PySem.W.findIn K (.ref CB) "__init__" = some (some (.ref f46)))
    (i46 : PySem.W.isFn K (.ref f46) = true)
    (l46 : K.lookup f46 = some ⟨oc46, od46, .func (PySem.W.fnOf "__init__" "Breaker.__init__" (defArgs s_Breaker___init__) (defBody s_Breaker___init__) (defScope s_Breaker___init__) .none kV46 dc46 pm46 an46 cd46 ct46), sl46⟩)
    (c46 : PySem.W.codeIn K cd46 "Breaker.__init__" = true)
    (k46 : PySem.W.keepIn K (.ref f46) = true)
    (a47 : PySem.W.findIn K (.ref CB) "row" = some (some (.ref f47)))
    (i47 : PySem.W.isFn K (.ref f47) = true)
    (l47 : K.lookup f47 = some ⟨oc47, od47, .func (PySem.W.fnOf "row" "Breaker.row" (defArgs s_Breaker_row) (defBody s_Breaker_row) (defScope s_Breaker_row) .none kV47 dc47 pm47 an47 cd47 ct47), sl47⟩)
    (c47 : PySem.W.codeIn K cd47 "Breaker.row" = true)
    (k47 : PySem.W.keepIn K (.ref f47) = true)
    (a48 : PySem.W.findIn K (.ref CS) "__init__" = some (some (.ref f48)))
    (i48 : PySem.W.isFn K (.ref f48) = true)
    (l48 : K.lookup f48 = some ⟨oc48, od48, .func (PySem.W.fnOf "__init__" "Ship.__init__" (defArgs s_Ship___init__) (defBody s_Ship___init__) (defScope s_Ship___init__) .none kV48 dc48 pm48 an48 cd48 ct48), sl48⟩)
    (c48 : PySem.W.codeIn K cd48 "Ship.__init__" = true)
    (k48 : PySem.W.keepIn K (.ref f48) = true)
    (a49 : PySem.W.findIn K (.ref CS) "row" = some (some (.ref f49)))
    (i49 : PySem.W.isFn K (.ref f49) = true)
    (l49 : K.lookup f49 = some ⟨oc49, od49, .func (PySem.W.fnOf "row" "Ship.row" (defArgs s_Ship_row) (defBody s_Ship_row) (defScope s_Ship_row) .none kV49 dc49 pm49 an49 cd49 ct49), sl49⟩)
    (c49 : PySem.W.codeIn K cd49 "Ship.row" = true)
    (k49 : PySem.W.keepIn K (.ref f49) = true)
    (a50 : PySem.W.findIn K (.ref CW) "__init__" = some (some (.ref f50)))
    (i50 : PySem.W.isFn K (.ref f50) = true)
    (l50 : K.lookup f50 = some ⟨oc50, od50, .func (PySem.W.fnOf "__init__" "World.__init__" (defArgs s_World___init__) (defBody s_World___init__) (defScope s_World___init__) .none kV50 dc50 pm50 an50 cd50 ct50), sl50⟩)
    (c50 : PySem.W.codeIn K cd50 "World.__init__" = true)
    (k50 : PySem.W.keepIn K (.ref f50) = true)
    (a51 : PySem.W.findIn K (.ref CW) "begin_hour" = some (some (.ref f51)))
    (i51 : PySem.W.isFn K (.ref f51) = true)
    (l51 : K.lookup f51 = some ⟨oc51, od51, .func (PySem.W.fnOf "begin_hour" "World.begin_hour" (defArgs s_World_begin_hour) (defBody s_World_begin_hour) (defScope s_World_begin_hour) .none kV51 dc51 pm51 an51 cd51 ct51), sl51⟩)
    (c51 : PySem.W.codeIn K cd51 "World.begin_hour" = true)
    (k51 : PySem.W.keepIn K (.ref f51) = true)
    (a52 : PySem.W.findIn K (.ref CW) "vessels" = some (some (.ref f52)))
    (i52 : PySem.W.isFn K (.ref f52) = true)
    (l52 : K.lookup f52 = some ⟨oc52, od52, .func (PySem.W.fnOf "vessels" "World.vessels" (defArgs s_World_vessels) (defBody s_World_vessels) (defScope s_World_vessels) .none kV52 dc52 pm52 an52 cd52 ct52), sl52⟩)
    (c52 : PySem.W.codeIn K cd52 "World.vessels" = true)
    (k52 : PySem.W.keepIn K (.ref f52) = true)
    (a53 : PySem.W.findIn K (.ref CW) "channels" = some (some (.ref f53)))
    (i53 : PySem.W.isFn K (.ref f53) = true)
    (l53 : K.lookup f53 = some ⟨oc53, od53, .func (PySem.W.fnOf "channels" "World.channels" (defArgs s_World_channels) (defBody s_World_channels) (defScope s_World_channels) .none kV53 dc53 pm53 an53 cd53 ct53), sl53⟩)
    (c53 : PySem.W.codeIn K cd53 "World.channels" = true)
    (k53 : PySem.W.keepIn K (.ref f53) = true)
    (a54 : PySem.W.findIn K (.ref CW) "told" = some (some (.ref f54)))
    (i54 : PySem.W.isFn K (.ref f54) = true)
    (l54 : K.lookup f54 = some ⟨oc54, od54, .func (PySem.W.fnOf "told" "World.told" (defArgs s_World_told) (defBody s_World_told) (defScope s_World_told) .none kV54 dc54 pm54 an54 cd54 ct54), sl54⟩)
    (c54 : PySem.W.codeIn K cd54 "World.told" = true)
    (k54 : PySem.W.keepIn K (.ref f54) = true)
    (a55 : PySem.W.findIn K (.ref CW) "ports" = some (some (.ref f55)))
    (i55 : PySem.W.isFn K (.ref f55) = true)
    (l55 : K.lookup f55 = some ⟨oc55, od55, .func (PySem.W.fnOf "ports" "World.ports" (defArgs s_World_ports) (defBody s_World_ports) (defScope s_World_ports) .none kV55 dc55 pm55 an55 cd55 ct55), sl55⟩)
    (c55 : PySem.W.codeIn K cd55 "World.ports" = true)
    (k55 : PySem.W.keepIn K (.ref f55) = true)
    (asB : PySem.W.findIn K (.ref CB) "settle" = some (some (.ref f44)))
    (asS : PySem.W.findIn K (.ref CS) "settle" = some (some (.ref f44)))
    (spV : PySem.W.specialIn K (.ref CV) "__getattribute__" = some (some (.builtin "type.__getattribute__")))
    (rdV : PySem.W.readsIn K CV (.type "type") = true)
    (fiV : PySem.W.findCls K (.ref CV) (.type "type") "__init__" = some (.val (.ref f43)))
    (frV : PySem.W.findCls K (.ref CV) (.type "type") "row" = some (.val (.ref f45)))
    (pgCC : PySem.W.plainGet K CC Str.empty = true)
    (hdCC : PySem.W.hasDictIn K CC = true)
    (poCC : PySem.W.plainOver K CC = true)
    (saCC : PySem.W.findIn K (.ref CC) "__setattr__" = some (some (.builtin "object.__setattr__")))
    (mkCC : PySem.W.makesIn K CC = true)
    (kcCC : PySem.W.keepIn K (.ref CC) = true)
    (noCC_name : PySem.W.findIn K (.ref CC) "name" = some none)
    (noCC_one : PySem.W.findIn K (.ref CC) "one" = some none)
    (noCC_other : PySem.W.findIn K (.ref CC) "other" = some none)
    (noCC_hours : PySem.W.findIn K (.ref CC) "hours" = some none)
    (noCC_depth : PySem.W.findIn K (.ref CC) "depth" = some none)
    (noCC_first : PySem.W.findIn K (.ref CC) "first" = some none)
    (noCC_growth : PySem.W.findIn K (.ref CC) "growth" = some none)
    (noCC_most : PySem.W.findIn K (.ref CC) "most" = some none)
    (pgCB : PySem.W.plainGet K CB Str.empty = true)
    (hdCB : PySem.W.hasDictIn K CB = true)
    (poCB : PySem.W.plainOver K CB = true)
    (saCB : PySem.W.findIn K (.ref CB) "__setattr__" = some (some (.builtin "object.__setattr__")))
    (mkCB : PySem.W.makesIn K CB = true)
    (kcCB : PySem.W.keepIn K (.ref CB) = true)
    (noCB_name : PySem.W.findIn K (.ref CB) "name" = some none)
    (noCB_port : PySem.W.findIn K (.ref CB) "port" = some none)
    (noCB_hour : PySem.W.findIn K (.ref CB) "hour" = some none)
    (noCB_strength : PySem.W.findIn K (.ref CB) "strength" = some none)
    (noCB_draught : PySem.W.findIn K (.ref CB) "draught" = some none)
    (noCB_cut : PySem.W.findIn K (.ref CB) "cut" = some none)
    (pgCS : PySem.W.plainGet K CS Str.empty = true)
    (hdCS : PySem.W.hasDictIn K CS = true)
    (poCS : PySem.W.plainOver K CS = true)
    (saCS : PySem.W.findIn K (.ref CS) "__setattr__" = some (some (.builtin "object.__setattr__")))
    (mkCS : PySem.W.makesIn K CS = true)
    (kcCS : PySem.W.keepIn K (.ref CS) = true)
    (noCS_name : PySem.W.findIn K (.ref CS) "name" = some none)
    (noCS_port : PySem.W.findIn K (.ref CS) "port" = some none)
    (noCS_hour : PySem.W.findIn K (.ref CS) "hour" = some none)
    (noCS_strength : PySem.W.findIn K (.ref CS) "strength" = some none)
    (noCS_draught : PySem.W.findIn K (.ref CS) "draught" = some none)
    (noCS_goal : PySem.W.findIn K (.ref CS) "goal" = some none)
    (pgCW : PySem.W.plainGet K CW Str.empty = true)
    (hdCW : PySem.W.hasDictIn K CW = true)
    (poCW : PySem.W.plainOver K CW = true)
    (saCW : PySem.W.findIn K (.ref CW) "__setattr__" = some (some (.builtin "object.__setattr__")))
    (mkCW : PySem.W.makesIn K CW = true)
    (kcCW : PySem.W.keepIn K (.ref CW) = true)
    (noCW_beginning : PySem.W.findIn K (.ref CW) "beginning" = some none)
    (noCW_all_ports : PySem.W.findIn K (.ref CW) "all_ports" = some none)
    (noCW_all_channels : PySem.W.findIn K (.ref CW) "all_channels" = some none)
    (noCW_all_breakers : PySem.W.findIn K (.ref CW) "all_breakers" = some none)
    (noCW_all_ships : PySem.W.findIn K (.ref CW) "all_ships" = some none)
    (clCC : PySem.W.findIn K (.ref CC) "__class__" = some (some (.builtin "object.__class__")))
    (moCC : PySem.W.mroIn K CC (.type "object") = some true)
    (clCB : PySem.W.findIn K (.ref CB) "__class__" = some (some (.builtin "object.__class__")))
    (moCB : PySem.W.mroIn K CB (.type "object") = some true)
    (clCS : PySem.W.findIn K (.ref CS) "__class__" = some (some (.builtin "object.__class__")))
    (moCS : PySem.W.mroIn K CS (.type "object") = some true)
    (cg : PySem.W.specialIn K (.builtin "object.__class__") "__get__" = some (some (.builtin "getset_descriptor.__get__")))
    (ct : PySem.W.takesIn K (.builtin "object.__class__") = some true)
    (gL : PySem.W.nsIn K mainGlobals "LETTERS" = some (some (.str "abcdefghijklmnopqrstuvwxyz" tL)))
    (g_MOST_HOUR : PySem.W.nsIn K mainGlobals "MOST_HOUR" = some (some (.int 1000000 t_MOST_HOUR)))
    (g_MOST_ICE : PySem.W.nsIn K mainGlobals "MOST_ICE" = some (some (.int 1000000 t_MOST_ICE)))
    (g_MOST_DEPTH : PySem.W.nsIn K mainGlobals "MOST_DEPTH" = some (some (.int 1000 t_MOST_DEPTH)))
    (g_MOST_LENGTH : PySem.W.nsIn K mainGlobals "MOST_LENGTH" = some (some (.int 1000 t_MOST_LENGTH)))
    (g_MOST_GROWTH : PySem.W.nsIn K mainGlobals "MOST_GROWTH" = some (some (.int 1000 t_MOST_GROWTH)))
    (g_MOST_BEGIN : PySem.W.nsIn K mainGlobals "MOST_BEGIN" = some (some (.int 1000000 t_MOST_BEGIN)))
    (g_MOST_PORTS : PySem.W.nsIn K mainGlobals "MOST_PORTS" = some (some (.int 8 t_MOST_PORTS)))
    (g_MOST_CHANNELS : PySem.W.nsIn K mainGlobals "MOST_CHANNELS" = some (some (.int 12 t_MOST_CHANNELS)))
    (g_MOST_BREAKERS : PySem.W.nsIn K mainGlobals "MOST_BREAKERS" = some (some (.int 4 t_MOST_BREAKERS)))
    (g_MOST_SHIPS : PySem.W.nsIn K mainGlobals "MOST_SHIPS" = some (some (.int 6 t_MOST_SHIPS)))
    (g_LAST_HOUR : PySem.W.nsIn K mainGlobals "LAST_HOUR" = some (some (.int 100000000 t_LAST_HOUR)))
    (g_LONGEST_NAME : PySem.W.nsIn K mainGlobals "LONGEST_NAME" = some (some (.int 8 t_LONGEST_NAME)))
    (b_isinstance : PySem.W.nsIn K mainGlobals "isinstance" = some none)
    (b_int : PySem.W.nsIn K mainGlobals "int" = some none)
    (b_bool : PySem.W.nsIn K mainGlobals "bool" = some none)
    (b_str : PySem.W.nsIn K mainGlobals "str" = some none)
    (b_list : PySem.W.nsIn K mainGlobals "list" = some none)
    (b_tuple : PySem.W.nsIn K mainGlobals "tuple" = some none)
    (b_dict : PySem.W.nsIn K mainGlobals "dict" = some none)
    (b_len : PySem.W.nsIn K mainGlobals "len" = some none)
    (b_all : PySem.W.nsIn K mainGlobals "all" = some none)
    (b_max : PySem.W.nsIn K mainGlobals "max" = some none)
    (b_min : PySem.W.nsIn K mainGlobals "min" = some none)
    (b_range : PySem.W.nsIn K mainGlobals "range" = some none)
    (b_repr : PySem.W.nsIn K mainGlobals "repr" = some none)
    (b_set : PySem.W.nsIn K mainGlobals "set" = some none)
    (b_zip : PySem.W.nsIn K mainGlobals "zip" = some none)
    : ∃ fd : FuncData, (∀ (s : Shared) (u : Value), BindsTo s fd ⟨[u], []⟩ [("_law_script", u)]) ∧ ∀ base : Heap, K.In base → base.Ns mainGlobals mg → FnG P w K mg base CX0 11 fa fd ["_law_script"] (spLaw K) := by
  have e := hfa.symm.trans (PySem.W.mg_of X G a40)
  cases e
  have B : Blt mg := ⟨PySem.W.mg_none_of X G b_isinstance, PySem.W.mg_none_of X G b_int, PySem.W.mg_none_of X G b_bool, PySem.W.mg_none_of X G b_str, PySem.W.mg_none_of X G b_list, PySem.W.mg_none_of X G b_tuple, PySem.W.mg_none_of X G b_dict, PySem.W.mg_none_of X G b_len, PySem.W.mg_none_of X G b_all, PySem.W.mg_none_of X G b_max, PySem.W.mg_none_of X G b_min, PySem.W.mg_none_of X G b_range, PySem.W.mg_none_of X G b_repr⟩
  have NB : Bnd mg := ⟨⟨_, PySem.W.mg_of X G g_MOST_HOUR, ⟨_, rfl⟩⟩, ⟨_, PySem.W.mg_of X G g_MOST_ICE, ⟨_, rfl⟩⟩, ⟨_, PySem.W.mg_of X G g_MOST_DEPTH, ⟨_, rfl⟩⟩, ⟨_, PySem.W.mg_of X G g_MOST_LENGTH, ⟨_, rfl⟩⟩, ⟨_, PySem.W.mg_of X G g_MOST_GROWTH, ⟨_, rfl⟩⟩⟩
  have MB : WBnd mg := ⟨⟨_, PySem.W.mg_of X G g_MOST_BEGIN, ⟨_, rfl⟩⟩, ⟨_, PySem.W.mg_of X G g_MOST_PORTS, ⟨_, rfl⟩⟩, ⟨_, PySem.W.mg_of X G g_MOST_CHANNELS, ⟨_, rfl⟩⟩, ⟨_, PySem.W.mg_of X G g_MOST_BREAKERS, ⟨_, rfl⟩⟩, ⟨_, PySem.W.mg_of X G g_MOST_SHIPS, ⟨_, rfl⟩⟩⟩
  have TC : Cl K CC chanK := ⟨⟨pgCC, hdCC, poCC, saCC⟩, fun x hx => by
    simp only [List.mem_cons, List.not_mem_nil, or_false] at hx
    rcases hx with rfl | rfl | rfl | rfl | rfl | rfl | rfl | rfl
    · exact noCC_name
    · exact noCC_one
    · exact noCC_other
    · exact noCC_hours
    · exact noCC_depth
    · exact noCC_first
    · exact noCC_growth
    · exact noCC_most⟩
  have TB : Cl K CB brkK := ⟨⟨pgCB, hdCB, poCB, saCB⟩, fun x hx => by
    simp only [List.mem_cons, List.not_mem_nil, or_false] at hx
    rcases hx with rfl | rfl | rfl | rfl | rfl | rfl
    · exact noCB_name
    · exact noCB_port
    · exact noCB_hour
    · exact noCB_strength
    · exact noCB_draught
    · exact noCB_cut⟩
  have TS : Cl K CS shpK := ⟨⟨pgCS, hdCS, poCS, saCS⟩, fun x hx => by
    simp only [List.mem_cons, List.not_mem_nil, or_false] at hx
    rcases hx with rfl | rfl | rfl | rfl | rfl | rfl
    · exact noCS_name
    · exact noCS_port
    · exact noCS_hour
    · exact noCS_strength
    · exact noCS_draught
    · exact noCS_goal⟩
  have TW : Cl K CW wldK := ⟨⟨pgCW, hdCW, poCW, saCW⟩, fun x hx => by
    simp only [List.mem_cons, List.not_mem_nil, or_false] at hx
    rcases hx with rfl | rfl | rfl | rfl | rfl
    · exact noCW_beginning
    · exact noCW_all_ports
    · exact noCW_all_channels
    · exact noCW_all_breakers
    · exact noCW_all_ships⟩
  have sub1 : ∀ k ∈ vesK, k ∈ brkK := by decide +kernel
  have sub2 : ∀ k ∈ vesK, k ∈ shpK := by decide +kernel
  have TBv : Cl K CB vesK := ⟨TB.cls, fun k hk => TB.no k (sub1 k hk)⟩
  have TSv : Cl K CS vesK := ⟨TS.cls, fun k hk => TS.no k (sub2 k hk)⟩
  have OCC : OCl K CC := ⟨TC.cls, clCC, cg, ct, moCC, kit_self⟩
  have OCB : OCl K CB := ⟨TB.cls, clCB, cg, ct, moCB, kit_self⟩
  have OCS : OCl K CS := ⟨TS.cls, clCS, cg, ct, moCS, kit_self⟩
  have KS : KCl K mg CC CB CS := ⟨⟨_, PySem.W.mg_of X G nCC, rfl⟩, ⟨_, PySem.W.mg_of X G nCB, rfl⟩, ⟨_, PySem.W.mg_of X G nCS, rfl⟩, OCC, OCB, OCS⟩
  have F0 := fun_mk (st := s_is_whole) l0 c0 k0
  have B0 := F0.binds (ps := ["thing"]) fun _ _ _ _ _ _ us hl => match us, hl with | [_], _ => rfl
  have F1 := fun_mk (st := s_is_within) l1 c1 k1
  have B1 := F1.binds (ps := ["thing", "low", "high"]) fun _ _ _ _ _ _ us hl => match us, hl with | [_, _, _], _ => rfl
  have F2 := fun_mk (st := s_is_name) l2 c2 k2
  have B2 := F2.binds (ps := ["thing"]) fun _ _ _ _ _ _ us hl => match us, hl with | [_], _ => rfl
  have F3 := fun_mk (st := s_need_names) l3 c3 k3
  have B3 := F3.binds (ps := ["things"]) fun _ _ _ _ _ _ us hl => match us, hl with | [_], _ => rfl
  have F4 := fun_mk (st := s_need_numbers) l4 c4 k4
  have B4 := F4.binds (ps := ["rows"]) fun _ _ _ _ _ _ us hl => match us, hl with | [_], _ => rfl
  have F5 := fun_mk (st := s_is_list) l5 c5 k5
  have B5 := F5.binds (ps := ["thing", "low", "high"]) fun _ _ _ _ _ _ us hl => match us, hl with | [_, _, _], _ => rfl
  have F6 := fun_mk (st := s_need_kinds) l6 c6 k6
  have B6 := F6.binds (ps := ["ports", "channels", "breakers", "ships"]) fun _ _ _ _ _ _ us hl => match us, hl with | [_, _, _, _], _ => rfl
  have F7 := fun_mk (st := s_need_unlike) l7 c7 k7
  have B7 := F7.binds (ps := ["names"]) fun _ _ _ _ _ _ us hl => match us, hl with | [_], _ => rfl
  have F8 := fun_mk (st := s_need_ports) l8 c8 k8
  have B8 := F8.binds (ps := ["names", "ports"]) fun _ _ _ _ _ _ us hl => match us, hl with | [_, _], _ => rfl
  have F9 := fun_mk (st := s_is_entry) l9 c9 k9
  have B9 := F9.binds (ps := ["begin", "channels", "thing"]) fun _ _ _ _ _ _ us hl => match us, hl with | [_, _, _], _ => rfl
  have F10 := fun_mk (st := s_are_entries) l10 c10 k10
  have B10 := F10.binds (ps := ["begin", "channels", "thing"]) fun _ _ _ _ _ _ us hl => match us, hl with | [_, _, _], _ => rfl
  have F11 := fun_mk (st := s_is_table) l11 c11 k11
  have B11 := F11.binds (ps := ["world", "thing"]) fun _ _ _ _ _ _ us hl => match us, hl with | [_, _], _ => rfl
  have F12 := fun_mk (st := s_table_told) l12 c12 k12
  have B12 := F12.binds (ps := ["world", "table"]) fun _ _ _ _ _ _ us hl => match us, hl with | [_, _], _ => rfl
  have F13 := fun_mk (st := s_channel_anew) l13 c13 k13
  have B13 := F13.binds (ps := ["row"]) fun _ _ _ _ _ _ us hl => match us, hl with | [_], _ => rfl
  have F14 := fun_mk (st := s_breaker_anew) l14 c14 k14
  have B14 := F14.binds (ps := ["row"]) fun _ _ _ _ _ _ us hl => match us, hl with | [_], _ => rfl
  have F15 := fun_mk (st := s_ship_anew) l15 c15 k15
  have B15 := F15.binds (ps := ["row"]) fun _ _ _ _ _ _ us hl => match us, hl with | [_], _ => rfl
  have F16 := fun_mk (st := s_world_anew) l16 c16 k16
  have B16 := F16.binds (ps := ["told"]) fun _ _ _ _ _ _ us hl => match us, hl with | [_], _ => rfl
  have F17 := fun_mk (st := s_need_names_for) l17 c17 k17
  have B17 := F17.binds (ps := ["names", "thing"]) fun _ _ _ _ _ _ us hl => match us, hl with | [_, _], _ => rfl
  have F18 := fun_mk (st := s_names_of) l18 c18 k18
  have B18 := F18.binds (ps := ["things"]) fun _ _ _ _ _ _ us hl => match us, hl with | [_], _ => rfl
  have F19 := fun_mk (st := s_renamed) l19 c19 k19
  have B19 := F19.binds (ps := ["world", "ports", "channels", "vessels"]) fun _ _ _ _ _ _ us hl => match us, hl with | [_, _, _, _], _ => rfl
  have F20 := fun_mk (st := s_renamed_table) l20 c20 k20
  have B20 := F20.binds (ps := ["world", "table", "channels", "vessels"]) fun _ _ _ _ _ _ us hl => match us, hl with | [_, _, _, _], _ => rfl
  have F21 := fun_mk (st := s__law_cell) l21 c21 k21
  have B21 := F21.binds (ps := ["_law_script", "_law_k"]) fun _ _ _ _ _ _ us hl => match us, hl with | [_, _], _ => rfl
  have F22 := fun_mk (st := s__law_box) l22 c22 k22
  have B22 := F22.binds (ps := ["_law_cell_here"]) fun _ _ _ _ _ _ us hl => match us, hl with | [_], _ => rfl
  have F23 := fun_mk (st := s__law_take) l23 c23 k23
  have B23 := F23.binds (ps := ["_law_box_here", "_law_many"]) fun _ _ _ _ _ _ us hl => match us, hl with | [_, _], _ => rfl
  have F24 := fun_mk (st := s__law_names) l24 c24 k24
  have B24 := F24.binds (ps := ["_law_box_here", "_law_many"]) fun _ _ _ _ _ _ us hl => match us, hl with | [_, _], _ => rfl
  have F25 := fun_mk (st := s__law_number) l25 c25 k25
  have B25 := F25.binds (ps := ["_law_box_here", "_law_low", "_law_high"]) fun _ _ _ _ _ _ us hl => match us, hl with | [_, _, _], _ => rfl
  have F26 := fun_mk (st := s__law_channel) l26 c26 k26
  have B26 := F26.binds (ps := ["_law_box_here", "_law_name", "_law_ports"]) fun _ _ _ _ _ _ us hl => match us, hl with | [_, _, _], _ => rfl
  have F27 := fun_mk (st := s__law_breaker) l27 c27 k27
  have B27 := F27.binds (ps := ["_law_box_here", "_law_name", "_law_ports"]) fun _ _ _ _ _ _ us hl => match us, hl with | [_, _, _], _ => rfl
  have F28 := fun_mk (st := s__law_ship) l28 c28 k28
  have B28 := F28.binds (ps := ["_law_box_here", "_law_name", "_law_ports"]) fun _ _ _ _ _ _ us hl => match us, hl with | [_, _, _], _ => rfl
  have F29 := fun_mk (st := s__law_world) l29 c29 k29
  have B29 := F29.binds (ps := ["_law_box_here", "_law_sizes"]) fun _ _ _ _ _ _ us hl => match us, hl with | [_, _], _ => rfl
  have F30 := fun_mk (st := s__law_few) l30 c30 k30
  have B30 := F30.binds (ps := ["_law_box_here"]) fun _ _ _ _ _ _ us hl => match us, hl with | [_], _ => rfl
  have F31 := fun_mk (st := s__law_made) l31 c31 k31
  have B31 := F31.binds (ps := ["_law_world_here"]) fun _ _ _ _ _ _ us hl => match us, hl with | [_], _ => rfl
  have F32 := fun_mk (st := s__law_table) l32 c32 k32
  have B32 := F32.binds (ps := ["_law_box_here", "_law_world_here"]) fun _ _ _ _ _ _ us hl => match us, hl with | [_, _], _ => rfl
  have F33 := fun_mk (st := s__law_anew) l33 c33 k33
  have B33 := F33.binds (ps := ["_law_world_here", "_law_table_here"]) fun _ _ _ _ _ _ us hl => match us, hl with | [_, _], _ => rfl
  have F34 := fun_mk (st := s__law_copy) l34 c34 k34
  have B34 := F34.binds (ps := ["_law_table_here"]) fun _ _ _ _ _ _ us hl => match us, hl with | [_], _ => rfl
  have F35 := fun_mk (st := s__law_dict) l35 c35 k35
  have B35 := F35.binds (ps := ["_law_box_here", "_law_names_here"]) fun _ _ _ _ _ _ us hl => match us, hl with | [_, _], _ => rfl
  have F36 := fun_mk (st := s__law_due) l36 c36 k36
  have B36 := F36.binds (ps := ["_law_world_here", "_law_ports", "_law_channels", "_law_vessels"]) fun _ _ _ _ _ _ us hl => match us, hl with | [_, _, _, _], _ => rfl
  have F37 := fun_mk (st := s__law_due_table) l37 c37 k37
  have B37 := F37.binds (ps := ["_law_world_here", "_law_table_here", "_law_channels", "_law_vessels"]) fun _ _ _ _ _ _ us hl => match us, hl with | [_, _, _, _], _ => rfl
  have F38 := fun_mk (st := s__law_back) l38 c38 k38
  have B38 := F38.binds (ps := ["_law_names_here"]) fun _ _ _ _ _ _ us hl => match us, hl with | [_], _ => rfl
  have F39 := fun_mk (st := s__law_right) l39 c39 k39
  have B39 := F39.binds (ps := ["_law_scene"]) fun _ _ _ _ _ _ us hl => match us, hl with | [_], _ => rfl
  have F40 := fun_mk (st := s_law) l40 c40 k40
  have F41 := fun_mk (st := s_Channel___init__) l41 c41 k41
  have B41 := F41.binds (ps := ["self", "name", "one", "other", "hours", "depth", "first", "growth", "most"]) fun _ _ _ _ _ _ us hl => match us, hl with | [_, _, _, _, _, _, _, _, _], _ => rfl
  have F42 := fun_mk (st := s_Channel_row) l42 c42 k42
  have B42 := F42.binds (ps := ["self"]) fun _ _ _ _ _ _ us hl => match us, hl with | [_], _ => rfl
  have F43 := fun_mk (st := s_Vessel___init__) l43 c43 k43
  have B43 := F43.binds (ps := ["self", "name", "port", "hour", "strength", "draught"]) fun _ _ _ _ _ _ us hl => match us, hl with | [_, _, _, _, _, _], _ => rfl
  have F44 := fun_mk (st := s_Vessel_settle) l44 c44 k44
  have B44 := F44.binds (ps := ["self", "name", "port", "hour", "strength", "draught"]) fun _ _ _ _ _ _ us hl => match us, hl with | [_, _, _, _, _, _], _ => rfl
  have F45 := fun_mk (st := s_Vessel_row) l45 c45 k45
  have B45 := F45.binds (ps := ["self"]) fun _ _ _ _ _ _ us hl => match us, hl with | [_], _ => rfl
  have F46 := fun_mk (st := s_Breaker___init__) l46 c46 k46
  have B46 := F46.binds (ps := ["self", "name", "port", "hour", "strength", "draught", "cut"]) fun _ _ _ _ _ _ us hl => match us, hl with | [_, _, _, _, _, _, _], _ => rfl
  have F47 := fun_mk (st := s_Breaker_row) l47 c47 k47
  have B47 := F47.binds (ps := ["self"]) fun _ _ _ _ _ _ us hl => match us, hl with | [_], _ => rfl
  have F48 := fun_mk (st := s_Ship___init__) l48 c48 k48
  have B48 := F48.binds (ps := ["self", "name", "port", "goal", "hour", "strength", "draught"]) fun _ _ _ _ _ _ us hl => match us, hl with | [_, _, _, _, _, _, _], _ => rfl
  have F49 := fun_mk (st := s_Ship_row) l49 c49 k49
  have B49 := F49.binds (ps := ["self"]) fun _ _ _ _ _ _ us hl => match us, hl with | [_], _ => rfl
  have F50 := fun_mk (st := s_World___init__) l50 c50 k50
  have B50 := F50.binds (ps := ["self", "begin", "ports", "channels", "breakers", "ships"]) fun _ _ _ _ _ _ us hl => match us, hl with | [_, _, _, _, _, _], _ => rfl
  have F51 := fun_mk (st := s_World_begin_hour) l51 c51 k51
  have B51 := F51.binds (ps := ["self"]) fun _ _ _ _ _ _ us hl => match us, hl with | [_], _ => rfl
  have F52 := fun_mk (st := s_World_vessels) l52 c52 k52
  have B52 := F52.binds (ps := ["self"]) fun _ _ _ _ _ _ us hl => match us, hl with | [_], _ => rfl
  have F53 := fun_mk (st := s_World_channels) l53 c53 k53
  have B53 := F53.binds (ps := ["self"]) fun _ _ _ _ _ _ us hl => match us, hl with | [_], _ => rfl
  have F54 := fun_mk (st := s_World_told) l54 c54 k54
  have B54 := F54.binds (ps := ["self"]) fun _ _ _ _ _ _ us hl => match us, hl with | [_], _ => rfl
  have F55 := fun_mk (st := s_World_ports) l55 c55 k55
  have B55 := F55.binds (ps := ["self"]) fun _ _ _ _ _ _ us hl => match us, hl with | [_], _ => rfl
  refine ⟨PySem.W.fnOf "law" "law" (defArgs s_law) (defBody s_law) (defScope s_law) .none kV40 dc40 pm40 an40 cd40 ct40, fun s u => .of_eq rfl, fun base _ _ => ?_⟩
  have O0 := ok_whole (P := P) (w := w) (mg := mg) (base := base) F0 B
  have D0 : Dn P w K mg base CX0 1 "is_whole" ["thing"] (spWhole K) := ⟨⟨_, _, PySem.W.mg_of X G a0, k0, B0, O0⟩⟩
  have O1 := ok_within (P := P) (w := w) (mg := mg) (base := base) F1 D0
  have D1 : Dn P w K mg base CX0 2 "is_within" ["thing", "low", "high"] (spWithin K) := ⟨⟨_, _, PySem.W.mg_of X G a1, k1, B1, O1⟩⟩
  have O2 := ok_name (P := P) (w := w) (mg := mg) (base := base) F2 B ⟨_, PySem.W.mg_of X G gL, ⟨_, rfl⟩⟩ ⟨_, PySem.W.mg_of X G g_LONGEST_NAME, ⟨_, rfl⟩⟩
  have D2 : Dn P w K mg base CX0 1 "is_name" ["thing"] spName := ⟨⟨_, _, PySem.W.mg_of X G a2, k2, B2, O2⟩⟩
  have O3 := ok_needNames (P := P) (w := w) (mg := mg) (base := base) F3 D2
  have D3 : Dn P w K mg base CX0 2 "need_names" ["things"] (spNeedNames K) := ⟨⟨_, _, PySem.W.mg_of X G a3, k3, B3, O3⟩⟩
  have O4 := ok_needNums (P := P) (w := w) (mg := mg) (base := base) F4 D1
  have D4 : Dn P w K mg base CX0 3 "need_numbers" ["rows"] (spNeedNums K) := ⟨⟨_, _, PySem.W.mg_of X G a4, k4, B4, O4⟩⟩
  have OMaC := ok_chanMk (P := P) (w := w) (mg := mg) (base := base) F41 NB TC D3 D4
  have MaC : Ma P w K mg base CX0 4 "Channel" CC ["self", "name", "one", "other", "hours", "depth", "first", "growth", "most"] (spChanMk CC) := ⟨⟨_, _, PySem.W.mg_of X G nCC, ⟨mkCC, a41, i41, kcCC⟩, B41, OMaC⟩⟩
  have OMsB := ok_settle (P := P) (w := w) (mg := mg) (base := base) F44 TBv
  have MsB : Me P w K mg base CX0 1 CB "settle" ["self", "name", "port", "hour", "strength", "draught"] (spSettle CB) := ⟨⟨_, _, ⟨asB, i44, k44⟩, B44, OMsB⟩⟩
  have OMsS := ok_settle (P := P) (w := w) (mg := mg) (base := base) F44 TSv
  have MsS : Me P w K mg base CX0 1 CS "settle" ["self", "name", "port", "hour", "strength", "draught"] (spSettle CS) := ⟨⟨_, _, ⟨asS, i44, k44⟩, B44, OMsS⟩⟩
  have OCmB := ok_vesMk (P := P) (w := w) (mg := mg) (base := base) F43 NB TBv D3 D4 MsB
  have CmB : Cm P w K mg base CX0 4 "Vessel" CV "__init__" ["self", "name", "port", "hour", "strength", "draught"] (spVesMk CB) := ⟨⟨_, _, ⟨PySem.W.mg_of X G nCV, spV, rdV, fiV, k43⟩, B43, OCmB⟩⟩
  have OCmS := ok_vesMk (P := P) (w := w) (mg := mg) (base := base) F43 NB TSv D3 D4 MsS
  have CmS : Cm P w K mg base CX0 4 "Vessel" CV "__init__" ["self", "name", "port", "hour", "strength", "draught"] (spVesMk CS) := ⟨⟨_, _, ⟨PySem.W.mg_of X G nCV, spV, rdV, fiV, k43⟩, B43, OCmS⟩⟩
  have OMaB := ok_brkMk (P := P) (w := w) (mg := mg) (base := base) F46 NB TB D4 CmB
  have MaB : Ma P w K mg base CX0 5 "Breaker" CB ["self", "name", "port", "hour", "strength", "draught", "cut"] (spBrkMk CB) := ⟨⟨_, _, PySem.W.mg_of X G nCB, ⟨mkCB, a46, i46, kcCB⟩, B46, OMaB⟩⟩
  have OMaS := ok_shpMk (P := P) (w := w) (mg := mg) (base := base) F48 TS D3 CmS
  have MaS : Ma P w K mg base CX0 5 "Ship" CS ["self", "name", "port", "goal", "hour", "strength", "draught"] (spShpMk CS) := ⟨⟨_, _, PySem.W.mg_of X G nCS, ⟨mkCS, a48, i48, kcCS⟩, B48, OMaS⟩⟩
  have OMrC := ok_chanRow (P := P) (w := w) (mg := mg) (base := base) F42 TC
  have MrC : Me P w K mg base CX0 1 CC "row" ["self"] (spRow CC chanK Chan.vals Chan.vals) := ⟨⟨_, _, ⟨a42, i42, k42⟩, B42, OMrC⟩⟩
  have OCmR := ok_vesRow (P := P) (w := w) (mg := mg) (base := base) F45 TB
  have CmR : Cm P w K mg base CX0 1 "Vessel" CV "row" ["self"] (spRow CB brkK Brk.vals (fun b => b.toVes.vals)) := ⟨⟨_, _, ⟨PySem.W.mg_of X G nCV, spV, rdV, frV, k45⟩, B45, OCmR⟩⟩
  have OMrB := ok_brkRow (P := P) (w := w) (mg := mg) (base := base) F47 TB CmR
  have MrB : Me P w K mg base CX0 2 CB "row" ["self"] (spRow CB brkK Brk.vals Brk.vals) := ⟨⟨_, _, ⟨a47, i47, k47⟩, B47, OMrB⟩⟩
  have OMrS := ok_shpRow (P := P) (w := w) (mg := mg) (base := base) F49 TS
  have MrS : Me P w K mg base CX0 1 CS "row" ["self"] (spRow CS shpK Shp.vals Shp.row) := ⟨⟨_, _, ⟨a49, i49, k49⟩, B49, OMrS⟩⟩
  have O5 := ok_isList (P := P) (w := w) (mg := mg) (base := base) F5 B
  have D5 : Dn P w K mg base CX0 1 "is_list" ["thing", "low", "high"] (spIsList K) := ⟨⟨_, _, PySem.W.mg_of X G a5, k5, B5, O5⟩⟩
  have O6 := ok_needKinds (P := P) (w := w) (mg := mg) (base := base) F6 B MB KS D5 D2
  have D6 : Dn P w K mg base CX0 2 "need_kinds" ["ports", "channels", "breakers", "ships"] (spNeedKinds K CC CB CS) := ⟨⟨_, _, PySem.W.mg_of X G a6, k6, B6, O6⟩⟩
  have O7 := ok_unlike (P := P) (w := w) (mg := mg) (base := base) F7
  have D7 : Dn P w K mg base CX0 1 "need_unlike" ["names"] (spUnlike K) := ⟨⟨_, _, PySem.W.mg_of X G a7, k7, B7, O7⟩⟩
  have O8 := ok_needPorts (P := P) (w := w) (mg := mg) (base := base) F8
  have D8 : Dn P w K mg base CX0 1 "need_ports" ["names", "ports"] (spNeedPorts K) := ⟨⟨_, _, PySem.W.mg_of X G a8, k8, B8, O8⟩⟩
  have OMaW := ok_wldMk (P := P) (w := w) (mg := mg) (base := base) (k := ⟨CC, CB, CS, CW⟩) F50 B MB TW TC TB TS D1 D6 D7 D8
  have MaW : Ma P w K mg base CX0 3 "World" CW ["self", "begin", "ports", "channels", "breakers", "ships"] (spWldMk K (⟨CC, CB, CS, CW⟩ : KA)) := ⟨⟨_, _, PySem.W.mg_of X G nCW, ⟨mkCW, a50, i50, kcCW⟩, B50, OMaW⟩⟩
  have OMbH := ok_beginHour (P := P) (w := w) (mg := mg) (base := base) (k := ⟨CC, CB, CS, CW⟩) F51 TW
  have MbH : Me P w K mg base CX0 1 CW "begin_hour" ["self"] (spBegin (⟨CC, CB, CS, CW⟩ : KA)) := ⟨⟨_, _, ⟨a51, i51, k51⟩, B51, OMbH⟩⟩
  have OMvW := ok_vessels (P := P) (w := w) (mg := mg) (base := base) (k := ⟨CC, CB, CS, CW⟩) F52 TW
  have MvW : Me P w K mg base CX0 1 CW "vessels" ["self"] (spVessels (⟨CC, CB, CS, CW⟩ : KA)) := ⟨⟨_, _, ⟨a52, i52, k52⟩, B52, OMvW⟩⟩
  have OMcW := ok_channels (P := P) (w := w) (mg := mg) (base := base) (k := ⟨CC, CB, CS, CW⟩) F53 B TW
  have McW : Me P w K mg base CX0 1 CW "channels" ["self"] (spChannels (⟨CC, CB, CS, CW⟩ : KA)) := ⟨⟨_, _, ⟨a53, i53, k53⟩, B53, OMcW⟩⟩
  have OMtW := ok_told (P := P) (w := w) (mg := mg) (base := base) (k := ⟨CC, CB, CS, CW⟩) F54 B TW TC TB TS MrC MrB MrS
  have MtW : Me P w K mg base CX0 3 CW "told" ["self"] (spTold (⟨CC, CB, CS, CW⟩ : KA)) := ⟨⟨_, _, ⟨a54, i54, k54⟩, B54, OMtW⟩⟩
  have O13 := ok_channel_anew (P := P) (w := w) (mg := mg) (base := base) F13 MaC
  have D13 : Dn P w K mg base CX0 6 "channel_anew" ["row"] (spAnew CC chanK Chan.Good Chan.vals Chan.vals) := ⟨⟨_, _, PySem.W.mg_of X G a13, k13, B13, O13⟩⟩
  have O14 := ok_breaker_anew (P := P) (w := w) (mg := mg) (base := base) F14 MaB
  have D14 : Dn P w K mg base CX0 7 "breaker_anew" ["row"] (spAnew CB brkK Brk.Good Brk.vals Brk.vals) := ⟨⟨_, _, PySem.W.mg_of X G a14, k14, B14, O14⟩⟩
  have O15 := ok_ship_anew (P := P) (w := w) (mg := mg) (base := base) F15 MaS
  have D15 : Dn P w K mg base CX0 7 "ship_anew" ["row"] (spAnew CS shpK Shp.Good Shp.vals Shp.row) := ⟨⟨_, _, PySem.W.mg_of X G a15, k15, B15, O15⟩⟩
  have O16 := ok_wldAnew (P := P) (w := w) (mg := mg) (base := base) (k := ⟨CC, CB, CS, CW⟩) F16 D13 D14 D15 MaW
  have D16 : Dn P w K mg base CX0 8 "world_anew" ["told"] (spWldAnew K (⟨CC, CB, CS, CW⟩ : KA)) := ⟨⟨_, _, PySem.W.mg_of X G a16, k16, B16, O16⟩⟩
  have O9 := ok_isEntry (P := P) (w := w) (mg := mg) (base := base) F9 B ⟨_, PySem.W.mg_of X G g_LAST_HOUR, ⟨_, rfl⟩⟩ D1
  have D9 : Dn P w K mg base CX0 3 "is_entry" ["begin", "channels", "thing"] (spIsEntry K) := ⟨⟨_, _, PySem.W.mg_of X G a9, k9, B9, O9⟩⟩
  have O10 := ok_areEntries (P := P) (w := w) (mg := mg) (base := base) F10 B D9
  have D10 : Dn P w K mg base CX0 4 "are_entries" ["begin", "channels", "thing"] (spAreEntries K) := ⟨⟨_, _, PySem.W.mg_of X G a10, k10, B10, O10⟩⟩
  have O11 := ok_isTable (P := P) (w := w) (mg := mg) (base := base) (k := ⟨CC, CB, CS, CW⟩) F11 B TW TC TB TS MvW McW MbH D10
  have D11 : Dn P w K mg base CX0 5 "is_table" ["world", "thing"] (spIsTable K (⟨CC, CB, CS, CW⟩ : KA)) := ⟨⟨_, _, PySem.W.mg_of X G a11, k11, B11, O11⟩⟩
  have O12 := ok_tableTold (P := P) (w := w) (mg := mg) (base := base) (k := ⟨CC, CB, CS, CW⟩) F12 B TB TS TW MvW D11
  have D12 : Dn P w K mg base CX0 6 "table_told" ["world", "table"] (spTableTold K (⟨CC, CB, CS, CW⟩ : KA)) := ⟨⟨_, _, PySem.W.mg_of X G a12, k12, B12, O12⟩⟩
  have O17 := ok_namesFor (P := P) (w := w) (mg := mg) (base := base) F17 B (PySem.W.mg_none_of X G b_set) D2
  have D17 : Dn P w K mg base CX0 2 "need_names_for" ["names", "thing"] spNamesFor := ⟨⟨_, _, PySem.W.mg_of X G a17, k17, B17, O17⟩⟩
  have O18 := ok_namesOf (P := P) (w := w) (mg := mg) (base := base) F18
  have D18 : Dn P w K mg base CX0 1 "names_of" ["things"] (spNamesOf K) := ⟨⟨_, _, PySem.W.mg_of X G a18, k18, B18, O18⟩⟩
  have OMpW := ok_ports (P := P) (w := w) (mg := mg) (base := base) (k := ⟨CC, CB, CS, CW⟩) F55 B TW
  have MpW : Me P w K mg base CX0 1 CW "ports" ["self"] (spPorts (⟨CC, CB, CS, CW⟩ : KA)) := ⟨⟨_, _, ⟨a55, i55, k55⟩, B55, OMpW⟩⟩
  have O19 := ok_renamed (P := P) (w := w) (mg := mg) (base := base) (k := ⟨CC, CB, CS, CW⟩) F19 TW TC TB TS MpW McW MvW MtW D17 D18 D16
  have D19 : Dn P w K mg base CX0 9 "renamed" ["world", "ports", "channels", "vessels"] (spRenamed (⟨CC, CB, CS, CW⟩ : KA)) := ⟨⟨_, _, PySem.W.mg_of X G a19, k19, B19, O19⟩⟩
  have O20 := ok_renT (P := P) (w := w) (mg := mg) (base := base) (k := ⟨CC, CB, CS, CW⟩) F20 TW TC TB TS McW MvW D17 D18 D12
  have D20 : Dn P w K mg base CX0 7 "renamed_table" ["world", "table", "channels", "vessels"] (spRenT K (⟨CC, CB, CS, CW⟩ : KA)) := ⟨⟨_, _, PySem.W.mg_of X G a20, k20, B20, O20⟩⟩
  have O21 := ok_cell (P := P) (w := w) (mg := mg) (base := base) F21 B
  have D21 : Dn P w K mg base CX0 1 "_law_cell" ["_law_script", "_law_k"] (spCell K) := ⟨⟨_, _, PySem.W.mg_of X G a21, k21, B21, O21⟩⟩
  have O22 := ok_box (P := P) (w := w) (mg := mg) (base := base) F22 B
  have D22 : Dn P w K mg base CX0 1 "_law_box" ["_law_cell_here"] spBox := ⟨⟨_, _, PySem.W.mg_of X G a22, k22, B22, O22⟩⟩
  have O23 := ok_take (P := P) (w := w) (mg := mg) (base := base) F23
  have D23 : Dn P w K mg base CX0 1 "_law_take" ["_law_box_here", "_law_many"] spTake := ⟨⟨_, _, PySem.W.mg_of X G a23, k23, B23, O23⟩⟩
  have O24 := ok_names (P := P) (w := w) (mg := mg) (base := base) F24 B D23
  have D24 : Dn P w K mg base CX0 2 "_law_names" ["_law_box_here", "_law_many"] spNames := ⟨⟨_, _, PySem.W.mg_of X G a24, k24, B24, O24⟩⟩
  have O25 := ok_number (P := P) (w := w) (mg := mg) (base := base) F25 D23
  have D25 : Dn P w K mg base CX0 2 "_law_number" ["_law_box_here", "_law_low", "_law_high"] spNumber := ⟨⟨_, _, PySem.W.mg_of X G a25, k25, B25, O25⟩⟩
  have O26 := ok_lchan (P := P) (w := w) (mg := mg) (base := base) F26 B D23 D25
  have D26 : Dn P w K mg base CX0 3 "_law_channel" ["_law_box_here", "_law_name", "_law_ports"] spLChan := ⟨⟨_, _, PySem.W.mg_of X G a26, k26, B26, O26⟩⟩
  have O27 := ok_lbrk (P := P) (w := w) (mg := mg) (base := base) F27 B D23 D25
  have D27 : Dn P w K mg base CX0 3 "_law_breaker" ["_law_box_here", "_law_name", "_law_ports"] spLBrk := ⟨⟨_, _, PySem.W.mg_of X G a27, k27, B27, O27⟩⟩
  have O28 := ok_lshp (P := P) (w := w) (mg := mg) (base := base) F28 B D23 D25
  have D28 : Dn P w K mg base CX0 3 "_law_ship" ["_law_box_here", "_law_name", "_law_ports"] spLShp := ⟨⟨_, _, PySem.W.mg_of X G a28, k28, B28, O28⟩⟩
  have O30 := ok_few (P := P) (w := w) (mg := mg) (base := base) F30 D23
  have D30 : Dn P w K mg base CX0 2 "_law_few" ["_law_box_here"] spFew := ⟨⟨_, _, PySem.W.mg_of X G a30, k30, B30, O30⟩⟩
  have O29 := ok_lworld (P := P) (w := w) (mg := mg) (base := base) F29 B D24 D25 D26 D27 D28
  have D29 : Dn P w K mg base CX0 4 "_law_world" ["_law_box_here", "_law_sizes"] spLWorld := ⟨⟨_, _, PySem.W.mg_of X G a29, k29, B29, O29⟩⟩
  have O31 := ok_made (P := P) (w := w) (mg := mg) (base := base) (k := ⟨CC, CB, CS, CW⟩) F31 B MaC MaB MaS MaW
  have D31 : Dn P w K mg base CX0 7 "_law_made" ["_law_world_here"] (spMade (⟨CC, CB, CS, CW⟩ : KA)) := ⟨⟨_, _, PySem.W.mg_of X G a31, k31, B31, O31⟩⟩
  have O32 := ok_ltable (P := P) (w := w) (mg := mg) (base := base) F32 B D23 D25
  have D32 : Dn P w K mg base CX0 3 "_law_table" ["_law_box_here", "_law_world_here"] (spLTable K) := ⟨⟨_, _, PySem.W.mg_of X G a32, k32, B32, O32⟩⟩
  have O33 := ok_anew (P := P) (w := w) (mg := mg) (base := base) F33 B
  have D33 : Dn P w K mg base CX0 1 "_law_anew" ["_law_world_here", "_law_table_here"] (spAnewT K) := ⟨⟨_, _, PySem.W.mg_of X G a33, k33, B33, O33⟩⟩
  have O34 := ok_lawCopy (P := P) (w := w) (mg := mg) (base := base) F34 B
  have D34 : Dn P w K mg base CX0 1 "_law_copy" ["_law_table_here"] (spLawCopy K) := ⟨⟨_, _, PySem.W.mg_of X G a34, k34, B34, O34⟩⟩
  have O35 := ok_lawDict (P := P) (w := w) (mg := mg) (base := base) F35 B (PySem.W.mg_none_of X G b_zip) D23 D24
  have D35 : Dn P w K mg base CX0 3 "_law_dict" ["_law_box_here", "_law_names_here"] spLawDict := ⟨⟨_, _, PySem.W.mg_of X G a35, k35, B35, O35⟩⟩
  have O36 := ok_due (P := P) (w := w) (mg := mg) (base := base) F36 B
  have D36 : Dn P w K mg base CX0 1 "_law_due" ["_law_world_here", "_law_ports", "_law_channels", "_law_vessels"] spDue := ⟨⟨_, _, PySem.W.mg_of X G a36, k36, B36, O36⟩⟩
  have O37 := ok_dueT (P := P) (w := w) (mg := mg) (base := base) F37 B D33
  have D37 : Dn P w K mg base CX0 2 "_law_due_table" ["_law_world_here", "_law_table_here", "_law_channels", "_law_vessels"] (spDueT K) := ⟨⟨_, _, PySem.W.mg_of X G a37, k37, B37, O37⟩⟩
  have O38 := ok_lawBack (P := P) (w := w) (mg := mg) (base := base) F38 B
  have D38 : Dn P w K mg base CX0 1 "_law_back" ["_law_names_here"] spLawBack := ⟨⟨_, _, PySem.W.mg_of X G a38, k38, B38, O38⟩⟩
  have O39 := ok_right4 (P := P) (w := w) (mg := mg) (base := base) (k := ⟨CC, CB, CS, CW⟩) F39 B TW MtW D19 D20 D36 D37 D34 D38 D33
  have D39 : DnG P w K mg base CX0 10 "_law_right" ["_law_scene"] (spRight4 K (⟨CC, CB, CS, CW⟩ : KA)) := ⟨⟨_, _, PySem.W.mg_of X G a39, k39, B39, O39⟩⟩
  exact ok_law (P := P) (w := w) (mg := mg) (base := base) (k := ⟨CC, CB, CS, CW⟩) F40 B D21 D22 D30 D29 D31 D32 D35 D39
end Law
open PySem PySem.W PyProof.Rows
set_option maxRecDepth 100000 in
set_option maxHeartbeats 0 in
theorem PySem.Challenge.cw_iceopened_k74_renamed_holds : PySem.Challenge.rw_iceopened_k74_renamed.Holds := by
  refine head ?_
  k_fill
  refine IK.walkG (l := PySem.Challenge.rw_iceopened_k74_renamed) (n := 63) (k := 11) (CX := fun _ => L2.CX0) (sp := fun w => Law.spLaw (head.heap_39 w.params)) (x := "_law_script") rfl (by decide) rfl ⟨rfl, by decide, by decide⟩ (fun w h Y => PySem.W.kIn_of Y) ?F ?S (fun _ _ _ _ _ z => z)
  case F =>
    intro w mg fa h KX G hmg
    refine' Law.all_mk KX G hmg ?a0 ?l0 ?c0 ?k0 ?a1 ?l1 ?c1 ?k1 ?a2 ?l2 ?c2 ?k2 ?a3 ?l3 ?c3 ?k3 ?a4 ?l4 ?c4 ?k4 ?a5 ?l5 ?c5 ?k5 ?a6 ?l6 ?c6 ?k6 ?a7 ?l7 ?c7 ?k7 ?a8 ?l8 ?c8 ?k8 ?a9 ?l9 ?c9 ?k9 ?a10 ?l10 ?c10 ?k10 ?a11 ?l11 ?c11 ?k11 ?a12 ?l12 ?c12 ?k12 ?a13 ?l13 ?c13 ?k13 ?a14 ?l14 ?c14 ?k14 ?a15 ?l15 ?c15 ?k15 ?a16 ?l16 ?c16 ?k16 ?a17 ?l17 ?c17 ?k17 ?a18 ?l18 ?c18 ?k18 ?a19 ?l19 ?c19 ?k19 ?a20 ?l20 ?c20 ?k20 ?a21 ?l21 ?c21 ?k21 ?a22 ?l22 ?c22 ?k22 ?a23 ?l23 ?c23 ?k23 ?a24 ?l24 ?c24 ?k24 ?a25 ?l25 ?c25 ?k25 ?a26 ?l26 ?c26 ?k26 ?a27 ?l27 ?c27 ?k27 ?a28 ?l28 ?c28 ?k28 ?a29 ?l29 ?c29 ?k29 ?a30 ?l30 ?c30 ?k30 ?a31 ?l31 ?c31 ?k31 ?a32 ?l32 ?c32 ?k32 ?a33 ?l33 ?c33 ?k33 ?a34 ?l34 ?c34 ?k34 ?a35 ?l35 ?c35 ?k35 ?a36 ?l36 ?c36 ?k36 ?a37 ?l37 ?c37 ?k37 ?a38 ?l38 ?c38 ?k38 ?a39 ?l39 ?c39 ?k39 ?a40 ?l40 ?c40 ?k40 ?nCC ?nCV ?nCB ?nCS ?nCW ?a41 ?i41 ?l41 ?c41 ?k41 ?a42 ?i42 ?l42 ?c42 ?k42 ?a43 ?i43 ?l43 ?c43 ?k43 ?a44 ?i44 ?l44 ?c44 ?k44 ?a45 ?i45 ?l45 ?c45 ?k45 ?a46 ?i46 ?l46 ?c46 ?k46 ?a47 ?i47 ?l47 ?c47 ?k47 ?a48 ?i48 ?l48 ?c48 ?k48 ?a49 ?i49 ?l49 ?c49 ?k49 ?a50 ?i50 ?l50 ?c50 ?k50 ?a51 ?i51 ?l51 ?c51 ?k51 ?a52 ?i52 ?l52 ?c52 ?k52 ?a53 ?i53 ?l53 ?c53 ?k53 ?a54 ?i54 ?l54 ?c54 ?k54 ?a55 ?i55 ?l55 ?c55 ?k55 ?asB ?asS ?spV ?rdV ?fiV ?frV ?pgCC ?hdCC ?poCC ?saCC ?mkCC ?kcCC ?noCC_name ?noCC_one ?noCC_other ?noCC_hours ?noCC_depth ?noCC_first ?noCC_growth ?noCC_most ?pgCB ?hdCB ?poCB ?saCB ?mkCB ?kcCB ?noCB_name ?noCB_port ?noCB_hour ?noCB_strength ?noCB_draught ?noCB_cut ?pgCS ?hdCS ?poCS ?saCS ?mkCS ?kcCS ?noCS_name ?noCS_port ?noCS_hour ?noCS_strength ?noCS_draught ?noCS_goal ?pgCW ?hdCW ?poCW ?saCW ?mkCW ?kcCW ?noCW_beginning ?noCW_all_ports ?noCW_all_channels ?noCW_all_breakers ?noCW_all_ships ?clCC ?moCC ?clCB ?moCB ?clCS ?moCS ?cg ?ct ?gL ?g_MOST_HOUR ?g_MOST_ICE ?g_MOST_DEPTH ?g_MOST_LENGTH ?g_MOST_GROWTH ?g_MOST_BEGIN ?g_MOST_PORTS ?g_MOST_CHANNELS ?g_MOST_BREAKERS ?g_MOST_SHIPS ?g_LAST_HOUR ?g_LONGEST_NAME ?b_isinstance ?b_int ?b_bool ?b_str ?b_list ?b_tuple ?b_dict ?b_len ?b_all ?b_max ?b_min ?b_range ?b_repr ?b_set ?b_zip
    case a0 => k_is
    case l0 => k_is
    case c0 => k_is
    case k0 => k_is
    case a1 => k_is
    case l1 => k_is
    case c1 => k_is
    case k1 => k_is
    case a2 => k_is
    case l2 => k_is
    case c2 => k_is
    case k2 => k_is
    case a3 => k_is
    case l3 => k_is
    case c3 => k_is
    case k3 => k_is
    case a4 => k_is
    case l4 => k_is
    case c4 => k_is
    case k4 => k_is
    case a5 => k_is
    case l5 => k_is
    case c5 => k_is
    case k5 => k_is
    case a6 => k_is
    case l6 => k_is
    case c6 => k_is
    case k6 => k_is
    case a7 => k_is
    case l7 => k_is
    case c7 => k_is
    case k7 => k_is
    case a8 => k_is
    case l8 => k_is
    case c8 => k_is
    case k8 => k_is
    case a9 => k_is
    case l9 => k_is
    case c9 => k_is
    case k9 => k_is
    case a10 => k_is
    case l10 => k_is
    case c10 => k_is
    case k10 => k_is
    case a11 => k_is
    case l11 => k_is
    case c11 => k_is
    case k11 => k_is
    case a12 => k_is
    case l12 => k_is
    case c12 => k_is
    case k12 => k_is
    case a13 => k_is
    case l13 => k_is
    case c13 => k_is
    case k13 => k_is
    case a14 => k_is
    case l14 => k_is
    case c14 => k_is
    case k14 => k_is
    case a15 => k_is
    case l15 => k_is
    case c15 => k_is
    case k15 => k_is
    case a16 => k_is
    case l16 => k_is
    case c16 => k_is
    case k16 => k_is
    case a17 => k_is
    case l17 => k_is
    case c17 => k_is
    case k17 => k_is
    case a18 => k_is
    case l18 => k_is
    case c18 => k_is
    case k18 => k_is
    case a19 => k_is
    case l19 => k_is
    case c19 => k_is
    case k19 => k_is
    case a20 => k_is
    case l20 => k_is
    case c20 => k_is
    case k20 => k_is
    case a21 => k_is
    case l21 => k_is
    case c21 => k_is
    case k21 => k_is
    case a22 => k_is
    case l22 => k_is
    case c22 => k_is
    case k22 => k_is
    case a23 => k_is
    case l23 => k_is
    case c23 => k_is
    case k23 => k_is
    case a24 => k_is
    case l24 => k_is
    case c24 => k_is
    case k24 => k_is
    case a25 => k_is
    case l25 => k_is
    case c25 => k_is
    case k25 => k_is
    case a26 => k_is
    case l26 => k_is
    case c26 => k_is
    case k26 => k_is
    case a27 => k_is
    case l27 => k_is
    case c27 => k_is
    case k27 => k_is
    case a28 => k_is
    case l28 => k_is
    case c28 => k_is
    case k28 => k_is
    case a29 => k_is
    case l29 => k_is
    case c29 => k_is
    case k29 => k_is
    case a30 => k_is
    case l30 => k_is
    case c30 => k_is
    case k30 => k_is
    case a31 => k_is
    case l31 => k_is
    case c31 => k_is
    case k31 => k_is
    case a32 => k_is
    case l32 => k_is
    case c32 => k_is
    case k32 => k_is
    case a33 => k_is
    case l33 => k_is
    case c33 => k_is
    case k33 => k_is
    case a34 => k_is
    case l34 => k_is
    case c34 => k_is
    case k34 => k_is
    case a35 => k_is
    case l35 => k_is
    case c35 => k_is
    case k35 => k_is
    case a36 => k_is
    case l36 => k_is
    case c36 => k_is
    case k36 => k_is
    case a37 => k_is
    case l37 => k_is
    case c37 => k_is
    case k37 => k_is
    case a38 => k_is
    case l38 => k_is
    case c38 => k_is
    case k38 => k_is
    case a39 => k_is
    case l39 => k_is
    case c39 => k_is
    case k39 => k_is
    case a40 => k_is
    case l40 => k_is
    case c40 => k_is
    case k40 => k_is
    case nCC => k_is
    case nCV => k_is
    case nCB => k_is
    case nCS => k_is
    case nCW => k_is
    case a41 => k_is
    case i41 => k_is
    case l41 => k_is
    case c41 => k_is
    case k41 => k_is
    case a42 => k_is
    case i42 => k_is
    case l42 => k_is
    case c42 => k_is
    case k42 => k_is
    case a43 => k_is
    case i43 => k_is
    case l43 => k_is
    case c43 => k_is
    case k43 => k_is
    case a44 => k_is
    case i44 => k_is
    case l44 => k_is
    case c44 => k_is
    case k44 => k_is
    case a45 => k_is
    case i45 => k_is
    case l45 => k_is
    case c45 => k_is
    case k45 => k_is
    case a46 => k_is
    case i46 => k_is
    case l46 => k_is
    case c46 => k_is
    case k46 => k_is
    case a47 => k_is
    case i47 => k_is
    case l47 => k_is
    case c47 => k_is
    case k47 => k_is
    case a48 => k_is
    case i48 => k_is
    case l48 => k_is
    case c48 => k_is
    case k48 => k_is
    case a49 => k_is
    case i49 => k_is
    case l49 => k_is
    case c49 => k_is
    case k49 => k_is
    case a50 => k_is
    case i50 => k_is
    case l50 => k_is
    case c50 => k_is
    case k50 => k_is
    case a51 => k_is
    case i51 => k_is
    case l51 => k_is
    case c51 => k_is
    case k51 => k_is
    case a52 => k_is
    case i52 => k_is
    case l52 => k_is
    case c52 => k_is
    case k52 => k_is
    case a53 => k_is
    case i53 => k_is
    case l53 => k_is
    case c53 => k_is
    case k53 => k_is
    case a54 => k_is
    case i54 => k_is
    case l54 => k_is
    case c54 => k_is
    case k54 => k_is
    case a55 => k_is
    case i55 => k_is
    case l55 => k_is
    case c55 => k_is
    case k55 => k_is
    case asB => k_is
    case asS => k_is
    case spV => k_is
    case rdV => k_is
    case fiV => k_is
    case frV => k_is
    case pgCC => k_is
    case hdCC => k_is
    case poCC => k_is
    case saCC => k_is
    case mkCC => k_is
    case kcCC => k_is
    case noCC_name => k_is
    case noCC_one => k_is
    case noCC_other => k_is
    case noCC_hours => k_is
    case noCC_depth => k_is
    case noCC_first => k_is
    case noCC_growth => k_is
    case noCC_most => k_is
    case pgCB => k_is
    case hdCB => k_is
    case poCB => k_is
    case saCB => k_is
    case mkCB => k_is
    case kcCB => k_is
    case noCB_name => k_is
    case noCB_port => k_is
    case noCB_hour => k_is
    case noCB_strength => k_is
    case noCB_draught => k_is
    case noCB_cut => k_is
    case pgCS => k_is
    case hdCS => k_is
    case poCS => k_is
    case saCS => k_is
    case mkCS => k_is
    case kcCS => k_is
    case noCS_name => k_is
    case noCS_port => k_is
    case noCS_hour => k_is
    case noCS_strength => k_is
    case noCS_draught => k_is
    case noCS_goal => k_is
    case pgCW => k_is
    case hdCW => k_is
    case poCW => k_is
    case saCW => k_is
    case mkCW => k_is
    case kcCW => k_is
    case noCW_beginning => k_is
    case noCW_all_ports => k_is
    case noCW_all_channels => k_is
    case noCW_all_breakers => k_is
    case noCW_all_ships => k_is
    case clCC => k_is
    case moCC => k_is
    case clCB => k_is
    case moCB => k_is
    case clCS => k_is
    case moCS => k_is
    case cg => k_is
    case ct => k_is
    case gL => k_is
    case g_MOST_HOUR => k_is
    case g_MOST_ICE => k_is
    case g_MOST_DEPTH => k_is
    case g_MOST_LENGTH => k_is
    case g_MOST_GROWTH => k_is
    case g_MOST_BEGIN => k_is
    case g_MOST_PORTS => k_is
    case g_MOST_CHANNELS => k_is
    case g_MOST_BREAKERS => k_is
    case g_MOST_SHIPS => k_is
    case g_LAST_HOUR => k_is
    case g_LONGEST_NAME => k_is
    case b_isinstance => k_is
    case b_int => k_is
    case b_bool => k_is
    case b_str => k_is
    case b_list => k_is
    case b_tuple => k_is
    case b_dict => k_is
    case b_len => k_is
    case b_all => k_is
    case b_max => k_is
    case b_min => k_is
    case b_range => k_is
    case b_repr => k_is
    case b_set => k_is
    case b_zip => k_is
  case S =>
    intro w H a ns hl hO hS
    refine ⟨a, ns, rfl, hS, fun l h => ?_, hl, fun _ => rfl⟩
    rcases hO a with z | ⟨o, xs, z⟩
    · rw [z] at h
      cases h
    · rw [z] at h
      cases h
end
