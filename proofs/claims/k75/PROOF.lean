import PyProof.Rows.All
import Wide.All
import OpenK.AllK
import Wide.FinOn
import PyProof.ToksMono
import PyProof.ReprRoads
import KE.KDictCopyH
import HandS.ForMost
import HandS.ForExc
import HandS.Walk
import HandS.IsInst
import HandS.ExcInit
import HandS.ExcField
import HandS.ExcIs
import HandS.TryMany
import HandS.Wide
import HandS.ReplaceLit
import HandS.ReplaceList
import HandS.Codes
import HandS.More
import KE.GoesMore
import KE.GoesEnum
import PySem.Challenge.RW_iceopened_k75_later
import HandS.Style
import HandS.ListItems
import HandS.TupAny
section
set_option Elab.async false
set_option linter.all false
set_option maxRecDepth 100000
set_option maxHeartbeats 2000000
/-! Own rules, ahead of the law: repr of data, defs that call it, X.__init__(self, text) of an own error class. -/
namespace IK
open PySem PySem.Spec PyProof.Rows L2

/-! ### defs that call repr: promised where no repr runs around them -/
section
variable (P : Program) (w : World) (K : PySem.W.Frag) (mg : Str → Option Value) (base : Heap) (CX : CXT)
/-- the promise sp, at one place A -/
def At (A : Around) (f : Addr) (fd : FuncData) (ps : List Str) (sp : Sp) : Prop :=
  ∀ (outer : List Env) (s : Shared) (H : Hp) (args : Args) (us : List Value) (vs : List V) (Q : VK) (E : XK), Env0 P w K mg base A outer s H →
    BindsTo s fd args (ps.zip us) → Vals vs us → sp vs H Q E → codeAny (model P w) A (.call (.ref f) args) (CR CX outer P w H s Q E) s
structure FnG (k : Nat) (f : Addr) (fd : FuncData) (ps : List Str) (sp : Sp) : Prop where
  len : ∀ vs H Q E, sp vs H Q E → vs.length = ps.length
  run : ∀ A : Around, Room k A → A.guards = some [] → At P w K mg base CX A f fd ps sp
end

section
variable {X : Cx} {CX : CXT} {k : Nat} {f : Addr} {fd : FuncData} {ps : List Str} {sp : Sp} {E : XK}
theorem FnG.go {pins : List (Addr × Obj)} {σ : L2.St} {H : Hp} {s : Shared} {Q : VK} {us : List Value} {vs : List V} (F : FnG X.prog X.w X.K X.mg X.base CX k f fd ps sp) (hr : Room k X.A)
    (gd : X.A.guards = some []) (hb : Binds X.K fd ps []) (hx : Passes CX X E) (I : Inv X pins σ H s) (r : Vals vs us) (h : sp vs H Q E) :
    wpAny (model X.prog X.w) X.A (call (.ref f) us) (EP X pins σ Q) X.xe s := by
  have hl : us.length = ps.length := (Paired.length r).symm.trans (F.len _ _ _ _ h)
  have bd := hb s us I.kIn (by simpa using hl)
  rw [List.append_nil] at bd
  refine wpAny_call (codeAny_mono (F.run X.A hr gd X.stack s H ⟨us, []⟩ us vs Q E I.env0 bd r h) ?_)
  intro r' s' hq
  match r', hq with
  | .error e, hq => exact hx pins σ H s e s' I hq
  | .ok (.ret u), hq => exact I.after hq
/-- f(e, ..) of such a def -/
theorem pe_callG {x : Str} {p pos : Pos} {e : Expr} {es : List Expr} {t : TA} (F : FnG X.prog X.w X.K X.mg X.base CX k f fd ps sp) (hr : Room k X.A) (gd : X.A.guards = some []) (hg : Gl X x) (hm : X.mg x = some (.ref f))
    (hk : PySem.W.keepIn X.K (.ref f) = true) (hb : Binds X.K fd ps []) (hx : Passes CX X E) (ha : PA X (e :: es) t) (hdb : (x == ("__debug__" : Str)) = false := by decide)
    (he : starEach (e :: es) X.env = (false, eval e X.env) :: starEach es X.env := by rfl) (hpl : (backTo pos (starEach es X.env)).any (·.1) = false := by rfl) :
    PE X (.Call (.Name x p) (e :: es) [] pos) (fun σ H Q => t σ H fun vs H1 => sp vs H1 Q E) where
  run := fun pins s σ H Q I h => by
    apply wpAny_Call_Name_kw
    apply ld_glob I hg hm _ hdb
    refine PySem.W.callWith_K (h₀ := X.base) I.ok.mod.kin hk (wpAny_mono (ha.run pos pins s σ H _ I h) ?_ fun _ _ z => z) he hpl
    rintro us s1 ⟨vs, H1, I1, r, q⟩
    exact ⟨I1.kIn, F.go hr gd hb hx I1 r q⟩
end
/-- such a def by its body -/
theorem funG {CX : CXT} {P : Program} {w : World} {K : PySem.W.Frag} {mg : Str → Option Value} {base : Heap} {k : Nat} {f : Addr} {x qual : Str} {st : Stmt} {fd : FuncData} {N ps : List Str} {sp : Sp}
    (F : Fun K x qual st f fd) (S : FnScope N ps (defScope st)) (len : ∀ vs H Q E, sp vs H Q E → vs.length = ps.length)
    (hbody : ∀ (cdv : Value) (A : Around) (outer : List Env) (s : Shared) (H : Hp) (vs : List V) (Q : VK) (E : XK), Room k (A.deeper (envOfC qual (defScope st) s.heap.objs.size f cdv)) → A.guards = some [] → sp vs H Q E →
      ∃ t, PSs (cxOf CX P w K mg base N qual (defScope st) f cdv A outer s H E) (defBody st) t ∧ t { nx := fun _ H' => Q .non H', rt := Q } (start N vs) H) : FnG P w K mg base CX (k + 1) f fd ps sp := by
  obtain ⟨oc, od, kV, doc, pm, an, cdv, ct, osl, e, lk, hcd⟩ := F.ex
  subst e
  refine ⟨len, ?_⟩
  intro A hr gd outer s H args us vs Q E e0 hb r hsp
  have old : ∀ b o, base.get? b = some o → s.heap.get? b = some o := fun b o q => (e0.bs b o q).1
  have KX := e0.mod.kin.keeps old
  refine codeAny_call_function hr.depth (KX _ _ lk) rfl S.co S.gen rfl (PySem.W.codeRec_of KX hcd) (hb _ _ _ _ (wpAny_newFunctionEnv_cells S.kind ?_ ?_))
  · rintro ⟨n, v⟩ hy
    cases S.par n (List.of_mem_zip hy).1 with
    | inl q => exact Or.inl q
    | inr q => exact Or.inr ⟨q, PySem.W.cellsFrom_some _ _ _ (.inl q)⟩
  · intro env he s1 y
    subst he
    refine ⟨(e0.mod.nolimit.keeps old).keeps y.toInCall.keep, codeAny_func ?_⟩
    obtain ⟨t, ht, hq⟩ := hbody cdv A outer s H vs Q E (hr.deeper _) gd hsp
    have I := inv_start (CX := CX) (E := E) S hr.hd e0 (len _ _ _ _ hsp) r y
    apply wpAny_mono (ht.run [] s1 (start N vs) H _ I hq) _ fun _ _ z => z
    intro fl s' hs
    match fl, hs with
    | .ret u, ⟨v, σ', H', J, rv, q⟩ => exact ⟨v, H', J.os, J.bare, J.base, J.hok, rv, q⟩
    | .next, ⟨σ', H', J, q⟩ => exact ⟨V.non, H', J.os, J.bare, J.base, J.hok, rfl, q⟩
    | .brk, ⟨_, _, _, q⟩ => exact False.elim q
    | .cont, ⟨_, _, _, q⟩ => exact False.elim q
end IK
end
section
set_option Elab.async false
set_option linter.all false
set_option maxRecDepth 100000
set_option maxHeartbeats 2000000
namespace IK
open PySem PySem.Spec PyProof.Rows L2

/-! ### the law's own call: its def promised by FnG -/
section
variable {P : Program} {w : World} {K : PySem.W.Frag} {mg mb : Str → Option Value} {CX : CXT} {k : Nat} {fa a : Addr} {fd : FuncData} {x : Str} {sp : Sp} {s₁ : Shared} {vs : List Value} {ns : List Int}
/-- from an abstract heap that tracks at most the script -/
theorem law_core (H : Hp) (KX : K.In s₁.heap) (hns : s₁.heap.Ns mainGlobals mg) (hb : s₁.heap.Ns builtinsNs mb) (hbb : ∀ x : Str, x ≠ "__name__" → mb x = bootBuiltins x) (hlim : s₁.heap.NoLimit) (hg : s₁.gens = #[])
    (hr : Room k callerA) (F : ∀ base : Heap, K.In base → base.Ns mainGlobals mg → FnG P w K mg base CX k fa fd [x] sp) (hbind : ∀ (s : Shared) (u : Value), BindsTo s fd ⟨[u], []⟩ [(x, u)])
    (hsp : sp [.ref a] H (fun v _ => v = .bl true) fun _ _ _ => False) (hCX : ∀ e s', CX [] H s₁ (fun _ _ _ => False) e s' → False) (hO : Only H) (hok : HOk P w H s₁.heap)
    (hd : ∀ b o es ep, s₁.heap.get? b = some o → o.data = .dict es ep → H b = none) (hK : ∀ b o, K.lookup b = some o → H b = none) :
    codeAny (model P w) callerA (.call (.ref fa) ⟨[.ref a], []⟩) (fun r s' => r = .ok (.ret (.bool true)) ∧ OldK s₁.heap s'.heap ∧ s'.os = s₁.os ∧ AllBare s'.gens) s₁ := by
  have ns' : ∀ {b : Addr} {m : Str → Option Value}, s₁.heap.Ns b m → (hidT s₁.heap H).Ns b m := by
    rintro b m ⟨o, es, ep, e, d, r⟩
    exact ⟨o, es, ep, hidT_get e (hd b o es ep e d), d, r⟩
  have kin : K.In (hidT s₁.heap H) := fun b o e => hidT_get (KX b o e) (hK b o e)
  obtain ⟨ml, l1, l2⟩ := hlim
  have M : Mod K mg (hidT s₁.heap H) := { kin := kin, glob := ns' hns, blt := ⟨mb, ns' hb, hbb⟩, nolimit := ⟨ml, ns' l1, l2⟩ }
  have none_in : ∀ b : Addr, b ∉ frs ([] : List Env) := fun b z => List.not_mem_nil z
  have e0 : Env0 P w K mg (hidT s₁.heap H) callerA [] s₁ H := by
    refine ⟨rfl, M, fun b o e => of_hidT e, ?_, trivial, fun b z => (none_in b z).elim, hok, .of_eq hg⟩
    rw [hidT_size]
    exact Nat.le_refl _
  have run := (F _ kin (ns' hns)).run callerA hr rfl [] s₁ H ⟨[.ref a], []⟩ [.ref a] [.ref a] _ _ e0 (hbind s₁ (.ref a)) (.cons rfl .nil) hsp
  apply codeAny_mono run
  intro r s' h
  match r, h with
  | .error e, h => exact (hCX e s' h).elim
  | .ok (.ret u), ⟨v, H', os, bare, un, hok', rv, q⟩ =>
    have q' : v = .bl true := q
    subst q'
    cases rv
    refine ⟨rfl, OldK.of_keep ?_, os, bare⟩
    intro b o e
    rcases hO b with z | ⟨ob, xs, z⟩
    · exact un.keep b o e z (none_in b) List.not_mem_nil
    · have h1 := (hok b _ z).1
      have h2 := (hok' b _ (un.frzs b ob _ z)).1
      rw [e] at h1
      rw [h2, ← h1]
theorem law_callG (KX : K.In s₁.heap) (hns : s₁.heap.Ns mainGlobals mg) (hb : s₁.heap.Ns builtinsNs mb) (hbb : ∀ x : Str, x ≠ "__name__" → mb x = bootBuiltins x) (hlim : s₁.heap.NoLimit) (hg : s₁.gens = #[])
    (ha : s₁.heap.get? a = some { cls := .type "list", data := .seq vs.toArray }) (hi : IntsAre vs ns) (hl : ns.length ≤ sizeLine)
    (hr : Room k callerA) (F : ∀ base : Heap, K.In base → base.Ns mainGlobals mg → FnG P w K mg base CX k fa fd [x] sp) (hbind : ∀ (s : Shared) (u : Value), BindsTo s fd ⟨[u], []⟩ [(x, u)])
    (hsp : ∀ H : Hp, Only H → SqL K H a (ns.map V.int) → sp [.ref a] H (fun v _ => v = .bl true) fun _ _ _ => False) (hCX : ∀ H e s', CX [] H s₁ (fun _ _ _ => False) e s' → False) :
    codeAny (model P w) callerA (.call (.ref fa) ⟨[.ref a], []⟩) (fun r s' => r = .ok (.ret (.bool true)) ∧ OldK s₁.heap s'.heap ∧ s'.os = s₁.os ∧ AllBare s'.gens) s₁ := by
  have rv := vals_ints hi
  have hlen : (ns.map V.int).length ≤ sizeLine := by simpa using hl
  cases hk : K.lookup a with
  | some o =>
    have e : o = { cls := .type "list", data := .seq vs.toArray } := by
      have z := KX a o hk
      rw [ha] at z
      exact (Option.some.inj z).symm
    subst e
    have hq : SqL K (fun _ => none) a (ns.map V.int) := .inr ⟨_, vs.toArray, _, hk, rfl, rfl, rfl, (by rw [List.size_toArray, hi.length]; exact hl), (by simpa using rv)⟩
    have hO : Only (fun _ => none) := fun _ => .inl rfl
    refine law_core (fun _ => none) KX hns hb hbb hlim hg hr F hbind (hsp _ hO hq) (hCX _) hO ?_ (fun _ _ _ _ _ _ => rfl) (fun _ _ _ => rfl)
    intro b u z
    exact absurd z (by simp)
  | none =>
    let H : Hp := fun b => if b = a then some (.frz { cls := .type "list", data := .seq vs.toArray } (.lst (ns.map V.int))) else none
    have Ha : H a = some (.frz { cls := .type "list", data := .seq vs.toArray } (.lst (ns.map V.int))) := if_pos rfl
    have Hn : ∀ b, b ≠ a → H b = none := fun b h => if_neg h
    have hO : Only H := fun b => if h : b = a then .inr ⟨_, _, h ▸ Ha⟩ else .inl (Hn b h)
    refine law_core H KX hns hb hbb hlim hg hr F hbind (hsp _ hO (.inl (.inr ⟨_, Ha⟩))) (hCX _) hO ?_ ?_ ?_
    · intro b u z
      by_cases h : b = a
      · subst h
        rw [Ha] at z
        cases z
        exact ⟨ha, hlen, vs, _, rv, ha⟩
      · rw [Hn b h] at z
        cases z
    · intro b o es ep e d
      by_cases h : b = a
      · subst h
        rw [ha] at e
        cases e
        cases d
      · exact Hn b h
    · intro b o e
      by_cases h : b = a
      · rw [h, hk] at e
        cases e
      · exact Hn b h
end
theorem walkG {l : PySem.W.OpenLaw} {n k : Nat} {q : Program} {loose : List Str} {XP : (Str → Option Value) → Heap → Prop} {YP : World → Heap → Prop} {d : DefRec} {K : Params → PySem.W.Frag} {CX : World → CXT} {sp : World → Sp} {x : Str}
    (hn : l.most = some n) (hn2 : n ≤ sizeLine) (hdf : d.params.defaults = []) (hr : Room k callerA)
    (hY : ∀ (w : World) (h : Heap), YP w h → (K w.params).In h)
    (F : ∀ (w : World) (mg : Str → Option Value) (fa : Addr) (h : Heap), (K w.params).In h → h.Ns mainGlobals mg → mg d.name = some (.ref fa) →
      ∃ fd : FuncData, (∀ (s : Shared) (u : Value), BindsTo s fd ⟨[u], []⟩ [(x, u)]) ∧
        ∀ base : Heap, (K w.params).In base → base.Ns mainGlobals mg → FnG l.prog w (K w.params) mg base (CX w) k fa fd [x] (sp w))
    (hsp : ∀ (w : World) (H : Hp) (a : Addr) (ns : List Int), ns.length ≤ n → Only H → SqL (K w.params) H a (ns.map V.int) → sp w [.ref a] H (fun v _ => v = .bl true) fun _ _ _ => False)
    (hCX : ∀ (w : World) (H : Hp) (s : Shared) (e : Value) (s' : Shared), CX w [] H s (fun _ _ _ => False) e s' → False) :
    PySem.W.WalkO q loose XP YP l.row.toRowW d [] (fun f vs => PySem.call f vs) := by
  apply Att.attach_call hn hdf
  intro w s₀ s₁ mg mb fa o pm cd doc a vs ns G Y ho hd hcd hmg hobj hints hlen hg
  obtain ⟨fd, hb, hF⟩ := F w mg fa _ (hY w _ Y) G.T.g hmg
  refine law_callG (hY w _ Y) G.T.g G.T.b G.T.builtins G.T.nolimit hg hobj hints (Nat.le_trans hlen hn2) hr hF hb ?_ ?_
  · exact fun H hO hS => hsp w H a ns hlen hO hS
  · exact fun H e s' => hCX w H s₁ e s'
end IK
end
section
set_option Elab.async false
set_option linter.all false
set_option maxRecDepth 100000
set_option maxHeartbeats 2000000
namespace IK
open PySem PySem.Spec PyProof.Rows L2

/-! ### repr of a list or tuple of data -/
def rRepr (K : PySem.W.Frag) : List V → Hp → VK → Prop := fun xs H Q => ∃ (a : Addr) (d : PyData), xs = [.ref a] ∧ Dp K H (.ref a) d ∧ d.showable = true ∧ d.hasDict = false ∧ d.depth ≤ 40 ∧ d.shown.length ≤ sizeLine ∧ Q (.str d.shown) H
theorem call_repr {X : Cx} (gd : X.A.guards = some []) (hu : X.A.units + 64 < cLine) : CallR X (.builtin "repr") (rRepr X.K) := by
  intro pins s σ H xs us Q I r h
  obtain ⟨a, d, rfl, hd, sh, nd, dp, sz, q⟩ := h
  cases r with
  | cons r1 r2 =>
    cases r2
    cases r1
    obtain ⟨as, R⟩ := Dp.reads I d (.ref a) (.ref a) hd rfl
    refine repr_of_reads' R sh (PyData.noDict_hsm nd) gd (by omega) (fun b o e => e) (fun h' u tk hk => ?_) sz
    exact ⟨.str d.shown, H, I.kept (t' := tk) hk, ⟨u, rfl⟩, q⟩

/-! ### X.__init__(self, ..) of an own error class over ValueError: nothing of it is told -/
/-- the class at B as the text names it: its __init__ is ValueError's own -/
structure BInit (K : PySem.W.Frag) (mg : Str → Option Value) (x : Str) (B : Addr) : Prop where
  at_ : mg x = some (.ref B)
  sp : PySem.W.specialIn K (.ref B) "__getattribute__" = some (some (.builtin "type.__getattribute__"))
  rd : PySem.W.readsIn K B (.type "type") = true
  ty : PySem.W.typeIn K (.ref B) = some (.type "type")
  fi : PySem.W.findCls K (.ref B) (.type "type") "__init__" = some (.val (.builtin "ValueError.__init__"))

/-- reads C.m of a class of one's own: a value that the class itself hands out -/
theorem getcls_ok {X : Cx} {pins : List (Addr × Obj)} {σ : L2.St} {H : Hp} {s : Shared} {B : Addr} {m : Str} {u : Value} {pl : Sem Bool} {Q : Value × List Value → Shared → Prop} {E : Value → Shared → Prop} {A : Around} (I : Inv X pins σ H s)
    (sp : PySem.W.specialIn X.K (.ref B) "__getattribute__" = some (some (.builtin "type.__getattribute__"))) (rd : PySem.W.readsIn X.K B (.type "type") = true) (fi : PySem.W.findCls X.K (.ref B) (.type "type") m = some (.val u))
    (hh : PySem.W.handedIn u = true) (h : ∀ s', Inv X pins σ H s' → Q (u, []) s') : wpAny (model X.prog X.w) A (getMethod (.ref B) m pl) Q E s :=
  PySem.W.method_cls I.kIn sp (PySem.W.cls_value I.kIn rd fi hh (h _ (I.tok _)))

section
variable {X : Cx} {e : Expr} {es : List Expr} {ta : TA} {x : Str} {B : Addr} {p1 p2 pos : Pos}
/-- X.__init__(self, ..) within the __init__ of an error class under X -/
theorem pe_binit {pl : Sem Bool} (T : BInit X.K X.mg x B) (hg : Gl X x) (ha : PA X (e :: es) ta) (hdb : (x == ("__debug__" : Str)) = false := by decide)
    (hc : eval (.Call (.Attribute (.Name x p1) "__init__" p2) (e :: es) [] pos) X.env = (do
      let ov ← eval (.Name x p1) X.env
      standAt p2.atName
      let (f, first) ← holding [ov] (getMethod ov "__init__" pl)
      callWith pos f first (backTo pos (starEach (e :: es) X.env)) (backToKw pos (keywordEach [] X.env))) := by rfl)
    (he : starEach (e :: es) X.env = (false, eval e X.env) :: starEach es X.env := by rfl) (hpl : (backTo pos (starEach es X.env)).any (·.1) = false := by rfl) :
    PE X (.Call (.Attribute (.Name x p1) "__init__" p2) (e :: es) [] pos) (tVeI X.K ta) where
  run := fun pins s σ H Q I h => by
    apply PySem.W.methodCall_KW (ld_glob I hg T.at_ _ hdb) hc
    apply getcls_ok I T.sp T.rd T.fi (by decide +kernel)
    intro s' I'
    show wpAny _ _ (callWith pos (Value.builtin "ValueError.__init__") [] (backTo pos (starEach (e :: es) X.env)) []) _ _ _
    refine PyProof.Rows.callWith_method1 (wpAny_mono (ha.run pos pins _ σ H _ I' h) ?_ fun _ _ z => z) he hpl
    rintro us s1 ⟨vs, H1, I1, r1, a, C, ws, rfl, hl, TC, ea, q⟩
    cases r1 with
    | cons ra rw' =>
      cases ra
      refine oinit_ok TC I1 ea ?_ fun s2 J => ⟨.non, H1, J, rfl, q⟩
      rw [← Paired.length rw', sizeLine_eq]
      omega
end
end IK
end
section
set_option Elab.async false
set_option linter.all false
set_option maxRecDepth 100000
set_option maxHeartbeats 4000000
/-! an own exception held as a value: isinstance, ==, its making -/
namespace PySem.W
open PySem PySem.Spec PySem.Calls PyProof.Rows
section
variable {prog : Program} {w : World} {A : Around} {E : Value → Shared → Prop} {s : Shared} {K : Frag} {x D : Addr} {ox : Obj} {od : Option Obj}
/-- what is read of an exception's class, as far as ==, isinstance and fields ask -/
structure ExVal (K : Frag) (D : Addr) : Prop where
  ga : findIn K (.ref D) "__getattribute__" = some (some (.builtin "BaseException.__getattribute__"))
  gt : findIn K (.ref D) "__getattr__" = some none
  sb : subIn K (.ref D) (.type "BaseException") = some true
  cl : (clsIn K D).isSome = true
  ca : findIn K (.ref D) "__class__" = some (some (.builtin "object.__class__"))
  cg : specialIn K (.builtin "object.__class__") "__get__" = some (some (.builtin "getset_descriptor.__get__"))
  ct : takesIn K (.builtin "object.__class__") = some true
  mo : mroIn K D (.type "object") = some true
  eq : findIn K (.ref D) "__eq__" = some (some (.builtin "object.__eq__"))
theorem find_class (T : ExVal K D) (hl : ∀ o, od = some o → lookIn "__class__" o = some none) : findObj K D od "__class__" = some (.bind (.builtin "getset_descriptor.__get__") (.builtin "object.__class__")) := by
  obtain ⟨cd, hc⟩ := Option.isSome_iff_exists.mp T.cl
  unfold findObj
  cases od with
  | none =>
    rw [hc, Option.bind_some, T.ca, Option.bind_some]
    simp [T.cg, T.ct]
  | some o =>
    rw [hc, Option.bind_some, T.ca, Option.bind_some]
    simp [T.cg, T.ct, hl o rfl]
theorem read_class {Q : Option Value → Shared → Prop} (T : ExVal K D) (hl : ∀ o, od = some o → lookIn "__class__" o = some none) (X : K.In s.heap) (I : InstAt s.heap x ox D od) (h : Q (some (.ref D)) { s with toks := s.toks + 1 }) :
    wpAny (model prog w) A (getAttr? (.ref x) "__class__") Q E s := by
  obtain ⟨hp, g, d, t, os⟩ := s
  have tyx := I.type (M := model prog w)
  have fnd := looks_find (M := model prog w) X I (find_class T hl)
  have gaq : (Value.builtin "BaseException.__getattribute__" == Value.builtin "object.__getattribute__") = false := by decide +kernel
  unfold getAttr? getAttrBy? getAttrBy
  apply wpAny_bind; apply wpAny_mkText; apply wpAny_bind; apply wpAny_attempt; apply wpAny_holding; apply wpAny_bind
  apply tyx.at; apply wpAny_bind; apply (looks_findIn (M := model prog w) X T.ga).at
  show wpAny _ _ (if (onTheHeap (Value.ref D) && _) = true then _ else _) _ _ _
  rw [gaq, Bool.and_false, if_neg Bool.false_ne_true]
  unfold getAttrByItsOwn hookBefore
  apply wpAny_bind
  rw [show onTheHeap (Value.ref D) = true from rfl, if_pos rfl]
  apply (looks_findIn (M := model prog w) X T.gt).at
  apply wpAny_bind; apply wpAny_attempt; apply wpAny_holding
  unfold callGetattribute
  rw [show (false && onTheHeap (Value.builtin "BaseException.__getattribute__")) = false from rfl, if_neg Bool.false_ne_true]
  unfold boundAndCalled
  rw [PySem.F.excAttr_ValueError.ga.bind (.ref x)]
  apply wpAny_bind; apply wpAny_pure
  show wpAny _ _ (call (.builtin "BaseException.__getattribute__") [.ref x, .str "__class__" t]) _ _ _
  apply wpAny_call; apply codeAny_call_builtin PySem.F.excAttr_ValueError.ga.plain PySem.F.entry_bexc_ga
  apply @check_slot (model prog w) _ _ ⟨hp, g, d, t + 1, os⟩ "BaseException.__getattribute__" "BaseException" "__getattribute__" (.ref x) [.str "__class__" t] [] _ (by decide +kernel) (by decide +kernel)
    (tyx.andThen (looks_subIn X T.sb)) (PySem.F.args_bexc_ga (.ref x) (.str "__class__" t))
  unfold Builtin.«object.__getattribute__»
  refine wpAny_bind (wpAny_of_eq (a := ((Value.ref x : Value), [Value.str "__class__" t])) (by first | rfl | (simp only [slotArgs]; rfl)) ?_)
  apply wpAny_bind; apply wpAny_pure; apply wpAny_bind; apply tyx.at; apply wpAny_bind; apply fnd.at
  show wpAny _ _ (holding [Value.builtin "object.__class__"] (call (.builtin "getset_descriptor.__get__") [.builtin "object.__class__", .ref x, .ref D]) >>= ret) _ _ _
  apply wpAny_bind; apply wpAny_holding; apply wpAny_call
  refine class_get (s := ⟨hp, g, d, t + 1, os⟩) (ox := ox) (od := od) X I T.mo ?_
  apply wpAny_pure
  show wpAny _ _ (handedOut (.ref D)) _ _ _
  rw [handedOut_of (v := .ref D) rfl]
  first
    | exact wpAny_pure (wpAny_pure h)
    | exact wpAny_pure h
    | exact wpAny_pure (wpAny_bind (wpAny_pure (wpAny_pure h)))
theorem kitx_ex (T : ExVal K D) : KitX K (.ref x) (.ref D) (fun h => ∃ ox od, InstAt h x ox D od ∧ ∀ o, od = some o → lookIn "__class__" o = some none) where
  ty := fun _ _ _ ⟨_, _, I, _⟩ => I.type
  it := fun _ _ X _ => by
    obtain ⟨cd, hc⟩ := Option.isSome_iff_exists.mp T.cl
    unfold clsIn at hc
    split at hc
    · rename_i ho
      intro A' Q' E' s' k q
      unfold isType loadHead
      exact wpAny_bind (wpAny_loadPart (k _ _ (X _ _ ho)) (wpAny_pure q))
    · cases hc
  ne := fun h tp dd its n sl X htp => by
    obtain ⟨cd, hc⟩ := Option.isSome_iff_exists.mp T.cl
    unfold clsIn at hc
    split at hc
    · rename_i ho
      cases q : (Value.ref D == Value.ref tp) with
      | false => rfl
      | true =>
        have e := Value.ref.inj (beq_iff_eq.mp q)
        rw [← e, X _ _ ho] at htp
        cases htp
    · cases hc
  ca := fun X ⟨_, _, I, hl⟩ k => read_class T hl X I k
/-- e == e, one exception -/
theorem ex_same {Q : Value → Shared → Prop} (T : ExVal K D) (hu : A.units < cLine) (X : K.In s.heap) (I : InstAt s.heap x ox D od) (hq : ∀ k, Q (.bool true) { s with toks := k }) : wpAny (model prog w) A (compareOp .Eq (.ref x) (.ref x)) Q E s := by
  have hit : wpAny (model prog w) A (tryCompare (.ref x) "__eq__" (.ref x)) (fun r s' => r = some (.bool true) ∧ s' = s) E s := by
    unfold tryCompare
    apply wpAny_bind
    apply HN.ifBound_objEq X I T.eq
    apply wpAny_call
    apply codeAny_call_builtin F.cmp_object.eq.plain F.cmpEntry_eq
    apply check_slot F.cmpKind_eq F.cmpSplit_eq (I.type.andThen (looks_mroIn X T.mo)) (F.cmpArgs_eq _ _)
    exact objEq_entry_same (wpAny_pure ⟨rfl, rfl⟩)
  show wpAny _ _ (richCompare .Eq (.ref x) (.ref x)) _ _ _
  simp only [richCompare, cmpInfo_Eq, oneThing_ref]
  apply wpAny_holding; apply wpAny_bind; apply wpAny_cRoomFor hu; apply wpAny_bind; apply I.type.here; apply wpAny_bind; apply I.type.here
  rw [if_neg (by simp)]
  apply wpAny_bind; apply wpAny_pure
  rw [if_neg Bool.false_ne_true]
  apply wpAny_bind
  apply wpAny_mono hit _ fun _ _ z => z
  rintro r s1 ⟨rfl, rfl⟩
  exact wpAny_pure (hq s1.toks)
end
end PySem.W

namespace IK
open PySem PySem.Spec PyProof.Rows L2
/-! ### over the layer -/
/-- at a: an exception of the class C, its dict at d with the fields fs -/
structure ExAt (K : PySem.W.Frag) (H : Hp) (a C d : Addr) (fs : List (Str × V)) : Prop where
  ob : H a = some (exo a C (some d))
  dc : H d = some (exd d fs)
  nc : fs.lookup ("__class__" : Str) = none
  ev : PySem.W.ExVal K C
theorem ExAt.inst {X : Cx} {pins : List (Addr × Obj)} {σ : L2.St} {H : Hp} {s : Shared} {a C d : Addr} {fs : List (Str × V)} (T : ExAt X.K H a C d fs) (I : Inv X pins σ H s) :
    ∃ ox od, PySem.W.InstAt s.heap a ox C od ∧ ∀ o, od = some o → PySem.W.lookIn "__class__" o = some none := by
  obtain ⟨t1, ho⟩ := exo_at I.hok T.ob
  obtain ⟨mA, hns, rel⟩ := exd_at I.hok T.dc
  obtain ⟨od, hod, hl⟩ := lookIn_ns hns
  refine ⟨_, some od, ⟨ho, rfl, rfl, hod⟩, fun o e => ?_⟩
  cases e
  rw [hl]
  have r := rel "__class__"
  rw [T.nc] at r
  cases e : mA "__class__" with
  | none => rfl
  | some u =>
    rw [e] at r
    exact r.elim
/-- == of an exception with itself -/
def rEqX (K : PySem.W.Frag) : R2 := fun x y H Q => ∃ a C d fs, x = .ref a ∧ y = .ref a ∧ ExAt K H a C d fs ∧ Q (.bl true) H
theorem op_eqX {X : Cx} (hu : X.A.units < cLine) : OpR X (compareOp .Eq) (rEqX X.K) := by
  rintro pins s σ H x y v u Q I rx ry ⟨a, C, d, fs, rfl, rfl, T, q⟩
  cases rx
  cases ry
  obtain ⟨ox, od, J, _⟩ := T.inst I
  exact PySem.W.ex_same T.ev hu I.kIn J fun k => ⟨.bl true, H, I.tok k, rfl, q⟩
/-- one of two rules -/
theorem op_alt {X : Cx} {f : Value → Value → Sem Value} {r1 r2 : R2} (h1 : OpR X f r1) (h2 : OpR X f r2) : OpR X f (fun x y H Q => r1 x y H Q ∨ r2 x y H Q) := by
  intro pins s σ H x y v u Q I rx ry h
  cases h with
  | inl h => exact h1 pins s σ H x y v u Q I rx ry h
  | inr h => exact h2 pins s σ H x y v u Q I rx ry h
theorem call_alt {X : Cx} {f : Value} {r1 r2 : List V → Hp → VK → Prop} (h1 : CallR X f r1) (h2 : CallR X f r2) : CallR X f (fun xs H Q => r1 xs H Q ∨ r2 xs H Q) := by
  intro pins s σ H xs us Q I r h
  cases h with
  | inl h => exact h1 pins s σ H xs us Q I r h
  | inr h => exact h2 pins s σ H xs us Q I r h
/-- isinstance of such an exception -/
def rIsX (K : PySem.W.Frag) : List V → Hp → VK → Prop := fun xs H Q => ∃ (a C d : Addr) (fs : List (Str × V)) (c : V) (u : Value) (b : Bool), xs = [.ref a, c] ∧ ClsV c u ∧ ExAt K H a C d fs ∧ PySem.W.kitOne K (.ref C) u = some b ∧ Q (.bl b) H
theorem call_isX {X : Cx} : CallR X (.builtin "isinstance") (rIsX X.K) := by
  rintro pins s σ H xs us Q I r ⟨a, C, d, fs, c, u, b, rfl, k, T, e, q⟩
  obtain ⟨u1, u2, rfl, r1, r2⟩ := vals2 r
  have e2 := k.eq r2
  subst e2
  cases r1
  exact PySem.W.kia_one (PySem.W.kitx_ex T.ev) I.kIn (T.inst I) e (fun z => nomatch z) fun tk => ⟨.bl b, H, I.tok tk, rfl, q⟩
end IK
end
section
set_option Elab.async false
set_option linter.all false
set_option maxRecDepth 100000
set_option maxHeartbeats 4000000
namespace IK
open PySem PySem.Spec PyProof.Rows L2

/-! ### error classes of one field: made, raised -/
/-- what __init__(self, v) leaves: the field f is v -/
def spErr (C : Addr) (f : Str) : Sp := fun vs H Q _ => ∃ (a : Addr) (v : V), vs = [.ref a, v] ∧ H a = some (exo a C none) ∧ ∀ d, H d = none → d ≠ a → Q .non (upd (upd H d (exd d [(f, v)])) a (exo a C (some d)))
/-- an error class of the text, named x, at C -/
structure Err (P : Program) (w : World) (K : PySem.W.Frag) (mg : Str → Option Value) (base : Heap) (x : Str) (C : Addr) (f : Str) : Prop where
  ox : OexC K C
  ev : PySem.W.ExVal K C
  nf : PySem.W.findIn K (.ref C) f = some none
  hd : PySem.W.hasDictIn K C = true
  at_ : mg x = some (.ref C)
  init : ∃ fI fd, PySem.W.findIn K (.ref C) "__init__" = some (some (.ref fI)) ∧ PySem.W.typeIn K (.ref fI) = some (.type "function") ∧ FnOk P w K mg base CX0 1 fI fd ["self", f] (spErr C f) ∧ Binds K fd ["self", f] []

theorem back_heap {H : Hp} {a d : Addr} {C : Addr} {fs : List (Str × V)} (ha : H a = none) (hda : d ≠ a) :
    upd (del (upd (upd (upd H a (exo a C none)) d (exd d fs)) a (exo a C (some d))) a) d (.xd fs) = upd H d (.xd fs) := by
  funext b
  by_cases hb : b = d
  · rw [hb, upd_same, upd_same]
  · rw [upd_ne hb, upd_ne hb]
    by_cases hba : b = a
    · rw [hba, del_same, ha]
    · rw [del_ne hba, upd_ne hba, upd_ne hb, upd_ne hba]
section
variable {X : Cx} {x f : Str} {C : Addr} {e : Expr} {te : TE} {p pos : Pos}
/-- raise x(e): e's value, then the wish at a new dict d -/
def tErr (C : Addr) (f : Str) (te : TE) : L2.St → Hp → XK → Prop := fun σ H Q => te σ H fun v H1 => ∀ d, H1 d = none → Q (.ref C) (some d) (upd H1 d (.xd [(f, v)]))
/-- a reading whose wish may be told stronger -/
def weak (te : TE) : TE := fun σ H Q => ∃ P : VK, te σ H P ∧ ∀ v H1, P v H1 → Q v H1
theorem pe_weak (he : PE X e te) : PE X e (weak te) where
  run := fun pins s σ H Q I ⟨P, h, k⟩ => by
    apply wpAny_mono (he.run pins s σ H P I h) _ fun _ _ z => z
    rintro u s' ⟨v, H', I', r, q⟩
    exact ⟨v, H', I', r, k v H' q⟩
theorem pmk_err (T : Err X.prog X.w X.K X.mg X.base x C f) (hr : Room 2 X.A) (hg : Gl X x) (he : PE X e te) (hdb : (x == ("__debug__" : Str)) = false := by decide)
    (hs : starEach [e] X.env = (false, eval e X.env) :: starEach [] X.env := by rfl) (hpl : (backTo pos (starEach [] X.env)).any (·.1) = false := by rfl) : PMk X (.Call (.Name x p) [e] [] pos) (tErr C f te) := by
  obtain ⟨fI, fd, iC, tI, F, hb⟩ := T.init
  intro pins s σ H Q I h
  refine pmk_oex (dvs := []) T.ox iC tI F hr hb .nil (fun _ _ _ _ _ _ _ z => z.elim) hg T.at_ (pa_cons (pe_weak he) pa_nil hs) hdb hs hpl pins s σ H Q I ⟨_, h, ?_⟩
  intro v H1 hP
  refine ⟨Nat.le_of_ble_eq_true rfl, fun a ha => ⟨a, v, rfl, upd_same, fun d hd hda => ?_⟩⟩
  rw [upd_ne hda] at hd
  refine ⟨rfl, d, [(f, v)], upd_same, (by rw [upd_ne hda, upd_same]), hd, ?_⟩
  rw [back_heap ha hda]
  exact hP d hd
/-- x(e) as a value: a new exception at a, its dict at d -/
def tErrV (C : Addr) (f : Str) (te : TE) : TE := fun σ H Q => te σ H fun v H1 => ∀ a d, H1 a = none → H1 d = none → d ≠ a → Q (.ref a) (upd (upd H1 d (exd d [(f, v)])) a (exo a C (some d)))
theorem up3 {H : Hp} {a d C : Addr} {fs : List (Str × V)} (hda : d ≠ a) : upd (upd (upd H a (exo a C none)) d (exd d fs)) a (exo a C (some d)) = upd (upd H d (exd d fs)) a (exo a C (some d)) := by
  funext b
  by_cases hba : b = a
  · rw [hba, upd_same, upd_same]
  · rw [upd_ne hba, upd_ne hba]
    by_cases hb : b = d
    · rw [hb, upd_same, upd_same]
    · rw [upd_ne hb, upd_ne hb, upd_ne hba]
theorem pe_errV (T : Err X.prog X.w X.K X.mg X.base x C f) (hr : Room 2 X.A) (hg : Gl X x) (he : PE X e te) (hdb : (x == ("__debug__" : Str)) = false := by decide)
    (hs : starEach [e] X.env = (false, eval e X.env) :: starEach [] X.env := by rfl) (hpl : (backTo pos (starEach [] X.env)).any (·.1) = false := by rfl) : PE X (.Call (.Name x p) [e] [] pos) (tErrV C f te) := by
  obtain ⟨fI, fd, iC, tI, F, hb⟩ := T.init
  obtain ⟨nm, q, N, bs, bm, sn, sub, ab, col, dd, k0, k1, k2, k3, k5, hC, hbm⟩ := T.ox.cls
  refine ⟨fun pins s σ H Q I h => ?_⟩
  apply wpAny_Call_Name_kw
  apply ld_glob I hg T.at_ _ hdb
  refine PySem.W.callWith_K (h₀ := X.base) I.ok.mod.kin T.ox.kC (wpAny_mono ((pa_cons (pe_weak he) pa_nil hs).run pos pins s σ H (fun vs H1 => ∃ v, vs = [v] ∧ ∀ a d, H1 a = none → H1 d = none → d ≠ a → Q (.ref a) (upd (upd H1 d (exd d [(f, v)])) a (exo a C (some d)))) I ?_) ?_ fun _ _ z => z) hs hpl
  · exact ⟨_, h, fun v H1 hP => ⟨v, rfl, hP⟩⟩
  · rintro us s1 ⟨vs, H1, I1, r1, v, rfl, q1⟩
    refine ⟨I1.kIn, ?_⟩
    obtain ⟨hp, g, dr, tk, os⟩ := s1
    have old : ∀ b o, hp.get? b = some o → ((hp.push (PySem.W.kdv_tup us)).push (PySem.HandSPX.excO C hp.objs.size)).get? b = some o := fun b o z => Heap.get?_push_of_some _ (Heap.get?_push_of_some _ z)
    have new : ((hp.push (PySem.W.kdv_tup us)).push (PySem.HandSPX.excO C hp.objs.size)).get? (hp.objs.size + 1) = some (PySem.HandSPX.excO C hp.objs.size) := by heap_get
    have fr : H1 (hp.objs.size + 1) = none := I1.hok.fresh (Nat.le_succ hp.objs.size)
    have I2 := I1.laid (t' := tk) (a := hp.objs.size + 1) (o := exo (hp.objs.size + 1) C none) old (Nat.le_succ hp.objs.size) (exo_ok new)
    have r2 : Vals [V.ref (hp.objs.size + 1), v] (Value.ref (hp.objs.size + 1) :: us) := .cons rfl r1
    have hus : us.length = 1 := (Paired.length r1).symm
    have bd := hb _ (Value.ref (hp.objs.size + 1) :: us) I2.kIn (by simp [hus])
    rw [List.append_nil] at bd
    have hus2 : us.length ≤ sizeLine := by rw [hus, sizeLine_eq]; decide
    have wish : spErr C f [V.ref (hp.objs.size + 1), v] (upd H1 (hp.objs.size + 1) (exo (hp.objs.size + 1) C none)) (fun v H2 => v = .non ∧ Q (.ref (hp.objs.size + 1)) H2) (fun _ _ _ => False) := by
      refine ⟨hp.objs.size + 1, v, rfl, upd_same, fun d hd hda => ⟨rfl, ?_⟩⟩
      rw [upd_ne hda] at hd
      rw [up3 hda]
      exact q1 _ d fr hd hda
    apply wpAny_call
    refine PySem.HandSPX.call_own PySem.F.excBase_ValueError (fun Y => PySem.HandSPX.refsVE_contains Y bm hbm) (I1.kIn _ _ hC) (PySem.W.looks_findIn I1.kIn iC) (fun self => PySem.W.bind_fn I1.kIn self tI) hus2 (codeAny_mono (F.run _ X.stack _ _ _ _ _ _ _ ((hr.mono (by decide : 2 ≤ 2)).make C us []) (I2.env0.make C us []) bd r2 wish) ?_)
    intro r s' hq
    match r, hq with
    | .ok (.ret u), hq =>
      obtain ⟨v', H2, J, rv, rfl, q2⟩ := I2.after hq
      exact ⟨rv, ⟨V.ref (hp.objs.size + 1), H2, J, rfl, q2⟩⟩
end
end IK
end
section
set_option Elab.async false
set_option linter.all false
set_option maxRecDepth 100000
set_option maxHeartbeats 4000000
namespace IK
open PySem PySem.Spec PyProof.Rows L2

/-! ### try with several clauses, each with a name or without one -/
abbrev Cl := Value × Option Nat × (Addr → Value → Option Addr → TS)
/-- behind a suite the name i is none again -/
def unname (i : Nat) (D : Ends) : Ends := { nx := fun σ H => D.nx (σ.set i none) H, rt := D.rt, bk := fun σ H => D.bk (σ.set i none) H, ct := fun σ H => D.ct (σ.set i none) H }
def wCl (ts : Addr → Value → Option Addr → TS) (oi : Option Nat) (a : Addr) (cls : Value) (d : Option Addr) (D : Ends) (σ : L2.St) (H : Hp) : Prop :=
  match oi with
  | none => ts a cls d D σ H
  | some i => ts a cls d (unname i D) (σ.set i (some (.ref a))) H
def wCls (K : PySem.W.Frag) (Wout : WX) (D : Ends) : List Cl → WX
  | [] => Wout
  | (c, oi, ts) :: r => fun cls d σ H => ∃ b, PySem.W.exmOne K cls c = some b ∧ (b = true → ∀ a, H a = none → wCl ts oi a cls d D σ H) ∧ (b = false → wCls K Wout D r cls d σ H)
inductive Clauses (X : Cx) : List ExceptHandler → List Cl → Prop
  | nil : Clauses X [] []
  | plain {x : Str} {c : Value} {ts : Addr → Value → Option Addr → TS} {st : Stmt} {sts : List Stmt} {np pos' : Pos} {hds : List ExceptHandler} {l : List Cl} (hc : Names X x c)
      (hsu : ∀ (a : Addr) (oe : Obj) (cls : Value) (d : Option Addr) (pn : List (Addr × Obj)), Zc cls d oe → (∃ vs, oe.data = .fields vs) → PSs (X.suite a ((a, oe) :: pn)) (st :: sts) (ts a cls d)) (r : Clauses X hds l) :
      Clauses X (.ExceptHandler (some (.Name x np)) none (st :: sts) pos' :: hds) ((c, none, ts) :: l)
  | named {x n : Str} {i : Nat} {c : Value} {ts : Addr → Value → Option Addr → TS} {st : Stmt} {sts : List Stmt} {np pos' : Pos} {hds : List ExceptHandler} {l : List Cl} (hc : Names X x c) (hi : X.N[i]? = some n) (hn : X.env.kindOf n = some .local)
      (hsu : ∀ (a : Addr) (oe : Obj) (cls : Value) (d : Option Addr) (pn : List (Addr × Obj)), Zc cls d oe → (∃ vs, oe.data = .fields vs) → PSs (X.suite a ((a, oe) :: pn)) (st :: sts) (ts a cls d)) (r : Clauses X hds l) :
      Clauses X (.ExceptHandler (some (.Name x np)) (some n) (st :: sts) pos' :: hds) ((c, some i, ts) :: l)

section
variable {X : Cx} {pins : List (Addr × Obj)} {D : Ends} {Wout : WX}
/-- the exception a lies landed in s'; J: what stood when it was raised -/
structure Landed (X : Cx) (pins : List (Addr × Obj)) (B : Heap) (sI s' : Shared) (a : Addr) (cls : Value) (d : Option Addr) (σ : L2.St) (H : Hp) : Prop where
  J : Inv X pins σ H sI
  nb : ∀ b o, sI.heap.get? b = some o → b ∉ frs X.stack → B.get? b = some o
  fl : HandSPX.FlyingZ B (X.env :: X.outer) a (Zc cls d) s'.heap
  up : sI.heap.UpToSlots s'.heap
  os : s'.os = sI.os
  ag : AllBare s'.gens
  na : H a = none
theorem Landed.inv {B : Heap} {sI s' : Shared} {a : Addr} {cls : Value} {d : Option Addr} {σ : L2.St} {H : Hp} (L : Landed X pins B sI s' a cls d σ H) : Inv X pins σ H s' := L.J.landed L.nb L.fl.1 L.up L.os L.ag
theorem Landed.suite {B : Heap} {sI s' : Shared} {a : Addr} {cls : Value} {d : Option Addr} {σ : L2.St} {H : Hp} (L : Landed X pins B sI s' a cls d σ H) (hf : X.env.frame = some X.env.locals) :
    ∃ oe vs, s'.heap.get? a = some oe ∧ Zc cls d oe ∧ oe.data = .fields vs ∧ Inv (X.suite a ((a, oe) :: (X.pn ++ pins))) [] σ H s' := by
  obtain ⟨oe, vs, he, hz, hd⟩ := L.fl.there
  have out : a ∉ frs (X.env :: X.outer) := fun hm => by
    obtain ⟨_, o', e', hnf⟩ := L.fl.2.2.1.mem hm
    rw [he] at e'
    cases e'
    exact hnf _ hd
  have nL : a ≠ X.env.locals := fun z => out (List.mem_filterMap.mpr ⟨X.env, List.mem_cons_self, by rw [hf, z]⟩)
  have nF : a ∉ X.fs := fun hm => by
    obtain ⟨e, h1, h2⟩ := List.mem_filterMap.mp hm
    exact out (List.mem_filterMap.mpr ⟨e, List.mem_cons_of_mem _ h1, h2⟩)
  exact ⟨oe, vs, he, hz, hd, L.inv.suite he hd L.na nL nF⟩
theorem clause_go (hs : X.stack = X.env :: X.outer) (hf : X.env.frame = some X.env.locals) (hN : X.N.Nodup) (tk : Takes X Wout) {hds : List ExceptHandler} {l : List Cl} (hk : Clauses X hds l) {B : Heap} {sI s' : Shared} {a : Addr} {cls : Value} {d : Option Addr} {σ : L2.St} {H : Hp}
    (L : Landed X pins B sI s' a cls d σ H) (w : wCls X.K Wout D l cls d σ H) : wpAny (model X.prog X.w) X.A (handleBy (.ref a) X.env hds) (SP X pins D) X.xe s' := by
  have ok := L.J.ok
  induction hk with
  | nil =>
    apply wpAny_handleBy_nil
    obtain ⟨k1, k2, k3, oe, vs, T, oT, ts', he, hz, hd, h1, hr⟩ := id L.fl
    unfold PySem.passOn
    apply wpAny_bind
    apply wpAny_field he hd h1
    rw [if_neg (by simp)]
    have fin : wpAny (model X.prog X.w) X.A (setFlight (.ref a) X.env.frame) (fun _ s4 => wpAny (model X.prog X.w) X.A (throw (.ref a) : Sem Flow) (SP X pins D) X.xe s4) X.xe s' := by
      rw [hf]
      apply HandSPX.setFlight_upZ L.fl
      intro h4 hh4 up4
      apply wpAny_throw
      exact tk _ _ ⟨a, B, sI, pins, σ, H, cls, d, rfl, L.J, L.nb, L.up.trans up4, .inr (.inr (by rw [hs]; exact hh4)), L.na, L.os, L.ag, w⟩
    first
      | exact wpAny_bind (wpAny_pure (wpAny_bind fin))
      | exact wpAny_bind fin
  | @plain x c ts st sts np pos' hds2 l2 hc hsu r ih =>
    obtain ⟨b, hb1, hyes, hno⟩ := w
    obtain ⟨oe3, vs3, he3, hz3, hd3, S3⟩ := L.suite hf
    refine wpAny_handleBy_cons (codeAny_handlers_test ?_) (by intro q; cases q)
    have LM := PySem.W.exm_one (M := model X.prog X.w) L.inv.kIn (fun A Q E s k q => wpAny_typeOf_ref (k _ _ he3) (by rw [hz3.1]; exact q) : PySem.W.Looks (model X.prog X.w) s'.heap (typeOf (.ref a)) cls) hb1
    have ld : ∀ {Q : Value → Shared → Prop} {E : Value → Shared → Prop}, Q c s' → wpAny (model X.prog X.w) (X.A.mark (some (.ref a))) (eval (.Name x np) X.env) Q E s' := by
      intro Q E q
      obtain ⟨hg, hdbg, hm | ⟨hm, hv, hnn⟩⟩ := hc
      · exact ld_glob (X := X.suite a ((a, oe3) :: (X.pn ++ pins))) S3 hg hm q hdbg
      · exact ld_blt (X := X.suite a ((a, oe3) :: (X.pn ++ pins))) S3 hg hm hv q hnn hdbg
    apply ld
    apply LM.here
    cases b with
    | false => exact ih (hno rfl)
    | true =>
      apply codeAny_handlers_suite
      apply HandSPX.lands_againZ L.fl
      intro h4 fl4 up4
      obtain ⟨oe4, vs4, he4, hz4, hd4, S4⟩ := Landed.suite (s' := { s' with heap := h4 }) ⟨L.J, L.nb, fl4, L.up.trans up4, L.os, L.ag, L.na⟩ hf
      apply wpAny_mono ((hsu a oe4 cls d (X.pn ++ pins) hz4 ⟨_, hd4⟩).run [] _ _ H _ S4 (hyes rfl a L.na)) _ fun _ _ z => False.elim z
      intro f s6 hsp
      match f, hsp with
      | .next, ⟨σ6, H6, S6, q6⟩ => exact ⟨_, _, S6.unsuite ok, q6⟩
      | .brk, ⟨σ6, H6, S6, q6⟩ => exact ⟨_, _, S6.unsuite ok, q6⟩
      | .cont, ⟨σ6, H6, S6, q6⟩ => exact ⟨_, _, S6.unsuite ok, q6⟩
      | .ret u, ⟨v6, σ6, H6, S6, r6, q6⟩ => exact ⟨_, _, _, S6.unsuite ok, r6, q6⟩
  | @named x n i c ts st sts np pos' hds2 l2 hc hi hn hsu r ih =>
    obtain ⟨b, hb1, hyes, hno⟩ := w
    obtain ⟨oe3, vs3, he3, hz3, hd3, S3⟩ := L.suite hf
    refine wpAny_handleBy_cons (codeAny_handlers_test ?_) (by intro q; cases q)
    have LM := PySem.W.exm_one (M := model X.prog X.w) L.inv.kIn (fun A Q E s k q => wpAny_typeOf_ref (k _ _ he3) (by rw [hz3.1]; exact q) : PySem.W.Looks (model X.prog X.w) s'.heap (typeOf (.ref a)) cls) hb1
    have ld : ∀ {Q : Value → Shared → Prop} {E : Value → Shared → Prop}, Q c s' → wpAny (model X.prog X.w) (X.A.mark (some (.ref a))) (eval (.Name x np) X.env) Q E s' := by
      intro Q E q
      obtain ⟨hg, hdbg, hm | ⟨hm, hv, hnn⟩⟩ := hc
      · exact ld_glob (X := X.suite a ((a, oe3) :: (X.pn ++ pins))) S3 hg hm q hdbg
      · exact ld_blt (X := X.suite a ((a, oe3) :: (X.pn ++ pins))) S3 hg hm hv q hnn hdbg
    apply ld
    apply LM.here
    cases b with
    | false => exact ih (hno rfl)
    | true =>
      apply codeAny_handlers_suite_as
      apply HandSPX.lands_againZ L.fl
      intro h4 fl4 up4
      obtain ⟨oe4, vs4, he4, hz4, hd4, S4⟩ := Landed.suite (s' := { s' with heap := h4 }) ⟨L.J, L.nb, fl4, L.up.trans up4, L.os, L.ag, L.na⟩ hf
      refine store_ok (X := X.suite a ((a, oe4) :: (X.pn ++ pins))) (v := .ref a) S4 hN hi (.inl hn) rfl (fun s5 S5 => ?_) (.inr hn)
      apply wpAny_mono ((hsu a oe4 cls d (X.pn ++ pins) hz4 ⟨_, hd4⟩).run [] s5 _ H _ S5 (hyes rfl a L.na)) _ fun _ _ z => False.elim z
      intro f s6 hsp
      have end_ : ∀ {σ6 : L2.St} {H6 : Hp} {Q : Shared → Prop}, Inv (X.suite a ((a, oe4) :: (X.pn ++ pins))) [] σ6 H6 s6 → (∀ s7, Inv X pins (σ6.set i none) H6 s7 → Q s7) →
          wpAny (model X.prog X.w) X.A (do bindName X.env n .none; unbindBehindTheSuite X.env n pos') (fun _ s7 => Q s7) X.xe s6 := fun S6 hq => gone_ok (S6.unsuite ok) hN hi hn hq
      match f, hsp with
      | .next, ⟨σ6, H6, S6, q6⟩ => exact end_ S6 fun s7 J7 => ⟨_, _, J7, q6⟩
      | .brk, ⟨σ6, H6, S6, q6⟩ => exact end_ S6 fun s7 J7 => ⟨_, _, J7, q6⟩
      | .cont, ⟨σ6, H6, S6, q6⟩ => exact end_ S6 fun s7 J7 => ⟨_, _, J7, q6⟩
      | .ret u, ⟨v6, σ6, H6, S6, r6, q6⟩ => exact end_ S6 fun s7 J7 => ⟨_, _, _, J7, r6, q6⟩
theorem ps_try_cls {body : List Stmt} {h₀ : ExceptHandler} {hds : List ExceptHandler} {l : List Cl} {pos : Pos} {tb : WX → TS} (hs : X.stack = X.env :: X.outer) (hf : X.env.frame = some X.env.locals) (hN : X.N.Nodup) (tk : Takes X Wout)
    (hb : ∀ (W : WX) (pn : List (Addr × Obj)) (xe : Value → Shared → Prop), Takes (X.tr pn xe) W → PassesOwn (model X.prog X.w) X.A X.env xe → PSs (X.tr pn xe) body (tb W))
    (hh : Clauses X (h₀ :: hds) l) : PS X (.Try body (h₀ :: hds) [] [] pos) (fun D σ H => tb (wCls X.K Wout D l) D σ H) := by
  refine ⟨fun pins s σ H D I h => ?_⟩
  have ok := I.ok
  apply wpAny_Try_except
  have run := (hb (wCls X.K Wout D l) (X.pn ++ pins) (fun e s₁ => wpAny (model X.prog X.w) X.A (noteFrame e X.env) (fun _ s₂ => wpAny (model X.prog X.w) X.A (setFlight e none) (fun _ s₃ =>
    wpAny (model X.prog X.w) X.A (handleBy e X.env (h₀ :: hds)) (SP X pins D) X.xe s₃) X.xe s₂) X.xe s₁) ?_ PassesOwn.looking).run [] s σ H D (I.toTry _) h
  · apply wpAny_mono run _ fun _ _ z => z
    intro f s1 hsp
    match f, hsp with
    | .next, ⟨σ', H', J', q⟩ => exact wpAny_execs_nil ⟨σ', H', J'.ofTry ok, q⟩
    | .brk, ⟨σ', H', J', q⟩ => exact ⟨σ', H', J'.ofTry ok, q⟩
    | .cont, ⟨σ', H', J', q⟩ => exact ⟨σ', H', J'.ofTry ok, q⟩
    | .ret u, ⟨v, σ', H', J', r, q⟩ => exact ⟨v, σ', H', J'.ofTry ok, r, q⟩
  · rintro u s' ⟨a, B, sI, pins', σ', H', cls, d, rfl, J', nb, up, sky, na, os, ag, w⟩
    have J : Inv X pins σ' H' sI := J'.ofTry ok
    show wpAny _ _ (noteFrame (.ref a) X.env) _ _ _
    have sky' : Sky B (X.env :: X.outer) a (Zc cls d) X.env.locals s'.heap := by rw [← hs]; exact sky
    apply Sky.land Zc.steady (by rw [ok.frames, hs]) hf sky'
    intro h3 fl3 up3
    exact clause_go hs hf hN tk hh (s' := { s' with heap := h3 }) ⟨J, nb, fl3, up.trans up3, os, ag, na⟩ w
end
end IK
end
section
set_option Elab.async false
set_option linter.all false
set_option maxRecDepth 100000
set_option maxHeartbeats 4000000
namespace IK
open PySem PySem.Spec PyProof.Rows L2

/-! ### for a, b in zip(a text, a list) -/
def ItzS (K : PySem.W.Frag) (z : Str) (b : Addr) : It where
  go := fun i H => ∃ (ys : List V) (y : V), SqL K H b ys ∧ i < z.cps.size ∧ ys[i]? = some y
  yld := fun i H v H' => ∃ T c y, v = .ref T ∧ H T = none ∧ H' = upd H T (.tup [.str ⟨#[c]⟩, y]) ∧ z.cps[i]? = some c ∧ ∀ ys, SqL K H b ys → ys[i]? = some y
  stop := fun i H => ∃ ys : List V, SqL K H b ys ∧ i ≤ z.cps.size ∧ i ≤ ys.length ∧ (z.cps.size = i ∨ ys.length = i)
def tnS (N b : Addr) (z : Str) (t : Tok) (i : Nat) (h : Heap) : Prop :=
  IsZip h (N + 4) (N + 2) (N + 3) .none ∧ IsTupOf2 h (N + 2) (.ref N) (.ref (N + 1)) ∧ (∃ x y, IsTupOf2 h (N + 3) x y) ∧ h.IsStrIter N (strIterType z) z t i ∧ h.IsListIter (N + 1) b i
abbrev cells (N : Addr) : List Addr := [N + 4, N + 2, N + 3, N, N + 1]
theorem cells_cases {N c : Addr} (h : c ∈ cells N) : c = N + 4 ∨ c = N + 2 ∨ c = N + 3 ∨ c = N ∨ c = N + 1 := by simpa using h
theorem cells_ge {N c : Nat} (h : c ∈ cells N) : N ≤ c ∧ c ≤ N + 4 := by
  rcases cells_cases h with e | e | e | e | e <;> rw [e] <;> exact ⟨by first | exact Nat.le_refl _ | exact Nat.le_add_right _ _, by first | exact Nat.le_refl _ | exact Nat.add_le_add_left (by decide) _ | exact Nat.le_add_right _ _⟩
theorem ne_off {N : Nat} {i j : Nat} (h : i ≠ j) : (N + i : Nat) ≠ N + j := by omega
theorem turn_zipS {P : Program} {w : World} {K : PySem.W.Frag} {elts : List Expr} {kk : Nat} {tpos : Pos} {N b : Addr} {z : Str} {t : Tok} (hb : b < N) : Turn P w K (.Tuple elts kk tpos) (ItzS K z b) (cells N) (N + 4) (tnS N b z t) where
  mem := by simp [cells]
  obj := fun i h st c hc => by
    obtain ⟨hz, hTI, ⟨x, y, hTO⟩, ⟨o1, e1, _, d1⟩, ⟨o2, e2, _, d2⟩⟩ := st
    rcases cells_cases hc with q | q | q | q | q <;> subst q
    · exact ⟨_, hz, fun v q => nomatch q⟩
    · exact ⟨_, hTI, fun v q => nomatch q⟩
    · exact ⟨_, hTO, fun v q => nomatch q⟩
    · exact ⟨o1, e1, fun v q => by rw [d1] at q; cases q⟩
    · exact ⟨o2, e2, fun v q => by rw [d2] at q; cases q⟩
  keep := fun i h h' st k => by
    obtain ⟨hz, hTI, ⟨x, y, hTO⟩, h1, h2⟩ := st
    exact ⟨k (N + 4) (by simp [cells]) _ hz, k (N + 2) (by simp [cells]) _ hTI, ⟨x, y, k (N + 3) (by simp [cells]) _ hTO⟩, (by obtain ⟨o1, e1, r1⟩ := h1; exact ⟨o1, k N (by simp [cells]) o1 e1, r1⟩), h2.at fun o q => k (N + 1) (by simp [cells]) o q⟩
  item := by
    intro X hP hw hK hc i pins s σ H E I hf st hg
    subst hP hw hK
    obtain ⟨hz, hTI, ⟨x0, y0, hTO⟩, h1, h2⟩ := st
    obtain ⟨ys, y, hq, hi, hy⟩ := hg
    obtain ⟨its, rv, p, _⟩ := I.list hq
    obtain ⟨u, hu, ru⟩ := rv.get hy
    have hil : i < its.toArray.size := by simpa using (List.getElem?_eq_some_iff.mp hu).1
    have S : ZipSep2 (N + 4) (N + 2) (N + 3) N (N + 1) [N] [N + 1, b] := zip_sep2 (fp1 := []) (fp2 := [b]) (fun _ z => by cases z) (fun c z => by rcases List.mem_singleton.mp z with rfl; exact hb)
    have D1 := Draws.text (prog := X.prog) (w := X.w) (A := X.A.in1) (I.ok.hd hc) N z t
    have D2 := Draws.list (prog := X.prog) (w := X.w) (A := X.A.in1) (I.ok.hd hc) (N + 1) b (Nat.ne_of_lt (Nat.lt_succ_of_lt hb)) its.toArray
    have hzl : N + 4 < s.heap.objs.size := Heap.lt_size hz
    refine wpAny_pyNext_zipD2_item S D1 D2 hz hTI hTO h1 ⟨h2, p.isList⟩ hi hil fun v1 v2 h' tk p1 p2 z' TO' h1' h2' hT hsz hk => ?_
    obtain ⟨c, uc, hcc, rfl⟩ := p1
    have e2 : v2 = u := by
      have e : its.toArray[i]? = some u := by simpa using hu
      rw [e] at p2
      exact (Option.some.inj p2).symm
    subst e2
    refine ⟨_, rfl, wpAny_letOwnedTupleGo_zip (s := { s with heap := h', toks := tk }) z' fun h'' z'' sb => ?_⟩
    have hT2 : h''.get? s.heap.objs.size = some { cls := .type "tuple", data := .seq #[.str ⟨#[c]⟩ uc, v2] } := (sb.2 _ (Nat.ne_of_gt hzl)).trans hT
    have new : ObjOk X.prog X.w (upd H s.heap.objs.size (.tup [.str ⟨#[c]⟩, y])) h'' s.heap.objs.size (.tup [.str ⟨#[c]⟩, y]) :=
      ⟨by show 2 ≤ sizeLine; decide, [.str ⟨#[c]⟩ uc, v2], .cons ⟨uc, rfl⟩ (.cons ru .nil), ⟨_, hT2, rfl, _, rfl⟩⟩
    have far : ∀ c' : Addr, c' ∉ cells N → c' ≠ N + 4 ∧ c' ≠ N + 3 ∧ c' ≠ N ∧ c' ≠ N + 1 := fun c' hn => ⟨fun q => hn (by simp [q, cells]), fun q => hn (by simp [q, cells]), fun q => hn (by simp [q, cells]), fun q => hn (by simp [q, cells])⟩
    have I1 := I.turnedNew (t' := tk) (ch := cells N) (fun c' o hn q => (sb.2 c' (far c' hn).1).trans (hk c' o (far c' hn).1 (far c' hn).2.1 (far c' hn).2.2.1 (far c' hn).2.2.2 q)) hf (Nat.le_refl _) new
    refine ⟨.ref s.heap.objs.size, _, I1, rfl, ⟨_, c, y, rfl, I.hok.fresh (Nat.le_refl _), rfl, hcc, fun l hl => by rw [I.list_inj hl hq]; exact hy⟩, ⟨z'', ?_, ⟨.str ⟨#[c]⟩ uc, v2, ?_⟩, ?_, ?_⟩, fun c' hm => ?_⟩
    · exact (sb.2 _ (ne_off (by decide))).trans (hk _ _ (ne_off (by decide)) (ne_off (by decide)) (ne_off (i := 2) (j := 0) (by decide)) (ne_off (by decide)) hTI)
    · exact (sb.2 _ (ne_off (by decide))).trans TO'
    · obtain ⟨o1, e1, r1⟩ := h1'
      exact ⟨o1, (sb.2 _ (ne_off (i := 0) (by decide))).trans e1, r1⟩
    · exact h2'.1.at fun o q => (sb.2 _ (ne_off (by decide))).trans q
    · have hlt : c' < s.heap.objs.size := Nat.lt_of_le_of_lt (cells_ge hm).2 hzl
      rw [upd_ne (Nat.ne_of_lt hlt)]
      exact (hf c' hm).1
  done := by
    intro X hP hw hK hc i pins s σ H E I hf st hg
    subst hP hw hK
    obtain ⟨hz, hTI, ⟨x0, y0, hTO⟩, h1, h2⟩ := st
    obtain ⟨ys, hq, hi1, hi2, hend⟩ := hg
    obtain ⟨its, rv, p, _⟩ := I.list hq
    have l2 : ys.length = its.toArray.size := by simpa using rv.length
    have S : ZipSep2 (N + 4) (N + 2) (N + 3) N (N + 1) [N] [N + 1, b] := zip_sep2 (fp1 := []) (fp2 := [b]) (fun _ z => by cases z) (fun c z => by rcases List.mem_singleton.mp z with rfl; exact hb)
    have D1 := Draws.text (prog := X.prog) (w := X.w) (A := X.A.in1) (I.ok.hd hc) N z t
    have D2 := Draws.list (prog := X.prog) (w := X.w) (A := X.A.in1) (I.ok.hd hc) (N + 1) b (Nat.ne_of_lt (Nat.lt_succ_of_lt hb)) its.toArray
    refine wpAny_pyNext_zipD2_end S D1 D2 hz hTI hTO h1 ⟨h2, p.isList⟩ hi1 (by omega) (by rcases hend with q | q; exact .inl q.symm; exact .inr (by omega)) fun h' tk hk => ⟨rfl, ?_⟩
    have far : ∀ c' : Addr, c' ∉ cells N → c' ≠ N + 4 ∧ c' ≠ N + 3 ∧ c' ≠ N ∧ c' ≠ N + 1 := fun c' hn => ⟨fun q => hn (by simp [q, cells]), fun q => hn (by simp [q, cells]), fun q => hn (by simp [q, cells]), fun q => hn (by simp [q, cells])⟩
    exact I.turnedL (t' := tk) (ch := cells N) (fun c' o hn q => hk c' o (far c' hn).1 (far c' hn).2.1 (far c' hn).2.2.1 (far c' hn).2.2.2 q) hf
  self := fun A i s Q E st h => wpAny_pyIter_zip st.1 h
def iZipS (K : PySem.W.Frag) (ta : TA) : TI := fun σ H R => ta σ H fun vs H1 => ∃ z b ys, vs = [.str z, .ref b] ∧ SqL K H1 b ys ∧ R (ItzS K z b) H1
theorem pi_zipS {X : Cx} {e e2 : Expr} {ta : TA} {p pos tpos : Pos} {elts : List Expr} {kk : Nat} (hg : Gl X "zip") (hm : X.mg "zip" = none) (ha : PA X [e, e2] ta)
    (hs : starEach [e, e2] X.env = (false, eval e X.env) :: starEach [e2] X.env := by rfl) (hpl : (backTo pos (starEach [e2] X.env)).any (·.1) = false := by rfl) :
    PI X (.Tuple elts kk tpos) (.Call (.Name "zip" p) [e, e2] [] pos) (iZipS X.K ta) where
  run := fun pins s σ H R I h => by
    refine Call_ (ld_blt I hg hm PyProof.Rows.boot_zip (PyProof.Rows.callWith_type1 (wpAny_mono (ha.run pos pins s σ H _ I h) ?_ fun _ _ z => z) hs hpl))
    rintro us s1 ⟨vs, H1, I1, r1, z, b, ys, rfl, hq, q⟩
    obtain ⟨u1, u2, rfl, r, r'⟩ := vals2 r1
    cases r'
    obtain ⟨t, rfl⟩ := r
    obtain ⟨its, rv, p1, _⟩ := I1.list hq
    have lb : b < s1.heap.objs.size := p1.lt
    refine zip_begins2 (begins_text z t) (begins_list b its.toArray) trivial p1.isList fun h' hz hTI hTO h1 h2 hsz hk => wpAny_pyIter_zip hz ?_
    have I2 : Inv X pins σ H1 { s1 with heap := h' } := I1.kept (t' := s1.toks) hk
    refine ⟨s1.heap.objs.size + 4, cells s1.heap.objs.size, _, _, H1, rfl, I2, turn_zipS (t := t) lb, ⟨hz, hTI, ⟨_, _, hTO⟩, ⟨_, h1, rfl, rfl⟩, ⟨_, h2, rfl, rfl⟩⟩, fun c hcm => ?_, q⟩
    have hle : s1.heap.objs.size ≤ c := (cells_ge hcm).1
    exact I1.fpOk hle (I1.hok.fresh hle)
/-- as many turns as the text has signs -/
theorem walk_zipS {K : PySem.W.Frag} {z : Str} {b : Addr} {ys : List V} (hl : ys.length = z.cps.size) : Walk (ItzS K z b) ys.length (fun H => SqL K H b ys)
    (fun i H v H' => ∃ T c y, v = .ref T ∧ H T = none ∧ H' = upd H T (.tup [.str ⟨#[c]⟩, y]) ∧ z.cps[i]? = some c ∧ ys[i]? = some y) where
  goes := fun i H hi q => ⟨ys, ys[i], q, by omega, by simp [hi]⟩
  stops := fun H q => ⟨ys, q, by omega, Nat.le_refl _, .inr rfl⟩
  yields := fun i H x H' hi q ⟨T, c, y, h1, h2, h3, h4, h5⟩ => ⟨T, c, y, h1, h2, h3, h4, h5 ys q⟩
end IK
end
section
set_option Elab.async false
set_option linter.all false
set_option maxRecDepth 100000
set_option maxHeartbeats 4000000
namespace IK
open PySem PySem.Spec PyProof.Rows L2

/-! ### a dict of the module, asked by get -/
/-- the written dict at a: f tells what is behind each text -/
def KDic (K : PySem.W.Frag) (w : World) (a : Addr) (f : Str → Option V) : Prop := ∃ es n, K.lookup a = some ⟨.type "dict", none, .dict es n, #[]⟩ ∧ PySem.W.KeysLit w.params es.toList ∧ (a == sysModules) = false ∧ ∀ x, RelO (f x) (findBy Value.isStrOf es x)
def tKGet (K : PySem.W.Frag) (w : World) (to te : TE) : TE := fun σ H Q => to σ H fun x H1 => ∃ a f, x = .ref a ∧ KDic K w a f ∧ te σ H1 fun y H2 => ∃ k, y = .str k ∧ Q ((f k).getD .non) H2
section
variable {X : Cx} {o e : Expr} {to te : TE} {apos cpos pos : Pos}
theorem pe_kget (ho : PE X o to) (he : PE X e te) (hs : starEach [e] X.env = [(false, eval e X.env)] := by rfl) (hbase : attributeBase o "get" X.env (eval o X.env) = eval o X.env := by rfl) (hline : (apos.endLine == cpos.line) = true := by rfl) :
    PE X (.Call (.Attribute o "get" apos) [e] [] cpos) (tKGet X.K X.w to te) where
  run := fun pins s σ H Q I h => by
    refine PySem.Call_method1 hbase hs hline (wpAny_mono (ho.run pins s σ H _ I h) ?_ fun _ _ z => z)
    rintro v s1 ⟨x, H1, I1, r1, a, f, rfl, ⟨es, n, hl, hk, low, hf⟩, q1⟩
    cases r1
    have hm := PySem.W.mapOf_K (prog := X.prog) (w := X.w) I1.kIn hl hk
    refine ⟨"dict", _, PySem.F.plainAttrs_dict, PySem.F.slot_dict_get, PySem.F.type_dict_get, hm.typeIs, fun b q => ?_, Calls.callWith_builtin rfl (Calls.evalArgs_plain (Calls.spliced_cons (wpAny_mono (he.run pins s1 σ H1 _ I1 q1) ?_ fun _ _ z => z)))⟩
    · cases q
      exact ⟨_, I1.kIn _ _ hl, rfl⟩
    · rintro u s2 ⟨y, H2, I2, r2, k, rfl, q2⟩
      obtain ⟨t, rfl⟩ := r2
      have hm2 := PySem.W.mapOf_K (prog := X.prog) (w := X.w) I2.kIn hl hk
      apply Calls.spliced_nil
      refine call_meetsIn PySem.F.slot_dict_get hm2.typeIs PySem.F.entry_dict_get (PySem.F.args_dict_get_2 _ _) (meets_dict_get (strKind X.prog X.w) a (strKind_is X.prog X.w k t) low) ⟨_, hm2, ?_⟩
      have rel := hf k
      refine ⟨(f k).getD .non, H2, I2.tok _, ?_, q2⟩
      cases e1 : f k with
      | none =>
        cases e2 : findBy Value.isStrOf es k with
        | none => exact rfl
        | some u => rw [e1, e2] at rel; exact rel.elim
      | some v =>
        cases e2 : findBy Value.isStrOf es k with
        | none => rw [e1, e2] at rel; exact rel.elim
        | some u => rw [e1, e2] at rel; exact rel

/-! ### x.partition(a written text): behind it a token is out -/
theorem pss_part {n : Nat} {g : TGs} {es : List Expr} {kk : Nat} {tpos p1 : Pos} {c : Str} {j : Nat} {rest : List Stmt} {u : TS} (hc : X.calm = true) (ho : PE X o to) (hg : PGs X es g) (h2 : PSsT X rest u)
    (hs : starEach [.Constant (.str c) j p1] X.env = [(false, eval (.Constant (.str c) j p1) X.env)] := by rfl) (hbase : attributeBase o "partition" X.env (eval o X.env) = eval o X.env := by rfl) (hline : (apos.endLine == cpos.line) = true := by rfl)
    (hw1 : swapsWithSole [.Tuple es kk tpos] (.Call (.Attribute o "partition" apos) [.Constant (.str c) j p1] [] cpos) pos.line X.env = pure false := by rfl)
    (hw2 : swappedStores [.Tuple es kk tpos] (.Call (.Attribute o "partition" apos) [.Constant (.str c) j p1] [] cpos) X.env = pure none := by rfl)
    (hx : (assignEach [.Tuple es kk tpos] X.env).map (·.2) = [assign (.Tuple es kk tpos) X.env] := by rfl)
    (hn : (assignEach es X.env).length = n := by rfl) (hst : (assignEach es X.env).findIdx? (·.1) = none := by rfl) :
    PSs X (.Assign [.Tuple es kk tpos] (.Call (.Attribute o "partition" apos) [.Constant (.str c) j p1] [] cpos) pos :: rest)
      (tSeq (fun D σ H => to σ H fun x H1 => ∃ a, x = .str a ∧ (c.length == 0) = false ∧ a.length ≤ sizeLine ∧ ∀ p, H1 p = none → gTup X.K n g (.ref p) σ (upd H1 p (.tup [.str (Txt.partition a c).1, .str (Txt.partition a c).2.1, .str (Txt.partition a c).2.2])) D.nx) u) where
  run := fun pins s σ H D I h => by
    have one : wpAny (model X.prog X.w) X.A (eval (.Call (.Attribute o "partition" apos) [.Constant (.str c) j p1] [] cpos) X.env) (fun v s1 => 1 ≤ s1.toks ∧ EP X pins σ (fun v H1 => gTup X.K n g v σ H1 (u D)) v s1) X.xe s := by
      refine PySem.Call_method1 hbase hs hline (wpAny_mono (ho.run pins s σ H _ I h) ?_ fun _ _ z => z)
      rintro v s1 ⟨x, H1, I1, r1, a, rfl, h1, h2, q⟩
      obtain ⟨t, rfl⟩ := r1
      refine ⟨"str", _, PySem.F.plainAttrs_str, PySem.F.slot_str_partition, PySem.F.type_str_partition, typeIs_str _ _ _, (fun _ e => nomatch e), Calls.callWith_builtin rfl (Calls.evalArgs_plain (Calls.spliced_cons (Calls.Constant_str (Calls.spliced_nil ?_))))⟩
      have m := mt_partition (X := X) pins { s1 with toks := s1.toks + 1 } σ H1 (.str a) [.str c] _ _ (fun v H1 => gTup X.K n g v σ H1 (u D)) (I1.tok _) ⟨t, rfl⟩ (.cons ⟨s1.toks, rfl⟩ .nil) ⟨a, c, rfl, rfl, h1, h2, q⟩
      apply wpAny_mono (PySem.wpAny_toks m) _ fun _ _ z => z.2
      rintro v' s2 ⟨k, q'⟩
      exact ⟨Nat.le_trans (Nat.succ_le_succ (Nat.zero_le _)) k, q'⟩
    apply wpAny_execs_cons
    refine wpAny_Assign_stores (wpAny_mono one ?_ fun _ _ z => z) hw1 hw2
    rintro v s1 ⟨k, x, H1, I1, r1, q1⟩
    rw [hx]
    apply wpAny_mono (PySem.wpAny_toks ((pg_tup (pos := tpos) (k := kk) hc hg hn hst).run pins s1 σ H1 x v _ I1 r1 q1)) _ fun _ _ z => z.2
    rintro _ s2 ⟨k2, σ2, H2, I2, q2⟩
    exact h2 pins s2 σ2 H2 D (Nat.le_trans k k2) I2 q2
end
end IK
end
section
set_option Elab.async false
set_option linter.all false
set_option maxRecDepth 100000
set_option maxHeartbeats 4000000
namespace IK
open PySem PySem.Spec PyProof.Rows L2

/-! ### defs of the module under their names -/
section
variable (P : Program) (w : World) (K : PySem.W.Frag) (mg : Str → Option Value) (base : Heap) (CX : CXT)
structure Dn (k : Nat) (x : Str) (ps : List Str) (sp : Sp) : Prop where
  ex : ∃ f fd, mg x = some (.ref f) ∧ PySem.W.keepIn K (.ref f) = true ∧ Binds K fd ps [] ∧ FnOk P w K mg base CX k f fd ps sp
structure DnG (k : Nat) (x : Str) (ps : List Str) (sp : Sp) : Prop where
  ex : ∃ f fd, mg x = some (.ref f) ∧ PySem.W.keepIn K (.ref f) = true ∧ Binds K fd ps [] ∧ FnG P w K mg base CX k f fd ps sp
end
section
variable {X : Cx} {CX : CXT} {k : Nat} {x : Str} {ps : List Str} {sp : Sp} {E : XK} {p pos : Pos} {e : Expr} {es : List Expr} {t : TA}
/-- f(e, ..) -/
def tD (sp : Sp) (E : XK) (t : TA) : TE := fun σ H Q => t σ H fun vs H1 => sp vs H1 Q E
theorem pe_d (D : Dn X.prog X.w X.K X.mg X.base CX k x ps sp) (hr : Room k X.A) (hg : Gl X x) (hx : Passes CX X E) (ha : PA X (e :: es) t) (hdb : (x == ("__debug__" : Str)) = false := by decide)
    (he : starEach (e :: es) X.env = (false, eval e X.env) :: starEach es X.env := by rfl) (hpl : (backTo pos (starEach es X.env)).any (·.1) = false := by rfl) : PE X (.Call (.Name x p) (e :: es) [] pos) (tD sp E t) where
  run := fun pins s σ H Q I h => by
    obtain ⟨f, fd, hm, hk, hb, F⟩ := D.ex
    refine (pe_call F hr hg hm hk hb .nil hx ha hdb he hpl).run pins s σ H Q I ?_
    refine (?_ : t σ H fun vs H1 => sp (vs ++ []) H1 Q E)
    have z : (fun (vs : List V) (H1 : Hp) => sp (vs ++ []) H1 Q E) = fun vs H1 => sp vs H1 Q E := by
      funext vs H1
      rw [List.append_nil]
    rw [z]
    exact h
theorem pe_dG (D : DnG X.prog X.w X.K X.mg X.base CX k x ps sp) (hr : Room k X.A) (gd : X.A.guards = some []) (hg : Gl X x) (hx : Passes CX X E) (ha : PA X (e :: es) t) (hdb : (x == ("__debug__" : Str)) = false := by decide)
    (he : starEach (e :: es) X.env = (false, eval e X.env) :: starEach es X.env := by rfl) (hpl : (backTo pos (starEach es X.env)).any (·.1) = false := by rfl) : PE X (.Call (.Name x p) (e :: es) [] pos) (tD sp E t) where
  run := fun pins s σ H Q I h => by
    obtain ⟨f, fd, hm, hk, hb, F⟩ := D.ex
    exact (pe_callG F hr gd hg hm hk hb hx ha hdb he hpl).run pins s σ H Q I h
end
/-- x in a text, x a text -/
theorem nil_ne : ([] : List V) = [] := rfl
end IK
end
section
set_option Elab.async false
set_option linter.all false
set_option maxRecDepth 100000
set_option maxHeartbeats 4000000
namespace IK
open PySem PySem.Spec PyProof.Rows L2
/-! ### code that is not reached -/
theorem pss_dead {X : Cx} {l : List Stmt} : PSs X l (fun _ _ _ => False) := ⟨fun _ _ _ _ _ _ h => h.elim⟩
theorem ps_dead {X : Cx} {st : Stmt} : PS X st (fun _ _ _ => False) := ⟨fun _ _ _ _ _ _ h => h.elim⟩
theorem pe_dead {X : Cx} {e : Expr} : PE X e (fun _ _ _ => False) := ⟨fun _ _ _ _ _ _ h => h.elim⟩
/-! ### C.m(self, ..), m a def of the class C -/
/-- what is read of the class at C, named x, and its def m at f -/
structure CFn (K : PySem.W.Frag) (mg : Str → Option Value) (x : Str) (C : Addr) (m : Str) (f : Addr) : Prop where
  at_ : mg x = some (.ref C)
  sp : PySem.W.specialIn K (.ref C) "__getattribute__" = some (some (.builtin "type.__getattribute__"))
  rd : PySem.W.readsIn K C (.type "type") = true
  fi : PySem.W.findCls K (.ref C) (.type "type") m = some (.val (.ref f))
  kp : PySem.W.keepIn K (.ref f) = true
section
variable {X : Cx} {CX : CXT} {k : Nat} {x m : Str} {C f : Addr} {fd : FuncData} {ps : List Str} {sp : Sp} {E : XK} {p1 p2 pos : Pos} {e : Expr} {es : List Expr} {ta : TA}
theorem pe_cfn {pl : Sem Bool} (T : CFn X.K X.mg x C m f) (F : FnOk X.prog X.w X.K X.mg X.base CX k f fd ps sp) (hr : Room k X.A) (hb : Binds X.K fd ps []) (hx : Passes CX X E) (hg : Gl X x) (ha : PA X (e :: es) ta) (hdb : (x == ("__debug__" : Str)) = false := by decide)
    (hc : eval (.Call (.Attribute (.Name x p1) m p2) (e :: es) [] pos) X.env = (do
      let ov ← eval (.Name x p1) X.env
      standAt p2.atName
      let (f, first) ← holding [ov] (getMethod ov m pl)
      callWith pos f first (backTo pos (starEach (e :: es) X.env)) (backToKw pos (keywordEach [] X.env))) := by rfl)
    (he : starEach (e :: es) X.env = (false, eval e X.env) :: starEach es X.env := by rfl) (hpl : (backTo pos (starEach es X.env)).any (·.1) = false := by rfl) :
    PE X (.Call (.Attribute (.Name x p1) m p2) (e :: es) [] pos) (tD sp E ta) where
  run := fun pins s σ H Q I h => by
    apply PySem.W.methodCall_KW (ld_glob I hg T.at_ _ hdb) hc
    apply getcls_ok I T.sp T.rd T.fi (by rfl)
    intro s' I'
    show wpAny _ _ (callWith pos (Value.ref f) [] (backTo pos (starEach (e :: es) X.env)) []) _ _ _
    refine PySem.W.callWith_K (h₀ := X.base) I'.ok.mod.kin T.kp (wpAny_mono (ha.run pos pins _ σ H _ I' h) ?_ fun _ _ z => z) he hpl
    rintro us s1 ⟨vs, H1, I1, r, q⟩
    refine ⟨I1.kIn, ?_⟩
    exact run_fn F hr hb .nil hx I1 r (by rw [List.append_nil]; exact q)
end
end IK
end
section
set_option Elab.async false
set_option linter.all false
set_option maxRecDepth 100000
set_option maxHeartbeats 4000000
namespace IK
open PySem PySem.Spec PyProof.Rows L2
/-! ### methods and makers under their names -/
section
variable (P : Program) (w : World) (K : PySem.W.Frag) (mg : Str → Option Value) (base : Heap) (CX : CXT)
/-- m of the class at C keeps its promise -/
structure Me (k : Nat) (C : Addr) (m : Str) (ps : List Str) (sp : Sp) : Prop where
  ex : ∃ f fd, Meth K C m f ∧ Binds K fd ps [] ∧ FnOk P w K mg base CX k f fd ps sp
/-- the class named x, made by its own __init__ -/
structure Ma (k : Nat) (x : Str) (C : Addr) (ps : List Str) (sp : Sp) : Prop where
  ex : ∃ f fd, mg x = some (.ref C) ∧ Mk K C f ∧ Binds K fd ps [] ∧ FnOk P w K mg base CX k f fd ps sp
/-- m of the class at C, called by the class's name x -/
structure Cm (k : Nat) (x : Str) (C : Addr) (m : Str) (ps : List Str) (sp : Sp) : Prop where
  ex : ∃ f fd, CFn K mg x C m f ∧ Binds K fd ps [] ∧ FnOk P w K mg base CX k f fd ps sp
end
section
variable {X : Cx} {CX : CXT} {k : Nat} {C : Addr} {x m : Str} {ps : List Str} {sp : Sp} {E : XK} {p p1 p2 pos apos : Pos} {o e : Expr} {es : List Expr} {t ta : TA} {to : TE}
theorem pe_me {pl : Sem Bool} (D : Me X.prog X.w X.K X.mg X.base CX k C m ps sp) (c : Cls X.K C) (hr : Room k X.A) (hx : Passes CX X E) (he : PE X o to) (ha : PA X (e :: es) t)
    (hst : starEach (e :: es) X.env = (false, eval e X.env) :: starEach es X.env := by rfl) (hpl : (backTo pos (starEach es X.env)).any (·.1) = false := by rfl)
    (ht : eval (.Call (.Attribute o m apos) (e :: es) [] pos) X.env = (do
      let ov ← eval o X.env
      standAt apos.atName
      let (f, first) ← holding [ov] (getMethod ov m pl)
      callWith pos f first (backTo pos (starEach (e :: es) X.env)) (backToKw pos (keywordEach [] X.env))) := by rfl) :
    PE X (.Call (.Attribute o m apos) (e :: es) [] pos) (tMeth C m sp [] E to t) where
  run := fun pins s σ H Q I h => by
    obtain ⟨f, fd, hm, hb, F⟩ := D.ex
    exact (pe_meth he c hm F hr hb .nil hx ha hst hpl ht).run pins s σ H Q I h
theorem pe_me0 {pl : Sem Bool} (D : Me X.prog X.w X.K X.mg X.base CX k C m ps sp) (c : Cls X.K C) (hr : Room k X.A) (hx : Passes CX X E) (he : PE X o to)
    (ht : eval (.Call (.Attribute o m apos) [] [] pos) X.env = (do
      let ov ← eval o X.env
      standAt apos.atName
      let (f, first) ← holding [ov] (getMethod ov m pl)
      callWith pos f first (backTo pos (starEach [] X.env)) (backToKw pos (keywordEach [] X.env))) := by rfl) :
    PE X (.Call (.Attribute o m apos) [] [] pos) (tMeth C m sp [] E to tNil) where
  run := fun pins s σ H Q I h => by
    obtain ⟨f, fd, hm, hb, F⟩ := D.ex
    exact (pe_meth0 he c hm F hr hb .nil hx ht).run pins s σ H Q I h
theorem pe_ma (D : Ma X.prog X.w X.K X.mg X.base CX k x C ps sp) (hr : Room (k + 1) X.A) (hg : Gl X x) (hx : Passes CX X E) (ha : PA X (e :: es) t) (hdb : (x == ("__debug__" : Str)) = false := by decide)
    (he : starEach (e :: es) X.env = (false, eval e X.env) :: starEach es X.env := by rfl) (hpl : (backTo pos (starEach es X.env)).any (·.1) = false := by rfl) :
    PE X (.Call (.Name x p) (e :: es) [] pos) (tMake C sp [] E t) where
  run := fun pins s σ H Q I h => by
    obtain ⟨f, fd, hm, M, hb, F⟩ := D.ex
    exact (pe_make M F hr hg hm hb .nil hx ha hdb he hpl).run pins s σ H Q I h
theorem pe_cm {pl : Sem Bool} (D : Cm X.prog X.w X.K X.mg X.base CX k x C m ps sp) (hr : Room k X.A) (hg : Gl X x) (hx : Passes CX X E) (ha : PA X (e :: es) ta) (hdb : (x == ("__debug__" : Str)) = false := by decide)
    (hc : eval (.Call (.Attribute (.Name x p1) m p2) (e :: es) [] pos) X.env = (do
      let ov ← eval (.Name x p1) X.env
      standAt p2.atName
      let (f, first) ← holding [ov] (getMethod ov m pl)
      callWith pos f first (backTo pos (starEach (e :: es) X.env)) (backToKw pos (keywordEach [] X.env))) := by rfl)
    (he : starEach (e :: es) X.env = (false, eval e X.env) :: starEach es X.env := by rfl) (hpl : (backTo pos (starEach es X.env)).any (·.1) = false := by rfl) :
    PE X (.Call (.Attribute (.Name x p1) m p2) (e :: es) [] pos) (tD sp E ta) where
  run := fun pins s σ H Q I h => by
    obtain ⟨f, fd, T, hb, F⟩ := D.ex
    exact (pe_cfn T F hr hb hx hg ha hdb hc he hpl).run pins s σ H Q I h
end
/-! ### fields by a list of their names -/
theorem put_app {k : Str} {v : V} : ∀ {l : List (Str × V)}, k ∉ l.map (·.1) → putF k v l = l ++ [(k, v)]
  | [], _ => rfl
  | (g, x) :: r, h => by
    have h1 : ¬ g = k := fun z => h (by simp [z])
    have h2 : k ∉ r.map (·.1) := fun z => h (List.mem_cons_of_mem _ z)
    show (if g = k then (g, v) :: r else (g, x) :: putF k v r) = _
    rw [if_neg h1, put_app h2]
    rfl
theorem put_zip {ks : List Str} {vs : List V} {k : Str} {v : V} (hl : ks.length = vs.length) (hk : k ∉ ks) : putF k v (ks.zip vs) = (ks ++ [k]).zip (vs ++ [v]) := by
  rw [put_app (by rw [List.map_fst_zip (Nat.le_of_eq hl)]; exact hk), List.zip_append hl]
  rfl
theorem put_same {k : Str} {v : V} : ∀ {ks : List Str} {vs : List V} {i : Nat}, ks.length = vs.length → ks.Nodup → ks[i]? = some k → putF k v (ks.zip vs) = ks.zip (vs.set i v)
  | [], _, i, _, _, hi => by simp at hi
  | g :: ks, [], i, hl, _, _ => by simp at hl
  | g :: ks, x :: vs, 0, hl, hn, hi => by
    have : g = k := by simpa using hi
    subst this
    show (if g = g then (g, v) :: ks.zip vs else _) = _
    rw [if_pos rfl]
    rfl
  | g :: ks, x :: vs, i + 1, hl, hn, hi => by
    have hi' : ks[i]? = some k := by simpa using hi
    obtain ⟨hg, hn'⟩ := List.nodup_cons.mp hn
    have h1 : ¬ g = k := fun z => hg (z ▸ List.mem_of_getElem? hi')
    show (if g = k then _ else (g, x) :: putF k v (ks.zip vs)) = _
    rw [if_neg h1, put_same (by simpa using hl) hn' hi']
    rfl
theorem look_zip : ∀ {ks : List Str} {vs : List V} {k : Str} {v : V} {i : Nat}, ks.Nodup → ks[i]? = some k → vs[i]? = some v → (ks.zip vs).lookup k = some v
  | [], _, _, _, i, _, hi, _ => by simp at hi
  | g :: ks, [], _, _, i, _, _, hv => by simp at hv
  | g :: ks, x :: vs, k, v, 0, _, hi, hv => by
    have h1 : g = k := by simpa using hi
    have h2 : x = v := by simpa using hv
    subst h1 h2
    show (match g == g with | true => some x | false => _) = _
    rw [beq_self_eq_true]
  | g :: ks, x :: vs, k, v, i + 1, hn, hi, hv => by
    have hi' : ks[i]? = some k := by simpa using hi
    have hv' : vs[i]? = some v := by simpa using hv
    obtain ⟨hg, hn'⟩ := List.nodup_cons.mp hn
    have h1 : (k == g) = false := by
      cases e : k == g with
      | false => rfl
      | true => exact absurd (List.mem_of_getElem? hi') (by rw [eq_of_beq e]; exact hg)
    show (match k == g with | true => some x | false => (ks.zip vs).lookup k) = _
    rw [h1]
    exact look_zip hn' hi' hv'
theorem look_no {k : Str} : ∀ {ks : List Str} {vs : List V}, k ∉ ks → (ks.zip vs).lookup k = none
  | [], _, _ => rfl
  | g :: ks, [], _ => rfl
  | g :: ks, x :: vs, h => by
    have h1 : (k == g) = false := by
      cases e : k == g with
      | false => rfl
      | true => exact absurd (by rw [eq_of_beq e]; exact List.mem_cons_self) h
    show (match k == g with | true => some x | false => (ks.zip vs).lookup k) = _
    rw [h1]
    exact look_no fun z => h (List.mem_cons_of_mem _ z)
end IK
end
section
set_option Elab.async false
set_option linter.all false
set_option maxRecDepth 100000
set_option maxHeartbeats 4000000
namespace IK
open PySem PySem.Spec PyProof.Rows L2
/-! ### repr of a dict: its keys ints and texts, its values data without dicts -/
def keyD : Key → PyData
  | .inl i => .int i
  | .inr x => .str x
def dictD (kvs : List (Key × V)) (ds : List PyData) : PyData := .dict ((kvs.map fun p => keyD p.1).zip ds)
def rReprM (K : PySem.W.Frag) : List V → Hp → VK → Prop := fun xs H Q => ∃ (a : Addr) (kvs : List (Key × V)) (ds : List PyData), xs = [.ref a] ∧ H a = some (.dK kvs) ∧ DpAll K H (kvs.map (·.2)) ds ∧ (dictD kvs ds).showable = true ∧
  PyData.hasDictAll ds = false ∧ (dictD kvs ds).depth ≤ 40 ∧ (dictD kvs ds).shown.length ≤ sizeLine ∧ Q (.str (dictD kvs ds).shown) H
theorem dpAll_len {K : PySem.W.Frag} {H : Hp} : ∀ {vs : List V} {ds : List PyData}, DpAll K H vs ds → vs.length = ds.length
  | [], _, h => by cases h; rfl
  | v :: vs, _, h => by
    cases h with
    | cons h1 h2 => simp [dpAll_len h2]
theorem keys_read {P : Program} {w : World} {h : Heap} : ∀ {es : List DictEntry} {vs : List (Key × Value)} {kvs : List (Key × V)}, PySem.Pairs (mixKind P w) es vs → KV kvs vs → (∃ as, ReadsAll h (es.map (·.key)) (kvs.map fun p => keyD p.1) as) ∧ Vals (kvs.map (·.2)) (es.map (·.val))
  | _, _, _, .nil, .nil => ⟨⟨_, .nil⟩, .nil⟩
  | _, _, _, .cons h1 h2 hr, .cons r1 rr => by
    obtain ⟨⟨as, q1⟩, q2⟩ := keys_read hr rr
    obtain ⟨e1, e2⟩ := r1
    refine ⟨?_, .cons (by show RelV _ _; dsimp only; rw [h2]; exact e2) q2⟩
    rcases keyIs_shape h1 with ⟨i, t, k1, k2⟩ | ⟨x, t, k1, k2⟩
    · refine ⟨_, ReadsAll.cons (as := []) ?_ q1⟩
      dsimp only
      rw [k2, e1, k1]
      exact .int i t
    · refine ⟨_, ReadsAll.cons (as := []) ?_ q1⟩
      dsimp only
      rw [k2, e1, k1]
      exact .str x t
theorem keysD_no : ∀ kvs : List (Key × V), PyData.hasDictAll (kvs.map fun p => keyD p.1) = false
  | [] => by simp [PyData.hasDictAll]
  | (.inl i, v) :: r => by
    rw [List.map_cons, PyData.hasDictAll, keysD_no r]
    simp [keyD, PyData.hasDict]
  | (.inr x, v) :: r => by
    rw [List.map_cons, PyData.hasDictAll, keysD_no r]
    simp [keyD, PyData.hasDict]
theorem call_reprM {X : Cx} (gd : X.A.guards = some []) (hu : X.A.units + 64 < cLine) : CallR X (.builtin "repr") (rReprM X.K) := by
  intro pins s σ H xs us Q I r h
  obtain ⟨a, kvs, ds, rfl, ha, hd, sh, nd, dp, sz, q⟩ := h
  cases r with
  | cons r1 r2 =>
  cases r2
  cases r1
  obtain ⟨_, hsys, vs, kv, o, es, ep, ho, ex, hdat, _, prs, _⟩ := dk_of I.hok ha
  obtain ⟨⟨as, rk⟩, hv⟩ := keys_read (h := s.heap) prs kv
  obtain ⟨bs, rv⟩ := Dp.readsAll I ds _ _ hd hv
  have hl : (kvs.map fun p => keyD p.1).length = ds.length := by rw [← dpAll_len hd]; simp
  have e1 : ((kvs.map fun p => keyD p.1).zip ds).map (·.1) = kvs.map fun p => keyD p.1 := List.map_fst_zip (Nat.le_of_eq hl)
  have e2 : ((kvs.map fun p => keyD p.1).zip ds).map (·.2) = ds := List.map_snd_zip (Nat.le_of_eq hl.symm)
  unfold dictD at sh dp sz q
  rw [← e1] at rk
  rw [← e2] at rv nd
  have nk0 := keysD_no kvs
  rw [← e1] at nk0
  generalize (kvs.map fun p => keyD p.1).zip ds = zs at rk rv nd sh dp sz q nk0
  have nk : PyData.hasDictAll (zs.map (·.1)) = false := nk0
  obtain ⟨sh1, sh2⟩ := PyData.showableKv_split zs (by simpa [PyData.showable] using sh)
  have hz : (dictText (PyData.shownKv zs)).length ≤ sizeLine := by simpa only [PyData.shown] using sz
  obtain ⟨b1, hb1, k1⟩ := ReprAllK.of_readsAll (prog := X.prog) (w := X.w) rk sh1 (fun z => by rw [nk] at z; cases z) fun t ht => by
    obtain ⟨p, hp, hl⟩ := PyData.shownKv_key_le zs t ht
    exact Nat.le_trans hl (Nat.le_trans (dictText_mem_le hp) hz)
  obtain ⟨b2, hb2, k2⟩ := ReprAllK.of_readsAll (prog := X.prog) (w := X.w) rv sh2 (fun z => by rw [nd] at z; cases z) fun t ht => by
    obtain ⟨p, hp, hl⟩ := PyData.shownKv_val_le zs t ht
    exact Nat.le_trans hl (Nat.le_trans (dictText_mem_le hp) hz)
  have R : Reads s.heap (.ref a) (.dict zs) _ := .dict ho ex.1 hdat rk rv
  have hn : a ∉ b1 ++ b2 := not_mem_of_deeper (n := PyData.depthKv zs) R (by simp only [PyData.depth]; omega)
    ((hb1.mono (PyData.depthAll_keys_le zs)).append (hb2.mono (PyData.depthAll_vals_le zs)))
  have dp' : PyData.depthKv zs + 1 ≤ 40 := by simpa only [PyData.depth] using dp
  have E := ReprEntriesK.of_two (as := b1 ++ b2) (d := PyData.depthKv zs) es.toList _ _
    (k1.more_le (fun b hb => List.mem_append_left _ hb) (PyData.depthAll_keys_le zs)) (k2.more_le (fun b hb => List.mem_append_right _ hb) (PyData.depthAll_vals_le zs))
  have q' : Q (.str (dictText (PyData.shownKv zs))) H := by simpa only [PyData.shown] using q
  rw [PyData.shownKv_eq] at q' hz
  refine call_repr_slot (by omega) (⟨o, ho, ex.1⟩ : s.TypeIs (.ref a) "dict") F.slot_dict_repr ?_
  refine call_dict_reprK ho ex.1 hdat hsys hn E gd (fun b _ => Clear.nil b) (by show X.A.units + 1 + (_ + 1) < cLine; omega) (fun b o e => e) (fun h' u tk hk => ?_) hz
  exact ⟨_, _, rfl, .str _, H, I.kept (t' := tk) hk, ⟨u, rfl⟩, q'⟩
end IK
end
section
set_option Elab.async false
set_option linter.all false
set_option maxRecDepth 100000
set_option maxHeartbeats 4000000
namespace IK
open PySem PySem.Spec PyProof.Rows L2
/-! ### a list or a tuple -/
def SqA (K : PySem.W.Frag) (H : Hp) (a : Addr) (xs : List V) : Prop := SqL K H a xs ∨ SqT K H a xs
theorem SqA.l {K : PySem.W.Frag} {H : Hp} {a : Addr} {xs : List V} (h : H a = some (.lst xs)) : SqA K H a xs := .inl (.inl (.inl h))
theorem SqA.t {K : PySem.W.Frag} {H : Hp} {a : Addr} {xs : List V} (h : H a = some (.tup xs)) : SqA K H a xs := .inr (.inl (.inl h))
theorem rd_same {H H' : Hp} {a : Addr} {u : HO} (s : Same H H') (h : Rd H a u) : Rd H' a u := by
  rcases h with h | ⟨o, h⟩
  · exact .inl (s _ _ h)
  · exact .inr ⟨o, s _ _ h⟩
theorem sqT_same {K : PySem.W.Frag} {H H' : Hp} {a : Addr} {xs : List V} (s : Same H H') (h : SqT K H a xs) : SqT K H' a xs := by
  rcases h with h | h
  · exact .inl (rd_same s h)
  · exact .inr h
theorem sqL_same {K : PySem.W.Frag} {H H' : Hp} {a : Addr} {xs : List V} (s : Same H H') (h : SqL K H a xs) : SqL K H' a xs := by
  rcases h with h | h
  · exact .inl (rd_same s h)
  · exact .inr h
theorem SqA.same {K : PySem.W.Frag} {H H' : Hp} {a : Addr} {xs : List V} (h : SqA K H a xs) (s : Same H H') : SqA K H' a xs := by
  rcases h with h | h
  · exact .inl (sqL_same s h)
  · exact .inr (sqT_same s h)
def iSeq (K : PySem.W.Frag) (tl : TE) : TI := fun σ H R => tl σ H fun x H1 => ∃ a, x = .ref a ∧ (((∃ xs, SqL K H1 a xs) ∧ R (Itl K a) H1) ∨ ((∃ xs, SqT K H1 a xs) ∧ R (Itt K a) H1))
theorem pi_seq {X : Cx} {tg l : Expr} {tl : TE} (hl : PE X l tl) : PI X tg l (iSeq X.K tl) := ⟨fun pins s σ H R I h => by
  refine thn (hl.run pins s σ H _ I h) fun v s2 z => ?_
  obtain ⟨x, H2, I2, r2, a, rfl, q⟩ := z
  cases r2
  have I3 : Inv X pins σ H2 _ := I2
  rcases q with ⟨⟨xs, hq⟩, q⟩ | ⟨⟨xs, hq⟩, q⟩
  · obtain ⟨its, _, p, _⟩ := I2.list hq
    refine wpAny_pyIter_list p.isList ⟨_, [s2.heap.objs.size], _, _, H2, rfl, I2.kept (t' := s2.toks) fun b o e => Heap.get?_push_of_some _ e, turn_list a _, ⟨_, Heap.get?_push_size _ rfl, rfl, rfl⟩, fun b hb => ?_, q⟩
    obtain rfl := List.mem_singleton.mp hb
    exact I3.fpOk (Nat.le_refl _) (I3.hok.fresh (Nat.le_refl _))
  · obtain ⟨its, _, p, _⟩ := I2.tuple hq
    refine wpAny_pyIter_tuple (show s2.heap.IsTuple a its.toArray from p) ⟨_, [s2.heap.objs.size], _, _, H2, rfl, I2.kept (t' := s2.toks) fun b o e => Heap.get?_push_of_some _ e, turn_tuple a _, ⟨_, Heap.get?_push_size _ rfl, rfl, rfl⟩, fun b hb => ?_, q⟩
    obtain rfl := List.mem_singleton.mp hb
    exact I3.fpOk (Nat.le_refl _) (I3.hok.fresh (Nat.le_refl _))⟩
/-- what stands at a is as it was -/
def Kp (K : PySem.W.Frag) (a : Addr) (H H' : Hp) : Prop := ∀ xs, (SqL K H a xs → SqL K H' a xs) ∧ (SqT K H a xs → SqT K H' a xs)
theorem Same.kp {K : PySem.W.Frag} {a : Addr} {H H' : Hp} (s : Same H H') : Kp K a H H' := fun xs => ⟨sqL_same s, sqT_same s⟩
section
variable {K : PySem.W.Frag} {a : Addr} {xs : List V}
theorem for_seq {g : TG} {tb : TS} {D : Ends} {σ : L2.St} {H : Hp} (hq : SqA K H a xs) (Pv : Nat → L2.St → Hp → Prop) (h0 : Pv 0 σ H) (hG : ∀ i σ H', Pv i σ H' → Kp K a H H')
    (hs : ∀ i x σ H, xs[i]? = some x → Pv i σ H → g x σ H fun σ2 H2 => tb { D with nx := Pv (i + 1), ct := Pv (i + 1), bk := D.nx } σ2 H2) (hd : ∀ σ H, Pv xs.length σ H → D.nx σ H) :
    ((∃ xs, SqL K H a xs) ∧ ∃ W : Nat → Nat → L2.St → Hp → Prop, (∃ m, W 0 m σ H) ∧ ∀ i m σ H, W i m σ H →
      (((Itl K a)).stop i H ∧ D.nx σ H) ∨ ((Itl K a).go i H ∧ ∃ N : L2.St → Hp → Prop, (∀ σ' H', N σ' H' → ∃ m', m' < m ∧ W (i + 1) m' σ' H') ∧ ∀ x H', (Itl K a).yld i H x H' → g x σ H' fun σ2 H2 => tb { D with nx := N, ct := N, bk := D.nx } σ2 H2)) ∨
    ((∃ xs, SqT K H a xs) ∧ ∃ W : Nat → Nat → L2.St → Hp → Prop, (∃ m, W 0 m σ H) ∧ ∀ i m σ H, W i m σ H →
      (((Itt K a)).stop i H ∧ D.nx σ H) ∨ ((Itt K a).go i H ∧ ∃ N : L2.St → Hp → Prop, (∀ σ' H', N σ' H' → ∃ m', m' < m ∧ W (i + 1) m' σ' H') ∧ ∀ x H', (Itt K a).yld i H x H' → g x σ H' fun σ2 H2 => tb { D with nx := N, ct := N, bk := D.nx } σ2 H2)) := by
  rcases hq with hq | hq
  · refine .inl ⟨⟨xs, hq⟩, for_it (walk_list (xs := xs)) Pv h0 (fun i σ H' _ p => (hG i σ H' p xs).1 hq) (fun i x σ H1 H2 hi p y => ?_) hd⟩
    obtain ⟨e, y⟩ := y
    exact e ▸ hs i x σ _ y p
  · refine .inr ⟨⟨xs, hq⟩, for_it (walk_tup (xs := xs)) Pv h0 (fun i σ H' _ p => (hG i σ H' p xs).2 hq) (fun i x σ H1 H2 hi p y => ?_) hd⟩
    obtain ⟨e, y⟩ := y
    exact e ▸ hs i x σ _ y p
theorem lc_seq {g : TG} {tt : TT} {te : TE} {vs : List Nat} {σ : L2.St} {H1 : Hp} {Qd : Addr → Hp → Prop} (hq : SqA K H1 a xs) (Pv : Addr → Nat → Hp → Prop)
    (h : ∀ D, H1 D = none → Pv D 0 (upd H1 D (.lst [])) ∧ (∀ i H, Pv D i H → Kp K a H1 H) ∧
    (∀ i x H, xs[i]? = some x → Pv D i H → g x (wipe σ vs) H fun σ2 H2 => wipe σ2 vs = wipe σ vs ∧ tt σ2 H2 fun b H3 =>
      if b = true then te σ2 H3 fun y H4 => ∃ acc, H4 D = some (.lst acc) ∧ acc.length < sizeLine ∧ Pv D (i + 1) (upd H4 D (.lst (acc ++ [y]))) else Pv D (i + 1) H3) ∧ (∀ H, Pv D xs.length H → Qd D H)) :
    ((∃ xs, SqL K H1 a xs) ∧ ∀ D, H1 D = none → ∃ W : Nat → Nat → Hp → Prop, (∃ m, W 0 m (upd H1 D (.lst []))) ∧ ∀ i m H, W i m H →
      ((Itl K a).stop i H ∧ Qd D H) ∨ ((Itl K a).go i H ∧ ∃ Nx : Hp → Prop, (∀ H', Nx H' → ∃ m', m' < m ∧ W (i + 1) m' H') ∧ ∀ x H', (Itl K a).yld i H x H' → g x (wipe σ vs) H' fun σ2 H2 => wipe σ2 vs = wipe σ vs ∧ tt σ2 H2 fun b H3 =>
        if b = true then te σ2 H3 fun y H4 => ∃ acc, H4 D = some (.lst acc) ∧ acc.length < sizeLine ∧ Nx (upd H4 D (.lst (acc ++ [y]))) else Nx H3)) ∨
    ((∃ xs, SqT K H1 a xs) ∧ ∀ D, H1 D = none → ∃ W : Nat → Nat → Hp → Prop, (∃ m, W 0 m (upd H1 D (.lst []))) ∧ ∀ i m H, W i m H →
      ((Itt K a).stop i H ∧ Qd D H) ∨ ((Itt K a).go i H ∧ ∃ Nx : Hp → Prop, (∀ H', Nx H' → ∃ m', m' < m ∧ W (i + 1) m' H') ∧ ∀ x H', (Itt K a).yld i H x H' → g x (wipe σ vs) H' fun σ2 H2 => wipe σ2 vs = wipe σ vs ∧ tt σ2 H2 fun b H3 =>
        if b = true then te σ2 H3 fun y H4 => ∃ acc, H4 D = some (.lst acc) ∧ acc.length < sizeLine ∧ Nx (upd H4 D (.lst (acc ++ [y]))) else Nx H3)) := by
  rcases hq with hq | hq
  · refine .inl ⟨⟨xs, hq⟩, fun D hD => ?_⟩
    obtain ⟨h0, hG, hs, hd⟩ := h D hD
    exact lc_it (walk_list (xs := xs)) (Pv D) h0 (fun i H' _ p => (hG i H' p xs).1 hq) (fun i x H1 H2 hi p ⟨e, y⟩ => e ▸ hs i x _ y p) hd
  · refine .inr ⟨⟨xs, hq⟩, fun D hD => ?_⟩
    obtain ⟨h0, hG, hs, hd⟩ := h D hD
    exact lc_it (walk_tup (xs := xs)) (Pv D) h0 (fun i H' _ p => (hG i H' p xs).2 hq) (fun i x H1 H2 hi p ⟨e, y⟩ => e ▸ hs i x _ y p) hd
end
end IK
end
section
set_option Elab.async false
set_option linter.all false
set_option maxRecDepth 100000
set_option maxHeartbeats 4000000
namespace Law
open PySem PySem.Spec PyProof.Rows L2 IK
/-! ### the text by places -/
def topS (i : Nat) : Stmt := PySem.Challenge.pw_iceopened_k75_later.main.body.getD i (.Pass ⟨0, 0, 0, 0⟩)
abbrev s__wall : Stmt := topS 0
theorem sc__wall : FnScope ["k"] ["k"] (defScope s__wall) := ⟨rfl, rfl, rfl, by decide +kernel, rfl, by decide +kernel, by decide +kernel⟩
-- k:0
abbrev s_NoName___init__ : Stmt := inClass (topS 3) 0
theorem sc_NoName___init__ : FnScope ["self", "found"] ["self", "found"] (defScope s_NoName___init__) := ⟨rfl, rfl, rfl, by decide +kernel, rfl, by decide +kernel, by decide +kernel⟩
-- self:0 found:1
abbrev s_NoNumber___init__ : Stmt := inClass (topS 4) 0
theorem sc_NoNumber___init__ : FnScope ["self", "found"] ["self", "found"] (defScope s_NoNumber___init__) := ⟨rfl, rfl, rfl, by decide +kernel, rfl, by decide +kernel, by decide +kernel⟩
-- self:0 found:1
abbrev s_NoPort___init__ : Stmt := inClass (topS 5) 0
theorem sc_NoPort___init__ : FnScope ["self", "found"] ["self", "found"] (defScope s_NoPort___init__) := ⟨rfl, rfl, rfl, by decide +kernel, rfl, by decide +kernel, by decide +kernel⟩
-- self:0 found:1
abbrev s_NoChannel___init__ : Stmt := inClass (topS 6) 0
theorem sc_NoChannel___init__ : FnScope ["self", "found"] ["self", "found"] (defScope s_NoChannel___init__) := ⟨rfl, rfl, rfl, by decide +kernel, rfl, by decide +kernel, by decide +kernel⟩
-- self:0 found:1
abbrev s_NoVessel___init__ : Stmt := inClass (topS 7) 0
theorem sc_NoVessel___init__ : FnScope ["self", "found"] ["self", "found"] (defScope s_NoVessel___init__) := ⟨rfl, rfl, rfl, by decide +kernel, rfl, by decide +kernel, by decide +kernel⟩
-- self:0 found:1
abbrev s_NoWorld___init__ : Stmt := inClass (topS 8) 0
theorem sc_NoWorld___init__ : FnScope ["self", "found"] ["self", "found"] (defScope s_NoWorld___init__) := ⟨rfl, rfl, rfl, by decide +kernel, rfl, by decide +kernel, by decide +kernel⟩
-- self:0 found:1
abbrev s_NoTable___init__ : Stmt := inClass (topS 9) 0
theorem sc_NoTable___init__ : FnScope ["self", "found"] ["self", "found"] (defScope s_NoTable___init__) := ⟨rfl, rfl, rfl, by decide +kernel, rfl, by decide +kernel, by decide +kernel⟩
-- self:0 found:1
abbrev s_Doubled___init__ : Stmt := inClass (topS 10) 0
theorem sc_Doubled___init__ : FnScope ["self", "name"] ["self", "name"] (defScope s_Doubled___init__) := ⟨rfl, rfl, rfl, by decide +kernel, rfl, by decide +kernel, by decide +kernel⟩
-- self:0 name:1
abbrev s_is_whole : Stmt := topS 14
theorem sc_is_whole : FnScope ["thing"] ["thing"] (defScope s_is_whole) := ⟨rfl, rfl, rfl, by decide +kernel, rfl, by decide +kernel, by decide +kernel⟩
-- thing:0
abbrev s_is_within : Stmt := topS 15
theorem sc_is_within : FnScope ["thing", "low", "high"] ["thing", "low", "high"] (defScope s_is_within) := ⟨rfl, rfl, rfl, by decide +kernel, rfl, by decide +kernel, by decide +kernel⟩
-- thing:0 low:1 high:2
abbrev s_is_name : Stmt := topS 16
theorem sc_is_name : FnScope ["thing", "sign"] ["thing"] (defScope s_is_name) := ⟨rfl, rfl, rfl, by decide +kernel, rfl, by decide +kernel, by decide +kernel⟩
-- thing:0 sign:1
abbrev s_is_entry : Stmt := topS 19
theorem sc_is_entry : FnScope ["begin", "channels", "thing"] ["begin", "channels", "thing"] (defScope s_is_entry) := ⟨rfl, rfl, rfl, by decide +kernel, rfl, by decide +kernel, by decide +kernel⟩
-- begin:0 channels:1 thing:2
abbrev s_are_entries : Stmt := topS 20
theorem sc_are_entries : FnScope ["begin", "channels", "thing", "ahead", "entry"] ["begin", "channels", "thing"] (defScope s_are_entries) := ⟨rfl, rfl, rfl, by decide +kernel, rfl, by decide +kernel, by decide +kernel⟩
-- begin:0 channels:1 thing:2 ahead:3 entry:4
abbrev s_is_table : Stmt := topS 21
theorem sc_is_table : FnScope ["world", "thing", "names", "channels", "name", "entries", "vessel", "channel"] ["world", "thing"] (defScope s_is_table) := ⟨rfl, rfl, rfl, by decide +kernel, rfl, by decide +kernel, by decide +kernel⟩
-- world:0 thing:1 names:2 channels:3 name:4 entries:5 vessel:6 channel:7
abbrev s_table_told : Stmt := topS 22
theorem sc_table_told : FnScope ["world", "table", "found", "vessel", "entries"] ["world", "table"] (defScope s_table_told) := ⟨rfl, rfl, rfl, by decide +kernel, rfl, by decide +kernel, by decide +kernel⟩
-- world:0 table:1 found:2 vessel:3 entries:4
abbrev s_need_names : Stmt := topS 29
theorem sc_need_names : FnScope ["things", "thing"] ["things"] (defScope s_need_names) := ⟨rfl, rfl, rfl, by decide +kernel, rfl, by decide +kernel, by decide +kernel⟩
-- things:0 thing:1
abbrev s_need_numbers : Stmt := topS 30
theorem sc_need_numbers : FnScope ["rows", "thing", "low", "high"] ["rows"] (defScope s_need_numbers) := ⟨rfl, rfl, rfl, by decide +kernel, rfl, by decide +kernel, by decide +kernel⟩
-- rows:0 thing:1 low:2 high:3
abbrev s_Channel___init__ : Stmt := inClass (topS 31) 0
theorem sc_Channel___init__ : FnScope ["self", "name", "one", "other", "hours", "depth", "first", "growth", "most"] ["self", "name", "one", "other", "hours", "depth", "first", "growth", "most"] (defScope s_Channel___init__) := ⟨rfl, rfl, rfl, by decide +kernel, rfl, by decide +kernel, by decide +kernel⟩
-- self:0 name:1 one:2 other:3 hours:4 depth:5 first:6 growth:7 most:8
abbrev s_Channel_ends : Stmt := inClass (topS 31) 1
theorem sc_Channel_ends : FnScope ["self"] ["self"] (defScope s_Channel_ends) := ⟨rfl, rfl, rfl, by decide +kernel, rfl, by decide +kernel, by decide +kernel⟩
-- self:0
abbrev s_Channel_beyond : Stmt := inClass (topS 31) 2
theorem sc_Channel_beyond : FnScope ["self", "port"] ["self", "port"] (defScope s_Channel_beyond) := ⟨rfl, rfl, rfl, by decide +kernel, rfl, by decide +kernel, by decide +kernel⟩
-- self:0 port:1
abbrev s_Channel_row : Stmt := inClass (topS 31) 3
theorem sc_Channel_row : FnScope ["self"] ["self"] (defScope s_Channel_row) := ⟨rfl, rfl, rfl, by decide +kernel, rfl, by decide +kernel, by decide +kernel⟩
-- self:0
abbrev s_Vessel___init__ : Stmt := inClass (topS 32) 0
theorem sc_Vessel___init__ : FnScope ["self", "name", "port", "hour", "strength", "draught"] ["self", "name", "port", "hour", "strength", "draught"] (defScope s_Vessel___init__) := ⟨rfl, rfl, rfl, by decide +kernel, rfl, by decide +kernel, by decide +kernel⟩
-- self:0 name:1 port:2 hour:3 strength:4 draught:5
abbrev s_Vessel_settle : Stmt := inClass (topS 32) 1
theorem sc_Vessel_settle : FnScope ["self", "name", "port", "hour", "strength", "draught"] ["self", "name", "port", "hour", "strength", "draught"] (defScope s_Vessel_settle) := ⟨rfl, rfl, rfl, by decide +kernel, rfl, by decide +kernel, by decide +kernel⟩
-- self:0 name:1 port:2 hour:3 strength:4 draught:5
abbrev s_Vessel_kind : Stmt := inClass (topS 32) 2
theorem sc_Vessel_kind : FnScope ["self"] ["self"] (defScope s_Vessel_kind) := ⟨rfl, rfl, rfl, by decide +kernel, rfl, by decide +kernel, by decide +kernel⟩
-- self:0
abbrev s_Vessel_thins : Stmt := inClass (topS 32) 3
theorem sc_Vessel_thins : FnScope ["self"] ["self"] (defScope s_Vessel_thins) := ⟨rfl, rfl, rfl, by decide +kernel, rfl, by decide +kernel, by decide +kernel⟩
-- self:0
abbrev s_Vessel_lets : Stmt := inClass (topS 32) 4
theorem sc_Vessel_lets : FnScope ["self", "channel"] ["self", "channel"] (defScope s_Vessel_lets) := ⟨rfl, rfl, rfl, by decide +kernel, rfl, by decide +kernel, by decide +kernel⟩
-- self:0 channel:1
abbrev s_Vessel_row : Stmt := inClass (topS 32) 5
theorem sc_Vessel_row : FnScope ["self"] ["self"] (defScope s_Vessel_row) := ⟨rfl, rfl, rfl, by decide +kernel, rfl, by decide +kernel, by decide +kernel⟩
-- self:0
abbrev s_Breaker___init__ : Stmt := inClass (topS 33) 0
theorem sc_Breaker___init__ : FnScope ["self", "name", "port", "hour", "strength", "draught", "cut"] ["self", "name", "port", "hour", "strength", "draught", "cut"] (defScope s_Breaker___init__) := ⟨rfl, rfl, rfl, by decide +kernel, rfl, by decide +kernel, by decide +kernel⟩
-- self:0 name:1 port:2 hour:3 strength:4 draught:5 cut:6
abbrev s_Breaker_kind : Stmt := inClass (topS 33) 1
theorem sc_Breaker_kind : FnScope ["self"] ["self"] (defScope s_Breaker_kind) := ⟨rfl, rfl, rfl, by decide +kernel, rfl, by decide +kernel, by decide +kernel⟩
-- self:0
abbrev s_Breaker_thins : Stmt := inClass (topS 33) 2
theorem sc_Breaker_thins : FnScope ["self"] ["self"] (defScope s_Breaker_thins) := ⟨rfl, rfl, rfl, by decide +kernel, rfl, by decide +kernel, by decide +kernel⟩
-- self:0
abbrev s_Breaker_row : Stmt := inClass (topS 33) 3
theorem sc_Breaker_row : FnScope ["self"] ["self"] (defScope s_Breaker_row) := ⟨rfl, rfl, rfl, by decide +kernel, rfl, by decide +kernel, by decide +kernel⟩
-- self:0
abbrev s_Ship___init__ : Stmt := inClass (topS 34) 0
theorem sc_Ship___init__ : FnScope ["self", "name", "port", "goal", "hour", "strength", "draught"] ["self", "name", "port", "goal", "hour", "strength", "draught"] (defScope s_Ship___init__) := ⟨rfl, rfl, rfl, by decide +kernel, rfl, by decide +kernel, by decide +kernel⟩
-- self:0 name:1 port:2 goal:3 hour:4 strength:5 draught:6
abbrev s_Ship_kind : Stmt := inClass (topS 34) 1
theorem sc_Ship_kind : FnScope ["self"] ["self"] (defScope s_Ship_kind) := ⟨rfl, rfl, rfl, by decide +kernel, rfl, by decide +kernel, by decide +kernel⟩
-- self:0
abbrev s_Ship_row : Stmt := inClass (topS 34) 2
theorem sc_Ship_row : FnScope ["self"] ["self"] (defScope s_Ship_row) := ⟨rfl, rfl, rfl, by decide +kernel, rfl, by decide +kernel, by decide +kernel⟩
-- self:0
abbrev s_is_list : Stmt := topS 41
theorem sc_is_list : FnScope ["thing", "low", "high"] ["thing", "low", "high"] (defScope s_is_list) := ⟨rfl, rfl, rfl, by decide +kernel, rfl, by decide +kernel, by decide +kernel⟩
-- thing:0 low:1 high:2
abbrev s_need_kinds : Stmt := topS 42
theorem sc_need_kinds : FnScope ["ports", "channels", "breakers", "ships", "port", "one"] ["ports", "channels", "breakers", "ships"] (defScope s_need_kinds) := ⟨rfl, rfl, rfl, by decide +kernel, rfl, by decide +kernel, by decide +kernel⟩
-- ports:0 channels:1 breakers:2 ships:3 port:4 one:5
abbrev s_need_unlike : Stmt := topS 43
theorem sc_need_unlike : FnScope ["names", "known", "name"] ["names"] (defScope s_need_unlike) := ⟨rfl, rfl, rfl, by decide +kernel, rfl, by decide +kernel, by decide +kernel⟩
-- names:0 known:1 name:2
abbrev s_need_ports : Stmt := topS 44
theorem sc_need_ports : FnScope ["names", "ports", "name"] ["names", "ports"] (defScope s_need_ports) := ⟨rfl, rfl, rfl, by decide +kernel, rfl, by decide +kernel, by decide +kernel⟩
-- names:0 ports:1 name:2
abbrev s_World___init__ : Stmt := inClass (topS 45) 0
theorem sc_World___init__ : FnScope ["self", "begin", "ports", "channels", "breakers", "ships", "channel", "ship", "vessel", "breaker"] ["self", "begin", "ports", "channels", "breakers", "ships"] (defScope s_World___init__) := ⟨rfl, rfl, rfl, by decide +kernel, rfl, by decide +kernel, by decide +kernel⟩
-- self:0 begin:1 ports:2 channels:3 breakers:4 ships:5 channel:6 ship:7 vessel:8 breaker:9
abbrev s_World_begin_hour : Stmt := inClass (topS 45) 1
theorem sc_World_begin_hour : FnScope ["self"] ["self"] (defScope s_World_begin_hour) := ⟨rfl, rfl, rfl, by decide +kernel, rfl, by decide +kernel, by decide +kernel⟩
-- self:0
abbrev s_World_ports : Stmt := inClass (topS 45) 2
theorem sc_World_ports : FnScope ["self"] ["self"] (defScope s_World_ports) := ⟨rfl, rfl, rfl, by decide +kernel, rfl, by decide +kernel, by decide +kernel⟩
-- self:0
abbrev s_World_channels : Stmt := inClass (topS 45) 3
theorem sc_World_channels : FnScope ["self"] ["self"] (defScope s_World_channels) := ⟨rfl, rfl, rfl, by decide +kernel, rfl, by decide +kernel, by decide +kernel⟩
-- self:0
abbrev s_World_breakers : Stmt := inClass (topS 45) 4
theorem sc_World_breakers : FnScope ["self"] ["self"] (defScope s_World_breakers) := ⟨rfl, rfl, rfl, by decide +kernel, rfl, by decide +kernel, by decide +kernel⟩
-- self:0
abbrev s_World_ships : Stmt := inClass (topS 45) 5
theorem sc_World_ships : FnScope ["self"] ["self"] (defScope s_World_ships) := ⟨rfl, rfl, rfl, by decide +kernel, rfl, by decide +kernel, by decide +kernel⟩
-- self:0
abbrev s_World_vessels : Stmt := inClass (topS 45) 6
theorem sc_World_vessels : FnScope ["self"] ["self"] (defScope s_World_vessels) := ⟨rfl, rfl, rfl, by decide +kernel, rfl, by decide +kernel, by decide +kernel⟩
-- self:0
abbrev s_World_channel : Stmt := inClass (topS 45) 7
theorem sc_World_channel : FnScope ["self", "name", "channel"] ["self", "name"] (defScope s_World_channel) := ⟨rfl, rfl, rfl, by decide +kernel, rfl, by decide +kernel, by decide +kernel⟩
-- self:0 name:1 channel:2
abbrev s_World_vessel : Stmt := inClass (topS 45) 8
theorem sc_World_vessel : FnScope ["self", "name", "vessel"] ["self", "name"] (defScope s_World_vessel) := ⟨rfl, rfl, rfl, by decide +kernel, rfl, by decide +kernel, by decide +kernel⟩
-- self:0 name:1 vessel:2
abbrev s_World_is_port : Stmt := inClass (topS 45) 9
theorem sc_World_is_port : FnScope ["self", "thing"] ["self", "thing"] (defScope s_World_is_port) := ⟨rfl, rfl, rfl, by decide +kernel, rfl, by decide +kernel, by decide +kernel⟩
-- self:0 thing:1
abbrev s_World_channels_at : Stmt := inClass (topS 45) 10
theorem sc_World_channels_at : FnScope ["self", "port"] ["self", "port"] (defScope s_World_channels_at) := ⟨rfl, rfl, rfl, by decide +kernel, rfl, by decide +kernel, by decide +kernel⟩
-- self:0 port:1
abbrev s_World_from_hour : Stmt := inClass (topS 45) 11
theorem sc_World_from_hour : FnScope ["self", "vessel"] ["self", "vessel"] (defScope s_World_from_hour) := ⟨rfl, rfl, rfl, by decide +kernel, rfl, by decide +kernel, by decide +kernel⟩
-- self:0 vessel:1
abbrev s_World_told : Stmt := inClass (topS 45) 12
theorem sc_World_told : FnScope ["self", "channels", "breakers", "ships", "channel", "breaker", "ship"] ["self"] (defScope s_World_told) := ⟨rfl, rfl, rfl, by decide +kernel, rfl, by decide +kernel, by decide +kernel⟩
-- self:0 channels:1 breakers:2 ships:3 channel:4 breaker:5 ship:6
abbrev s_channel_anew : Stmt := topS 47
theorem sc_channel_anew : FnScope ["row"] ["row"] (defScope s_channel_anew) := ⟨rfl, rfl, rfl, by decide +kernel, rfl, by decide +kernel, by decide +kernel⟩
-- row:0
abbrev s_breaker_anew : Stmt := topS 48
theorem sc_breaker_anew : FnScope ["row"] ["row"] (defScope s_breaker_anew) := ⟨rfl, rfl, rfl, by decide +kernel, rfl, by decide +kernel, by decide +kernel⟩
-- row:0
abbrev s_ship_anew : Stmt := topS 49
theorem sc_ship_anew : FnScope ["row"] ["row"] (defScope s_ship_anew) := ⟨rfl, rfl, rfl, by decide +kernel, rfl, by decide +kernel, by decide +kernel⟩
-- row:0
abbrev s_world_anew : Stmt := topS 50
theorem sc_world_anew : FnScope ["told", "begin", "ports", "channels", "breakers", "ships", "made", "row"] ["told"] (defScope s_world_anew) := ⟨rfl, rfl, rfl, by decide +kernel, rfl, by decide +kernel, by decide +kernel⟩
-- told:0 begin:1 ports:2 channels:3 breakers:4 ships:5 made:6 row:7
abbrev s_later_world : Stmt := topS 51
theorem sc_later_world : FnScope ["world", "many", "begin", "ports", "channels", "breakers", "ships", "hours", "row"] ["world", "many"] (defScope s_later_world) := ⟨rfl, rfl, rfl, by decide +kernel, rfl, by decide +kernel, by decide +kernel⟩
-- world:0 many:1 begin:2 ports:3 channels:4 breakers:5 ships:6 hours:7 row:8
abbrev s_later_table : Stmt := topS 52
theorem sc_later_table : FnScope ["world", "table", "many", "own", "found", "name", "entries", "hour", "channel"] ["world", "table", "many"] (defScope s_later_table) := ⟨rfl, rfl, rfl, by decide +kernel, rfl, by decide +kernel, by decide +kernel⟩
-- world:0 table:1 many:2 own:3 found:4 name:5 entries:6 hour:7 channel:8
abbrev s__law_cell : Stmt := topS 54
theorem sc__law_cell : FnScope ["_law_script", "_law_k"] ["_law_script", "_law_k"] (defScope s__law_cell) := ⟨rfl, rfl, rfl, by decide +kernel, rfl, by decide +kernel, by decide +kernel⟩
-- _law_script:0 _law_k:1
abbrev s__law_box : Stmt := topS 55
theorem sc__law_box : FnScope ["_law_cell_here"] ["_law_cell_here"] (defScope s__law_box) := ⟨rfl, rfl, rfl, by decide +kernel, rfl, by decide +kernel, by decide +kernel⟩
-- _law_cell_here:0
abbrev s__law_take : Stmt := topS 56
theorem sc__law_take : FnScope ["_law_box_here", "_law_many", "_law_digit", "_law_one", "_law_other"] ["_law_box_here", "_law_many"] (defScope s__law_take) := ⟨rfl, rfl, rfl, by decide +kernel, rfl, by decide +kernel, by decide +kernel⟩
-- _law_box_here:0 _law_many:1 _law_digit:2 _law_one:3 _law_other:4
abbrev s__law_names : Stmt := topS 57
theorem sc__law_names : FnScope ["_law_box_here", "_law_many", "_law_letters", "_law_way", "_law_first", "_law_step", "_law_words", "_law_stem", "_law_found", "_law_at", "_law_long", "_law_k"] ["_law_box_here", "_law_many"] (defScope s__law_names) := ⟨rfl, rfl, rfl, by decide +kernel, rfl, by decide +kernel, by decide +kernel⟩
-- _law_box_here:0 _law_many:1 _law_letters:2 _law_way:3 _law_first:4 _law_step:5 _law_words:6 _law_stem:7 _law_found:8 _law_at:9 _law_long:10 _law_k:11
abbrev s__law_number : Stmt := topS 58
theorem sc__law_number : FnScope ["_law_box_here", "_law_low", "_law_high", "_law_way", "_law_number_here"] ["_law_box_here", "_law_low", "_law_high"] (defScope s__law_number) := ⟨rfl, rfl, rfl, by decide +kernel, rfl, by decide +kernel, by decide +kernel⟩
-- _law_box_here:0 _law_low:1 _law_high:2 _law_way:3 _law_number_here:4
abbrev s__law_channel : Stmt := topS 59
theorem sc__law_channel : FnScope ["_law_box_here", "_law_name", "_law_ports", "_law_at", "_law_other", "_law_first", "_law_row"] ["_law_box_here", "_law_name", "_law_ports"] (defScope s__law_channel) := ⟨rfl, rfl, rfl, by decide +kernel, rfl, by decide +kernel, by decide +kernel⟩
-- _law_box_here:0 _law_name:1 _law_ports:2 _law_at:3 _law_other:4 _law_first:5 _law_row:6
abbrev s__law_breaker : Stmt := topS 60
theorem sc__law_breaker : FnScope ["_law_box_here", "_law_name", "_law_ports", "_law_row"] ["_law_box_here", "_law_name", "_law_ports"] (defScope s__law_breaker) := ⟨rfl, rfl, rfl, by decide +kernel, rfl, by decide +kernel, by decide +kernel⟩
-- _law_box_here:0 _law_name:1 _law_ports:2 _law_row:3
abbrev s__law_ship : Stmt := topS 61
theorem sc__law_ship : FnScope ["_law_box_here", "_law_name", "_law_ports", "_law_row"] ["_law_box_here", "_law_name", "_law_ports"] (defScope s__law_ship) := ⟨rfl, rfl, rfl, by decide +kernel, rfl, by decide +kernel, by decide +kernel⟩
-- _law_box_here:0 _law_name:1 _law_ports:2 _law_row:3
abbrev s__law_world : Stmt := topS 62
theorem sc__law_world : FnScope ["_law_box_here", "_law_sizes", "_law_ports", "_law_channels", "_law_vessels", "_law_rows", "_law_breakers", "_law_ships", "_law_name"] ["_law_box_here", "_law_sizes"] (defScope s__law_world) := ⟨rfl, rfl, rfl, by decide +kernel, rfl, by decide +kernel, by decide +kernel⟩
-- _law_box_here:0 _law_sizes:1 _law_ports:2 _law_channels:3 _law_vessels:4 _law_rows:5 _law_breakers:6 _law_ships:7 _law_name:8
abbrev s__law_few : Stmt := topS 63
theorem sc__law_few : FnScope ["_law_box_here", "_law_way", "_law_found"] ["_law_box_here"] (defScope s__law_few) := ⟨rfl, rfl, rfl, by decide +kernel, rfl, by decide +kernel, by decide +kernel⟩
-- _law_box_here:0 _law_way:1 _law_found:2
abbrev s__law_made : Stmt := topS 64
theorem sc__law_made : FnScope ["_law_world_here", "_law_channels", "_law_breakers", "_law_ships", "_law_a", "_law_b", "_law_c", "_law_d", "_law_e", "_law_f", "_law_g", "_law_h"] ["_law_world_here"] (defScope s__law_made) := ⟨rfl, rfl, rfl, by decide +kernel, rfl, by decide +kernel, by decide +kernel⟩
-- _law_world_here:0 _law_channels:1 _law_breakers:2 _law_ships:3 _law_a:4 _law_b:5 _law_c:6 _law_d:7 _law_e:8 _law_f:9 _law_g:10 _law_h:11
abbrev s__law_table : Stmt := topS 65
theorem sc__law_table : FnScope ["_law_box_here", "_law_world_here", "_law_names_here", "_law_ways", "_law_found", "_law_name", "_law_hour", "_law_entries", "_law_turn", "_law_rows", "_law_at", "_law_row"] ["_law_box_here", "_law_world_here"] (defScope s__law_table) := ⟨rfl, rfl, rfl, by decide +kernel, rfl, by decide +kernel, by decide +kernel⟩
-- _law_box_here:0 _law_world_here:1 _law_names_here:2 _law_ways:3 _law_found:4 _law_name:5 _law_hour:6 _law_entries:7 _law_turn:8 _law_rows:9 _law_at:10 _law_row:11
abbrev s__law_anew : Stmt := topS 66
theorem sc__law_anew : FnScope ["_law_world_here", "_law_table_here", "_law_found", "_law_row"] ["_law_world_here", "_law_table_here"] (defScope s__law_anew) := ⟨rfl, rfl, rfl, by decide +kernel, rfl, by decide +kernel, by decide +kernel⟩
-- _law_world_here:0 _law_table_here:1 _law_found:2 _law_row:3
abbrev s__law_copy : Stmt := topS 67
theorem sc__law_copy : FnScope ["_law_table_here", "_law_name", "_law_entries"] ["_law_table_here"] (defScope s__law_copy) := ⟨rfl, rfl, rfl, by decide +kernel, rfl, by decide +kernel, by decide +kernel⟩
-- _law_table_here:0 _law_name:1 _law_entries:2
abbrev s__law_due : Stmt := topS 68
theorem sc__law_due : FnScope ["_law_world_here", "_law_many", "_law_begin", "_law_ports", "_law_channels", "_law_breakers", "_law_ships", "_law_first", "_law_last", "_law_row"] ["_law_world_here", "_law_many"] (defScope s__law_due) := ⟨rfl, rfl, rfl, by decide +kernel, rfl, by decide +kernel, by decide +kernel⟩
-- _law_world_here:0 _law_many:1 _law_begin:2 _law_ports:3 _law_channels:4 _law_breakers:5 _law_ships:6 _law_first:7 _law_last:8 _law_row:9
abbrev s__law_due_table : Stmt := topS 69
theorem sc__law_due_table : FnScope ["_law_world_here", "_law_table_here", "_law_many", "_law_found", "_law_name", "_law_entries", "_law_hour", "_law_channel_here"] ["_law_world_here", "_law_table_here", "_law_many"] (defScope s__law_due_table) := ⟨rfl, rfl, rfl, by decide +kernel, rfl, by decide +kernel, by decide +kernel⟩
-- _law_world_here:0 _law_table_here:1 _law_many:2 _law_found:3 _law_name:4 _law_entries:5 _law_hour:6 _law_channel_here:7
abbrev s__law_refused : Stmt := topS 70
theorem sc__law_refused : FnScope ["_law_made_here", "_law_table_here", "_law_many", "_law_found", "_law_e"] ["_law_made_here", "_law_table_here", "_law_many"] (defScope s__law_refused) := ⟨rfl, rfl, rfl, by decide +kernel, rfl, by decide +kernel, by decide +kernel⟩
-- _law_made_here:0 _law_table_here:1 _law_many:2 _law_found:3 _law_e:4
abbrev s__law_right : Stmt := topS 71
theorem sc__law_right : FnScope ["_law_box_here", "_law_scene", "_law_made_here", "_law_world_here", "_law_table_here", "_law_most", "_law_kept", "_law_turn", "_law_many", "_law_found", "_law_told", "_law_more", "_law_again", "_law_entries", "_law_far", "_law_row"] ["_law_box_here", "_law_scene"] (defScope s__law_right) := ⟨rfl, rfl, rfl, by decide +kernel, rfl, by decide +kernel, by decide +kernel⟩
-- _law_box_here:0 _law_scene:1 _law_made_here:2 _law_world_here:3 _law_table_here:4 _law_most:5 _law_kept:6 _law_turn:7 _law_many:8 _law_found:9 _law_told:10 _law_more:11 _law_again:12 _law_entries:13 _law_far:14 _law_row:15
abbrev s_law : Stmt := topS 72
theorem sc_law : FnScope ["_law_script", "_law_ahead", "_law_k", "_law_box_here", "_law_early", "_law_world_here", "_law_first", "_law_last", "_law_scene", "_law_row"] ["_law_script"] (defScope s_law) := ⟨rfl, rfl, rfl, by decide +kernel, rfl, by decide +kernel, by decide +kernel⟩
-- _law_script:0 _law_ahead:1 _law_k:2 _law_box_here:3 _law_early:4 _law_world_here:5 _law_first:6 _law_last:7 _law_scene:8 _law_row:9
end Law
end
section
set_option Elab.async false
set_option linter.all false
set_option maxRecDepth 100000
set_option maxHeartbeats 4000000
namespace Law
open PySem PySem.Spec PyProof.Rows L2 IK SX
/-! ### what is common to the laws: words -/
theorem same_new {H : Hp} {p : Addr} {o : HO} (h : H p = none) : Same H (upd H p o) := fun b x e => by
  rw [upd_ne (ne_of_none e h)]
  exact e
theorem yesT {Q : Bool → Hp → Prop} {σ : L2.St} {H : Hp} (h : Q true H) : tYes σ H Q := h
/-- isinstance(x, T) is b -/
def IsB (K : PySem.W.Frag) (H : Hp) (x : V) (T : String) (b : Bool) : Prop := ∀ Q : VK, Q (.bl b) H → rIsi K [x, .ty T] H Q
theorem isB_ty {K : PySem.W.Frag} {H : Hp} {x : V} {t T : String} {b : Bool} (h : TyX K H x (.type t)) (e : kitB t T = some b) : IsB K H x T b := fun Q q => ⟨_, _, _, _, b, rfl, .ty T, h, kit_ty e, q⟩
/-- is it a whole number: b -/
def Whole (K : PySem.W.Frag) (H : Hp) (x : V) (b : Bool) : Prop := ∃ b1 b2, IsB K H x "int" b1 ∧ IsB K H x "bool" b2 ∧ b = (b1 && !b2)
theorem whole_int {K : PySem.W.Frag} {H : Hp} (n : Int) : Whole K H (.int n) true := ⟨true, false, isB_ty (.base (.int n)) (by decide +kernel), isB_ty (.base (.int n)) (by decide +kernel), rfl⟩
/-- the signs of a name -/
def letter (c : Nat) : Bool := decide (97 ≤ c) && decide (c ≤ 122)
def isName (l : List Nat) : Bool := decide (1 ≤ l.length) && decide (l.length ≤ 8) && l.all letter
structure Blt (mg : Str → Option Value) : Prop where
  isi : mg "isinstance" = none
  int : mg "int" = none
  bool : mg "bool" = none
  str : mg "str" = none
  list : mg "list" = none
  tuple : mg "tuple" = none
  dict : mg "dict" = none
  len : mg "len" = none
  all : mg "all" = none
  max : mg "max" = none
  min : mg "min" = none
  range : mg "range" = none
  repr : mg "repr" = none
theorem letters_list : (("abcdefghijklmnopqrstuvwxyz" : Str)).cps.toList = (List.range 26).map (· + 97) := by decide +kernel
theorem in_letters (c : Nat) : decide (c ∈ (("abcdefghijklmnopqrstuvwxyz" : Str)).cps.toList) = letter c := by
  rw [letters_list, Bool.eq_iff_iff]
  unfold letter
  simp only [decide_eq_true_eq, Bool.and_eq_true, List.mem_map, List.mem_range]
  constructor
  · rintro ⟨a, h, rfl⟩
    omega
  · rintro ⟨h1, h2⟩
    exact ⟨c - 97, by omega, by omega⟩
def spWhole (K : PySem.W.Frag) : Sp := fun vs H Q _ => ∃ x b, vs = [x] ∧ Whole K H x b ∧ Q (.bl b) H
def spWithin (K : PySem.W.Frag) : Sp := fun vs H Q _ => ∃ x lo hi, vs = [x, .int lo, .int hi] ∧ ((∃ n, x = .int n ∧ Q (.bl (decide (lo ≤ n) && decide (n ≤ hi))) H) ∨ (Whole K H x false ∧ Q (.bl false) H))
def spName : Sp := fun vs H Q _ => ∃ l, vs = [.str (S l)] ∧ l.length ≤ 1000 ∧ ∀ H', Same H H' → Q (.bl (isName l)) H'
section
variable {P : Program} {w : World} {K : PySem.W.Frag} {mg : Str → Option Value} {base : Heap}
theorem ok_whole {f : Addr} {fd : FuncData} (F : Fun K "is_whole" "is_whole" s_is_whole f fd) (B : Blt mg) : FnOk P w K mg base CX0 1 f fd ["thing"] (spWhole K) := by
  refine F.ok sc_is_whole (fun vs H Q E h => ?_) (fun cdv A outer s H vs Q E hr h => ?_)
  · obtain ⟨x, b, rfl, _⟩ := h
    rfl
  · obtain ⟨x, b, rfl, ⟨b1, b2, h1, h2, rfl⟩, q⟩ := h
    refine ⟨_, pss_one (ps_ret (pe_and (pe_callB call_isi (by rfl) B.isi (by decide +kernel) (pa_cons (pv 0) (pa_cons (pe_bltn (v := .ty "int") (by rfl) B.int (by decide +kernel) rfl) pa_nil)))
      (pe_one (pe_not (pe_callB call_isi (by rfl) B.isi (by decide +kernel) (pa_cons (pv 0) (pa_cons (pe_bltn (v := .ty "bool") (by rfl) B.bool (by decide +kernel) rfl) pa_nil))))))), ?_⟩
    refine ⟨_, rfl, ?_⟩
    dsimp only [tCons, tC, tNil]
    refine h1 _ ?_
    refine ⟨b1, rfl, ?_⟩
    cases b1 with
    | false => exact q
    | true =>
      refine iteT ?_
      refine ⟨_, rfl, ?_⟩
      dsimp only [tCons, tC, tNil]
      exact h2 _ ⟨_, rfl, q⟩
theorem ok_within {f : Addr} {fd : FuncData} (F : Fun K "is_within" "is_within" s_is_within f fd) (D : Dn P w K mg base CX0 1 "is_whole" ["thing"] (spWhole K)) : FnOk P w K mg base CX0 2 f fd ["thing", "low", "high"] (spWithin K) := by
  refine F.ok sc_is_within (fun vs H Q E h => ?_) (fun cdv A outer s H vs Q E hr h => ?_)
  · obtain ⟨x, lo, hi, rfl, _⟩ := h
    rfl
  · obtain ⟨x, lo, hi, rfl, h⟩ := h
    refine ⟨_, pss_one (ps_ret (pe_and (pe_d D (hr.mono (by decide)) (by rfl) pass0 (pa_cons (pv 0) pa_nil)) (pe_one (pe_chain op_le op_le (pv 1) (pv 0) (pv 2))))), ?_⟩
    rcases h with ⟨n, rfl, q⟩ | ⟨hw, q⟩
    · refine ⟨_, rfl, _, true, rfl, whole_int n, ?_⟩
      refine ⟨true, rfl, ?_⟩
      refine iteT ?_
      refine ⟨_, rfl, _, rfl, _, _, rfl, rfl, ?_⟩
      refine ⟨_, rfl, ?_⟩
      by_cases h1 : lo ≤ n
      · rw [decide_eq_true h1] at q ⊢
        refine iteT ⟨_, rfl, _, _, rfl, rfl, ?_⟩
        exact q
      · rw [decide_eq_false h1] at q ⊢
        exact iteF q
    · refine ⟨_, rfl, _, false, rfl, hw, ?_⟩
      exact ⟨false, rfl, iteF q⟩
theorem ok_name {f : Addr} {fd : FuncData} (F : Fun K "is_name" "is_name" s_is_name f fd) (B : Blt mg) (gL : ∃ u, mg "LETTERS" = some u ∧ RelV (.str "abcdefghijklmnopqrstuvwxyz") u) (gN : ∃ u, mg "LONGEST_NAME" = some u ∧ RelV (.int 8) u) :
    FnOk P w K mg base CX0 1 f fd ["thing"] spName := by
  refine F.ok sc_is_name (fun vs H Q E h => ?_) (fun cdv A outer s H vs Q E hr h => ?_)
  · obtain ⟨l, rfl, _⟩ := h
    rfl
  · obtain ⟨l, rfl, hl, q⟩ := h
    refine ⟨_, pss_cons (ps_if (PW.pt (pw_or (pt_not (pt_val (pe_callB call_isi (by rfl) B.isi (by decide +kernel) (pa_cons (pv 0) (pa_cons (pe_bltn (v := .ty "str") (by rfl) B.str (by decide +kernel) rfl) pa_nil)))))
        (pw_or1 (pt_not (pt_chain op_le op_le pe_int (pe_callB call_len_str (by rfl) B.len PySem.boot_len (pa_cons (pv 0) pa_nil)) (C8.pe_gc (by rfl) gN)))))) (pss_one (ps_ret pe_bl)) pss_nil)
      (pss_one (ps_ret (pe_callB (cr_all rfl) (by rfl) B.all (by decide +kernel) (pa_cons (pe_lc (own := [("sign", 1)]) (g := gName 1) (tt := tYes) rfl sc_is_name.nd (pi_str (pv 0))
          (blkOk_by (N := ["thing", "sign"]) (sc := defScope s_is_name) (by decide +kernel)) (fun _ _ _ _ _ => pg_name (i := 1) sc_is_name.nd rfl (Or.inl rfl)) (fun _ _ _ _ _ => pts_nil)
          (fun _ _ _ _ _ => pe_cmpR op_in_sign (pv 1) (C8.pe_gc (by rfl) gL) (by rfl))) pa_nil)))), ?_⟩
    refine ⟨_, rfl, _, _, _, _, true, rfl, .ty "str", .base (.str _), kit_ty (by decide +kernel), true, rfl, ?_⟩
    have hz : (S l).length ≤ sizeLine := by rw [S_len]; exact Nat.le_trans hl (by decide)
    refine iteF ?_
    refine ⟨_, rfl, _, rfl, hz, _, _, rfl, rfl, _, rfl, ?_⟩
    rw [S_len]
    by_cases h1 : 1 ≤ l.length
    · rw [decide_eq_true (show (1 : Int) ≤ (l.length : Int) by omega)]
      refine iteT ⟨_, _, rfl, rfl, _, rfl, ?_⟩
      by_cases h2 : l.length ≤ 8
      · rw [decide_eq_true (show (l.length : Int) ≤ 8 by omega)]
        refine iteF ?_
        refine ⟨_, rfl, S l, rfl, fun D hD => ?_⟩
        refine lc_it (walk_str (z := S l)) (fun i H' => H' = upd H D (.lst ((l.take i).map fun c => .bl (letter c)))) rfl (fun _ _ _ _ => trivial) ?_ ?_
        · rintro i x H1 H' hi hP ⟨rfl, c, hc, rfl⟩
          subst hP
          have hc' : l[i]? = some c := by simpa using hc
          refine ⟨rfl, ?_⟩
          refine yesT (iteT ?_)
          refine ⟨_, rfl, c, _, rfl, rfl, _, upd_same, ?_, ?_⟩
          · rw [List.length_map, List.length_take]
            exact Nat.lt_of_le_of_lt (Nat.le_trans (Nat.min_le_right _ _) hl) (by decide)
          · rw [upd_upd, in_letters, List.take_succ, hc']
            simp
        · rintro H' rfl
          have hall : (S l).cps.size = l.length := by simp
          rw [hall, List.take_length]
          refine ⟨D, l.map letter, rfl, .inl (.inl ?_), ?_⟩
          · rw [upd_same, List.map_map]
            rfl
          have hA : (l.map letter).all id = l.all letter := by
            rw [List.all_map]
            rfl
          rw [hA]
          have e : isName l = l.all letter := by
            unfold isName
            simp [h1, h2]
          rw [← e]
          exact q _ (same_new hD)
      · rw [decide_eq_false (show ¬ (l.length : Int) ≤ 8 by omega)]
        refine iteT ?_
        have e : isName l = false := by
          unfold isName
          simp [h2]
        rw [e] at q
        exact q H (Same.refl H)
    · rw [decide_eq_false (show ¬ (1 : Int) ≤ (l.length : Int) by omega)]
      refine iteF ⟨_, rfl, iteT ?_⟩
      have e : isName l = false := by
        unfold isName
        simp [h1]
      rw [e] at q
      exact q H (Same.refl H)
end
end Law
end
section
set_option Elab.async false
set_option linter.all false
set_option maxRecDepth 100000
set_option maxHeartbeats 4000000
namespace Law
open PySem PySem.Spec PyProof.Rows L2 IK SX
abbrev txts (ws : List (List Nat)) : List V := ws.map fun w => V.str (S w)
/-- all but p is as it was, as far as it was -/
def Bar (p : Addr) (H H' : Hp) : Prop := ∀ b o, b ≠ p → H b = some o → H' b = some o
theorem Bar.refl {p : Addr} {H : Hp} : Bar p H H := fun _ _ _ h => h
theorem Bar.trans {p : Addr} {H H1 H2 : Hp} (h : Bar p H H1) (k : Bar p H1 H2) : Bar p H H2 := fun b o hb e => k b o hb (h b o hb e)
theorem Bar.same {p : Addr} {H H' : Hp} (h : Same H H') : Bar p H H' := fun b o _ e => h b o e
theorem Bar.new {p q : Addr} {o : HO} {H : Hp} (h : H q = none) : Bar p H (upd H q o) := Bar.same (same_new h)
theorem Bar.at_ {p : Addr} {o : HO} {H : Hp} : Bar p H (upd H p o) := fun b x hb e => by rw [upd_ne hb]; exact e
theorem Bar.fresh {p : Addr} {H H' : Hp} (h : Bar p H H') (hp : H p = none) : Same H H' := fun b o e => h b o (ne_of_none e hp) e
theorem same_bar {p : Addr} {H H1 H2 : Hp} (s : Same H H1) (h : Bar p H1 H2) (hp : H p = none) : Same H H2 := fun b o e => h b o (ne_of_none e hp) (s b o e)
/-- an object with its fields -/
def ObjAt (C : Addr) (H : Hp) (p : Addr) (ks : List Str) (vs : List V) : Prop := ∃ dx, H p = some (.ins C dx (ks.zip vs))
theorem ObjAt.same {C p : Addr} {H H' : Hp} {ks : List Str} {vs : List V} (h : ObjAt C H p ks vs) (s : Same H H') : ObjAt C H' p ks vs := by
  obtain ⟨dx, h⟩ := h
  exact ⟨dx, s _ _ h⟩
/-- a maker's promise: behind it the object's fields are vs -/
def Makes (C : Addr) (p : Addr) (H : Hp) (ks : List Str) (vs : List V) (Q : VK) : Prop := ∃ dx, H p = some (.ins C dx []) ∧ ∀ H', Bar p H H' → H' p = some (.ins C dx (ks.zip vs)) → Q .non H'
/-- what the caller has of it -/
theorem Makes.use {C : Addr} {H : Hp} {ks : List Str} {vs : List V} {Q : VK} (q : ∀ p H', H p = none → Same H H' → ObjAt C H' p ks vs → Q (.ref p) H') {x dx : Addr} (hx : H x = none) (hd : H dx = none) :
    Makes C x (upd (upd H dx (.own x)) x (.ins C dx [])) ks vs (fun v H2 => v = .non ∧ Q (.ref x) H2) := by
  refine ⟨dx, upd_same, fun H' b e => ⟨rfl, q x H' hx (fun c o ec => ?_) ⟨dx, e⟩⟩⟩
  refine b c o (ne_of_none ec hx) ?_
  rw [upd_ne (ne_of_none ec hx), upd_ne (ne_of_none ec hd)]
  exact ec
def spNeedNames (K : PySem.W.Frag) : Sp := fun vs H Q _ => ∃ (a : Addr) (ws : List (List Nat)), vs = [.ref a] ∧ SqL K H a (txts ws) ∧ (∀ w ∈ ws, isName w = true) ∧ ∀ H', Same H H' → Q .non H'
def spNeedNums (K : PySem.W.Frag) : Sp := fun vs H Q _ => ∃ (a : Addr) (rs : List (Addr × Int × Int × Int)), vs = [.ref a] ∧ SqL K H a (rs.map fun r => V.ref r.1) ∧ (∀ r ∈ rs, H r.1 = some (.tup [.int r.2.1, .int r.2.2.1, .int r.2.2.2]) ∧ r.2.2.1 ≤ r.2.1 ∧ r.2.1 ≤ r.2.2.2) ∧ Q .non H
theorem isName_len {l : List Nat} (h : isName l = true) : 1 ≤ l.length ∧ l.length ≤ 8 ∧ ∀ c ∈ l, 97 ≤ c ∧ c ≤ 122 := by
  unfold isName letter at h
  simp only [Bool.and_eq_true, decide_eq_true_eq, List.all_eq_true] at h
  exact ⟨h.1.1, h.1.2, h.2⟩
section
variable {P : Program} {w : World} {K : PySem.W.Frag} {mg : Str → Option Value} {base : Heap}
theorem ok_needNames {f : Addr} {fd : FuncData} (F : Fun K "need_names" "need_names" s_need_names f fd) (D : Dn P w K mg base CX0 1 "is_name" ["thing"] spName) : FnOk P w K mg base CX0 2 f fd ["things"] (spNeedNames K) := by
  refine F.ok sc_need_names (fun vs H Q E h => ?_) (fun cdv A outer s H vs Q E hr h => ?_)
  · obtain ⟨a, ws, rfl, _⟩ := h
    rfl
  · obtain ⟨a, ws, rfl, hS, hn, q⟩ := h
    refine ⟨_, pss_one (ps_for PassesOwn.never rfl (pi_list (pv 0)) (pg_name (i := 1) sc_need_names.nd rfl (.inl rfl)) (pss_one (ps_if (pt_not (pt_val (pe_d D (hr.mono (by decide)) (by rfl) pass0 (pa_cons (pv 1) pa_nil)))) pss_dead pss_nil))), ?_⟩
    refine ⟨_, rfl, a, rfl, ⟨_, hS⟩, ?_⟩
    refine for_list (K := K) (a := a) (xs := txts ws) (fun i σ H' => ∃ y, σ = [some (.ref a), y] ∧ Same H H') ⟨none, rfl, Same.refl H⟩ (fun i σ H' _ ⟨_, _, sm⟩ => sm.seq hS) ?_ ?_
    · rintro i y σ H1 hi ⟨z, rfl, sm⟩
      rw [List.getElem?_map] at hi
      obtain ⟨wd, hwd, rfl⟩ : ∃ wd, ws[i]? = some wd ∧ y = .str (S wd) := by
        cases e : ws[i]? with
        | none => rw [e] at hi; cases hi
        | some wd => rw [e] at hi; exact ⟨wd, rfl, (Option.some.inj hi).symm⟩
      have hg := hn wd (List.mem_of_getElem? hwd)
      refine ⟨_, rfl, wd, rfl, Nat.le_trans (isName_len hg).2.1 (by decide), fun H2 s2 => ?_⟩
      rw [hg]
      refine ⟨true, rfl, ?_⟩
      refine iteF ?_
      exact ⟨_, rfl, sm.trans s2⟩
    · rintro σ H1 ⟨z, rfl, sm⟩
      exact q H1 sm
theorem ok_needNums {f : Addr} {fd : FuncData} (F : Fun K "need_numbers" "need_numbers" s_need_numbers f fd) (D : Dn P w K mg base CX0 2 "is_within" ["thing", "low", "high"] (spWithin K)) : FnOk P w K mg base CX0 3 f fd ["rows"] (spNeedNums K) := by
  refine F.ok sc_need_numbers (fun vs H Q E h => ?_) (fun cdv A outer s H vs Q E hr h => ?_)
  · obtain ⟨a, ws, rfl, _⟩ := h
    rfl
  · obtain ⟨a, rs, rfl, hS, hn, q⟩ := h
    refine ⟨_, pss_one (ps_for PassesOwn.never rfl (pi_list (pv 0)) (pg_tup rfl (pgs_cons (pg_name (i := 1) sc_need_numbers.nd rfl (.inl rfl)) (pgs_cons (pg_name (i := 2) sc_need_numbers.nd rfl (.inl rfl)) (pgs_cons (pg_name (i := 3) sc_need_numbers.nd rfl (.inl rfl)) pgs_nil))))
      (pss_one (ps_if (pt_not (pt_val (pe_d D (hr.mono (by decide)) (by rfl) pass0 (pa_cons (pv 1) (pa_cons (pv 2) (pa_cons (pv 3) pa_nil)))))) pss_dead pss_nil))), ?_⟩
    refine ⟨_, rfl, a, rfl, ⟨_, hS⟩, ?_⟩
    refine for_list (K := K) (a := a) (xs := rs.map fun r => V.ref r.1) (fun i σ H' => ∃ y1 y2 y3, σ = [some (.ref a), y1, y2, y3] ∧ H' = H) ⟨none, none, none, rfl, rfl⟩ (fun i σ H' _ ⟨_, _, _, _, e⟩ => e ▸ hS) ?_ ?_
    · rintro i y σ H1 hi ⟨y1, y2, y3, rfl, rfl⟩
      rw [List.getElem?_map] at hi
      obtain ⟨r, hr2, rfl⟩ : ∃ r, rs[i]? = some r ∧ y = .ref r.1 := by
        cases e : rs[i]? with
        | none => rw [e] at hi; cases hi
        | some wd => rw [e] at hi; exact ⟨wd, rfl, (Option.some.inj hi).symm⟩
      obtain ⟨h1, h2, h3⟩ := hn r (List.mem_of_getElem? hr2)
      refine ⟨r.1, _, rfl, .inl (.inl h1), rfl, _, _, rfl, _, _, rfl, _, _, rfl, rfl, ?_⟩
      refine ⟨_, rfl, _, rfl, _, rfl, _, _, _, rfl, .inl ⟨_, rfl, ?_⟩⟩
      rw [decide_eq_true h2, decide_eq_true h3]
      refine ⟨true, rfl, ?_⟩
      refine iteF ?_
      exact ⟨_, _, _, rfl, rfl⟩
    · rintro σ H1 ⟨y1, y2, y3, rfl, rfl⟩
      exact q
end
end Law
end
section
set_option Elab.async false
set_option linter.all false
set_option maxRecDepth 100000
set_option maxHeartbeats 4000000
namespace Law
open PySem PySem.Spec PyProof.Rows L2 IK SX
/-! ### comprehensions that keep what is known -/
/-- the heap without D -/
def hide (D : Addr) (H : Hp) : Hp := fun b => if b = D then none else H b
theorem hide_ne {D b : Addr} {H : Hp} (h : b ≠ D) : hide D H b = H b := if_neg h
theorem hide_upd {D : Addr} {o : HO} {H : Hp} : hide D (upd H D o) = hide D H := by
  funext b
  by_cases e : b = D
  · simp [hide, e]
  · rw [hide_ne e, hide_ne e, upd_ne e]
theorem hide_same {D : Addr} {H H' : Hp} (s : Same H H') : Same (hide D H) (hide D H') := fun b o e => by
  by_cases z : b = D
  · simp [hide, z] at e
  · rw [hide_ne z] at e ⊢
    exact s b o e
theorem hide_le {D : Addr} {H : Hp} : Same (hide D H) H := fun b o e => by
  by_cases z : b = D
  · simp [hide, z] at e
  · rw [hide_ne z] at e
    exact e
/-- what is no list stands there too -/
theorem hide_of {D b : Addr} {H : Hp} {l : List V} {o : HO} (h : H D = some (.lst l)) (ho : ∀ l, o ≠ .lst l) (e : H b = some o) : hide D H b = some o := by
  have z : b ≠ D := fun z => by
    rw [z, h] at e
    injection e with e
    exact ho l e.symm
  rw [hide_ne z]
  exact e
/-- of each of xs one of ys -/
def Each (F : V → V → Prop) (xs ys : List V) : Prop := ys.length = xs.length ∧ ∀ (i : Nat) (x y : V), xs[i]? = some x → ys[i]? = some y → F x y
theorem Each.map {α : Type} {F : V → V → Prop} {f g : α → V} {l : List α} {ys : List V} (h : Each F (l.map f) ys) (hg : ∀ a ∈ l, ∀ y, F (f a) y → y = g a) : ys = l.map g := by
  obtain ⟨h1, h2⟩ := h
  refine List.ext_getElem? fun i => ?_
  rw [List.getElem?_map]
  rw [List.length_map] at h1
  cases e : l[i]? with
  | none =>
    have e2 : l.length ≤ i := List.getElem?_eq_none_iff.mp e
    rw [List.getElem?_eq_none_iff.mpr (by omega)]
    rfl
  | some x =>
    have hi : i < ys.length := h1 ▸ (List.getElem?_eq_some_iff.mp e).1
    obtain ⟨y, hy⟩ : ∃ y, ys[i]? = some y := ⟨_, List.getElem?_eq_getElem hi⟩
    rw [hy, hg x (List.mem_of_getElem? e) y (h2 i _ y (by rw [List.getElem?_map, e]; rfl) hy)]
    rfl
theorem none_back {H H' : Hp} {p : Addr} (s : Same H H') (h : H' p = none) : H p = none := by
  cases e : H p with
  | none => rfl
  | some o => rw [s _ _ e] at h; cases h
theorem pe_fldK {X : Cx} {K : PySem.W.Frag} {e : Expr} {f : Str} {pos : Pos} {ta : TE} (hK : X.K = K) (he : PE X e ta) (hb : attributeBase e f X.env (eval e X.env) = eval e X.env) : PE X (.Attribute e f pos) (tFld K ta f) := hK ▸ pe_fld he hb
theorem laid_same {H Hn : Hp} {t : Addr} {o : HO} (e : upd H t o = Hn) (h : H t = none) : Same H Hn := e ▸ same_new h
theorem laid_at {H Hn : Hp} {t : Addr} {o : HO} (e : upd H t o = Hn) : Hn t = some o := e ▸ upd_same
section
variable {K : PySem.W.Frag} {a : Addr} {xs : List V}
theorem lc_map {g : TG} {te : TE} {vs : List Nat} {σ : L2.St} {H1 : Hp} {Qd : Addr → Hp → Prop} (F : V → V → Hp → Prop) (hq : SqA K H1 a xs) (hl : xs.length < sizeLine) (hM : ∀ x y H H', Same H H' → F x y H → F x y H')
    (hF : ∀ x y H D l, H D = some (.lst l) → F x y H → F x y (hide D H))
    (hs : ∀ x H (k : V → Hp → Prop), x ∈ xs → Same H1 H → (∀ y H4, Same H H4 → F x y H4 → k y H4) → g x (wipe σ vs) H fun σ2 H2 => wipe σ2 vs = wipe σ vs ∧ te σ2 H2 k)
    (hd : ∀ D ys H, H1 D = none → Same H1 H → H D = some (.lst ys) → Each (fun x y => F x y H) xs ys → Qd D H) :
    ((∃ xs, SqL K H1 a xs) ∧ ∀ D, H1 D = none → ∃ W : Nat → Nat → Hp → Prop, (∃ m, W 0 m (upd H1 D (.lst []))) ∧ ∀ i m H, W i m H →
      ((Itl K a).stop i H ∧ Qd D H) ∨ ((Itl K a).go i H ∧ ∃ Nx : Hp → Prop, (∀ H', Nx H' → ∃ m', m' < m ∧ W (i + 1) m' H') ∧ ∀ x H', (Itl K a).yld i H x H' → g x (wipe σ vs) H' fun σ2 H2 => wipe σ2 vs = wipe σ vs ∧ tYes σ2 H2 fun b H3 =>
        if b = true then te σ2 H3 fun y H4 => ∃ acc, H4 D = some (.lst acc) ∧ acc.length < sizeLine ∧ Nx (upd H4 D (.lst (acc ++ [y]))) else Nx H3)) ∨
    ((∃ xs, SqT K H1 a xs) ∧ ∀ D, H1 D = none → ∃ W : Nat → Nat → Hp → Prop, (∃ m, W 0 m (upd H1 D (.lst []))) ∧ ∀ i m H, W i m H →
      ((Itt K a).stop i H ∧ Qd D H) ∨ ((Itt K a).go i H ∧ ∃ Nx : Hp → Prop, (∀ H', Nx H' → ∃ m', m' < m ∧ W (i + 1) m' H') ∧ ∀ x H', (Itt K a).yld i H x H' → g x (wipe σ vs) H' fun σ2 H2 => wipe σ2 vs = wipe σ vs ∧ tYes σ2 H2 fun b H3 =>
        if b = true then te σ2 H3 fun y H4 => ∃ acc, H4 D = some (.lst acc) ∧ acc.length < sizeLine ∧ Nx (upd H4 D (.lst (acc ++ [y]))) else Nx H3)) := by
  refine lc_seq hq (fun D i H => Same H1 H ∧ ∃ acc, H D = some (.lst acc) ∧ acc.length = min i xs.length ∧ ∀ (j : Nat) x y, xs[j]? = some x → acc[j]? = some y → F x y (hide D H)) fun D hD => ⟨?_, ?_, ?_, ?_⟩
  · exact ⟨same_new hD, [], upd_same, by simp, fun j x y _ h => by simp at h⟩
  · rintro i H ⟨s, _⟩
    exact Same.kp s
  · rintro i x H hx ⟨s, acc, hA, ha, hf⟩
    have hi : i < xs.length := (List.getElem?_eq_some_iff.mp hx).1
    have e1 : acc.length = i := by rw [ha]; exact Nat.min_eq_left (Nat.le_of_lt hi)
    have z := hs x H (fun y H4 => ∃ acc, H4 D = some (.lst acc) ∧ acc.length < sizeLine ∧ (Same H1 (upd H4 D (.lst (acc ++ [y]))) ∧ ∃ acc', upd H4 D (.lst (acc ++ [y])) D = some (.lst acc') ∧ acc'.length = min (i + 1) xs.length ∧
      ∀ (j : Nat) x y', xs[j]? = some x → acc'[j]? = some y' → F x y' (hide D (upd H4 D (.lst (acc ++ [y])))))) (List.mem_of_getElem? hx) s fun y H4 s4 f4 => by
        have hA4 := s4 _ _ hA
        refine ⟨acc, hA4, by omega, fun b o e => ?_, acc ++ [y], upd_same, by simp [e1]; omega, fun j x' y' hx' hy' => ?_⟩
        · rw [upd_ne (ne_of_none e hD)]
          exact s4 _ _ (s _ _ e)
        · rw [hide_upd]
          by_cases hj : j < acc.length
          · rw [List.getElem?_append_left hj] at hy'
            exact hM _ _ _ _ (hide_same s4) (hf j x' y' hx' hy')
          · rw [List.getElem?_append_right (by omega)] at hy'
            have e2 : j - acc.length = 0 := by
              have := (List.getElem?_eq_some_iff.mp hy').1
              simp at this
              omega
            have e3 : j = i := by omega
            rw [e2] at hy'
            have e4 : y = y' := by simpa using hy'
            subst e3 e4
            obtain rfl : x = x' := by rw [hx] at hx'; exact Option.some.inj hx'
            exact hF _ _ _ _ _ hA4 f4
    refine z
  · rintro H ⟨s, acc, hA, ha, hf⟩
    exact hd D acc H hD s hA ⟨by rw [ha]; exact Nat.min_self _, fun i x y h1 h2 => hM _ _ _ _ hide_le (hf i x y h1 h2)⟩
end
end Law
end
section
set_option Elab.async false
set_option linter.all false
set_option maxRecDepth 100000
set_option maxHeartbeats 4000000
namespace Law
open PySem PySem.Spec PyProof.Rows L2 IK SX
/-! ### vessels and channels -/
abbrev GI (mg : Str → Option Value) (x : Str) (n : Int) : Prop := ∃ u, mg x = some u ∧ RelV (.int n) u
structure Bnd (mg : Str → Option Value) : Prop where
  hour : GI mg "MOST_HOUR" 1000000
  ice : GI mg "MOST_ICE" 1000000
  depth : GI mg "MOST_DEPTH" 1000
  length : GI mg "MOST_LENGTH" 1000
  growth : GI mg "MOST_GROWTH" 1000
structure Chan where
  name : List Nat
  one : List Nat
  other : List Nat
  hours : Int
  depth : Int
  first : Int
  growth : Int
  most : Int
structure Ves where
  name : List Nat
  port : List Nat
  hour : Int
  strength : Int
  draught : Int
structure Brk extends Ves where
  cut : Int
structure Shp extends Ves where
  goal : List Nat
abbrev chanK : List Str := ["name", "one", "other", "hours", "depth", "first", "growth", "most"]
abbrev vesK : List Str := ["name", "port", "hour", "strength", "draught"]
abbrev brkK : List Str := ["name", "port", "hour", "strength", "draught", "cut"]
abbrev shpK : List Str := ["name", "port", "hour", "strength", "draught", "goal"]
abbrev Chan.vals (c : Chan) : List V := [.str (S c.name), .str (S c.one), .str (S c.other), .int c.hours, .int c.depth, .int c.first, .int c.growth, .int c.most]
abbrev Ves.vals (b : Ves) : List V := [.str (S b.name), .str (S b.port), .int b.hour, .int b.strength, .int b.draught]
abbrev Brk.vals (b : Brk) : List V := b.toVes.vals ++ [.int b.cut]
abbrev Shp.vals (b : Shp) : List V := b.toVes.vals ++ [.str (S b.goal)]
/-- as its row is told, as its maker is called -/
abbrev Shp.row (b : Shp) : List V := [.str (S b.name), .str (S b.port), .str (S b.goal), .int b.hour, .int b.strength, .int b.draught]
structure Chan.Good (c : Chan) : Prop where
  name : isName c.name = true
  one : isName c.one = true
  other : isName c.other = true
  ne : c.one ≠ c.other
  hours : 1 ≤ c.hours ∧ c.hours ≤ 1000
  depth : 0 ≤ c.depth ∧ c.depth ≤ 1000
  first : 0 ≤ c.first ∧ c.first ≤ 1000000
  growth : 0 ≤ c.growth ∧ c.growth ≤ 1000
  most : c.first ≤ c.most ∧ c.most ≤ 1000000
structure Ves.Good (b : Ves) : Prop where
  name : isName b.name = true
  port : isName b.port = true
  hour : 0 ≤ b.hour ∧ b.hour ≤ 1000000
  strength : 0 ≤ b.strength ∧ b.strength ≤ 1000000
  draught : 0 ≤ b.draught ∧ b.draught ≤ 1000
structure Brk.Good (b : Brk) : Prop where
  ves : b.toVes.Good
  cut : 1 ≤ b.cut ∧ b.cut ≤ 1000000
structure Shp.Good (b : Shp) : Prop where
  ves : b.toVes.Good
  goal : isName b.goal = true
theorem isName_ne {a b : List Nat} (ha : isName a = true) (hb : isName b = true) (h : a ≠ b) : (V.str (S a)) ≠ .str (S b) := fun z => h (by
  injection z with z
  exact S_inj z)
/-- what the class's fields are read by -/
structure Cl (K : PySem.W.Frag) (C : Addr) (ks : List Str) : Prop where
  cls : Cls K C
  no : ∀ k ∈ ks, NoAttr K C k
theorem fld_put {H : Hp} {p C dx : Addr} {ks : List Str} {vs : List V} {k : Str} {v : V} (hp : H p = some (.ins C dx (ks.zip vs))) (hl : ks.length = vs.length) (hk : k ∉ ks) :
    Bar p H (upd H p (.ins C dx (putF k v (ks.zip vs)))) ∧ upd H p (.ins C dx (putF k v (ks.zip vs))) p = some (.ins C dx ((ks ++ [k]).zip (vs ++ [v]))) := by
  refine ⟨Bar.at_, ?_⟩
  rw [upd_same, put_zip hl hk]
def spSettle (C : Addr) : Sp := fun vs H Q _ => ∃ (p : Addr) (b : Ves), vs = .ref p :: b.vals ∧ Makes C p H vesK b.vals Q
def spVesMk (C : Addr) : Sp := fun vs H Q _ => ∃ (p : Addr) (b : Ves), vs = .ref p :: b.vals ∧ b.Good ∧ Makes C p H vesK b.vals Q
def spBrkMk (C : Addr) : Sp := fun vs H Q _ => ∃ (p : Addr) (b : Brk), vs = .ref p :: b.vals ∧ b.Good ∧ Makes C p H brkK b.vals Q
def spShpMk (C : Addr) : Sp := fun vs H Q _ => ∃ (p : Addr) (b : Shp), vs = .ref p :: b.row ∧ b.Good ∧ Makes C p H shpK b.vals Q
def spChanMk (C : Addr) : Sp := fun vs H Q _ => ∃ (p : Addr) (c : Chan), vs = .ref p :: c.vals ∧ c.Good ∧ Makes C p H chanK c.vals Q
section
variable {P : Program} {w : World} {K : PySem.W.Frag} {mg : Str → Option Value} {base : Heap}
theorem ok_chanMk {C : Addr} {f : Addr} {fd : FuncData} (F : Fun K "__init__" "Channel.__init__" s_Channel___init__ f fd) (N : Bnd mg) (T : Cl K C chanK) (DN : Dn P w K mg base CX0 2 "need_names" ["things"] (spNeedNames K)) (DU : Dn P w K mg base CX0 3 "need_numbers" ["rows"] (spNeedNums K)) :
    FnOk P w K mg base CX0 4 f fd ["self", "name", "one", "other", "hours", "depth", "first", "growth", "most"] (spChanMk C) := by
  refine F.ok sc_Channel___init__ (fun vs H Q E h => ?_) (fun cdv A outer s H vs Q E hr h => ?_)
  · obtain ⟨p, c, rfl, _⟩ := h
    rfl
  · obtain ⟨p, c, rfl, g, dx, hp, q⟩ := h
    refine ⟨_, (pss_cons (ps_expr (pe_d DN (hr.mono (by decide)) (by rfl) pass0 (pa_cons (pe_lst (pa_cons (pv 1) (pa_cons (pv 2) (pa_cons (pv 3) pa_nil)))) pa_nil)))
      (pss_cons (ps_if (pt_cmpR op_eq (pv 2) (pv 3) (nomark _)) pss_dead pss_nil)
      (pss_cons (ps_expr (pe_d DU (hr.mono (by decide)) (by rfl) pass0 (pa_cons (pe_lst (pa_cons (pe_tup (pa_cons (pv 4) (pa_cons pe_int (pa_cons (C8.pe_gc (by rfl) N.length) pa_nil)))) (pa_cons (pe_tup (pa_cons (pv 5) (pa_cons pe_int (pa_cons (C8.pe_gc (by rfl) N.depth) pa_nil)))) (pa_cons (pe_tup (pa_cons (pv 6) (pa_cons pe_int (pa_cons (C8.pe_gc (by rfl) N.ice) pa_nil)))) pa_nil)))) pa_nil)))
      (pss_cons (ps_expr (pe_d DU (hr.mono (by decide)) (by rfl) pass0 (pa_cons (pe_lst (pa_cons (pe_tup (pa_cons (pv 7) (pa_cons pe_int (pa_cons (C8.pe_gc (by rfl) N.growth) pa_nil)))) (pa_cons (pe_tup (pa_cons (pv 8) (pa_cons (pv 6) (pa_cons (C8.pe_gc (by rfl) N.ice) pa_nil)))) pa_nil))) pa_nil)))
      (pss_cons (ps_fld (pv 0) (pv 1) rfl)
      (pss_cons (ps_fld (pv 0) (pv 2) rfl)
      (pss_cons (ps_fld (pv 0) (pv 3) rfl)
      (pss_cons (ps_fld (pv 0) (pv 4) rfl)
      (pss_cons (ps_fld (pv 0) (pv 5) rfl)
      (pss_cons (ps_fld (pv 0) (pv 6) rfl)
      (pss_cons (ps_fld (pv 0) (pv 7) rfl)
      (pss_one (ps_fld (pv 0) (pv 8) rfl))))))))))))), ?_⟩
    refine ⟨_, rfl, _, rfl, _, rfl, Nat.le_of_ble_eq_true rfl, fun a1 ha1 => ?_⟩
    refine ⟨a1, [c.name, c.one, c.other], rfl, SqL.of upd_same, ?_, fun Ha sa => ?_⟩
    · intro x hx
      simp only [List.mem_cons, List.not_mem_nil, or_false] at hx
      rcases hx with rfl | rfl | rfl
      · exact g.name
      · exact g.one
      · exact g.other
    have sm := (same_new ha1).trans sa
    refine ⟨_, rfl, _, rfl, rfl, _, rfl, ?_⟩
    rw [decide_eq_false (isName_ne g.one g.other g.ne)]
    refine iteF ?_
    refine ⟨_, rfl, ?_⟩
    refine ⟨Nat.le_of_ble_eq_true rfl, fun t1 ht1 => ?_⟩
    generalize hXq : upd _ t1 _ = H1
    have s1 := laid_same hXq ht1
    have e1 := laid_at hXq
    clear hXq
    refine ⟨_, rfl, ?_⟩
    refine ⟨Nat.le_of_ble_eq_true rfl, fun t2 ht2 => ?_⟩
    generalize hXq : upd _ t2 _ = H2
    have s2 := laid_same hXq ht2
    have e2 := laid_at hXq
    clear hXq
    refine ⟨_, rfl, ?_⟩
    refine ⟨Nat.le_of_ble_eq_true rfl, fun t3 ht3 => ?_⟩
    generalize hXq : upd _ t3 _ = H3
    have s3 := laid_same hXq ht3
    have e3 := laid_at hXq
    clear hXq
    refine ⟨Nat.le_of_ble_eq_true rfl, fun a2 ha2 => ?_⟩
    generalize hXq : upd _ a2 _ = H4
    have s4 := laid_same hXq ha2
    have e4 := laid_at hXq
    clear hXq
    refine ⟨a2, [(t1, c.hours, 1, 1000), (t2, c.depth, 0, 1000), (t3, c.first, 0, 1000000)], rfl, SqL.of e4, ?_, ?_⟩
    · intro r hr
      simp only [List.mem_cons, List.not_mem_nil, or_false] at hr
      rcases hr with rfl | rfl | rfl
      · exact ⟨s4 _ _ (s3 _ _ (s2 _ _ e1)), g.hours⟩
      · exact ⟨s4 _ _ (s3 _ _ e2), g.depth⟩
      · exact ⟨s4 _ _ e3, g.first⟩
    have sm := sm.trans (s1.trans (s2.trans (s3.trans s4)))
    refine ⟨_, rfl, ?_⟩
    refine ⟨Nat.le_of_ble_eq_true rfl, fun t5 ht5 => ?_⟩
    generalize hXq : upd _ t5 _ = H5
    have s5 := laid_same hXq ht5
    have e5 := laid_at hXq
    clear hXq
    refine ⟨_, rfl, _, rfl, ?_⟩
    refine ⟨Nat.le_of_ble_eq_true rfl, fun t6 ht6 => ?_⟩
    generalize hXq : upd _ t6 _ = H6
    have s6 := laid_same hXq ht6
    have e6 := laid_at hXq
    clear hXq
    refine ⟨Nat.le_of_ble_eq_true rfl, fun a7 ha7 => ?_⟩
    generalize hXq : upd _ a7 _ = H0
    have s7 := laid_same hXq ha7
    have e7 := laid_at hXq
    clear hXq
    refine ⟨a7, [(t5, c.growth, 0, 1000), (t6, c.most, c.first, 1000000)], rfl, SqL.of e7, ?_, ?_⟩
    · intro r hr
      simp only [List.mem_cons, List.not_mem_nil, or_false] at hr
      rcases hr with rfl | rfl
      · exact ⟨s7 _ _ (s6 _ _ e5), g.growth⟩
      · exact ⟨s7 _ _ e6, g.most⟩
    have sm := sm.trans (s5.trans (s6.trans s7))
    clear e1 e2 e3 e4 e5 e6 e7 s1 s2 s3 s4 s5 s6 s7
    have h0 : H0 p = some (.ins C dx (([] : List Str).zip ([] : List V))) := sm _ _ hp
    have b0 : Bar p H H0 := Bar.same sm
    obtain ⟨b1, h1⟩ := fld_put (k := "name") (v := .str (S c.name)) h0 rfl (by decide +kernel)
    refine ⟨_, rfl, _, rfl, p, C, dx, _, rfl, h0, T.cls, T.no _ (by decide +kernel), Nat.le_of_ble_eq_true rfl, ?_⟩
    generalize upd _ p _ = H1 at b1 h1 ⊢
    obtain ⟨b2, h2⟩ := fld_put (k := "one") (v := .str (S c.one)) h1 rfl (by decide +kernel)
    refine ⟨_, rfl, _, rfl, p, C, dx, _, rfl, h1, T.cls, T.no _ (by decide +kernel), Nat.le_of_ble_eq_true rfl, ?_⟩
    generalize upd _ p _ = H2 at b2 h2 ⊢
    obtain ⟨b3, h3⟩ := fld_put (k := "other") (v := .str (S c.other)) h2 rfl (by decide +kernel)
    refine ⟨_, rfl, _, rfl, p, C, dx, _, rfl, h2, T.cls, T.no _ (by decide +kernel), Nat.le_of_ble_eq_true rfl, ?_⟩
    generalize upd _ p _ = H3 at b3 h3 ⊢
    obtain ⟨b4, h4⟩ := fld_put (k := "hours") (v := .int c.hours) h3 rfl (by decide +kernel)
    refine ⟨_, rfl, _, rfl, p, C, dx, _, rfl, h3, T.cls, T.no _ (by decide +kernel), Nat.le_of_ble_eq_true rfl, ?_⟩
    generalize upd _ p _ = H4 at b4 h4 ⊢
    obtain ⟨b5, h5⟩ := fld_put (k := "depth") (v := .int c.depth) h4 rfl (by decide +kernel)
    refine ⟨_, rfl, _, rfl, p, C, dx, _, rfl, h4, T.cls, T.no _ (by decide +kernel), Nat.le_of_ble_eq_true rfl, ?_⟩
    generalize upd _ p _ = H5 at b5 h5 ⊢
    obtain ⟨b6, h6⟩ := fld_put (k := "first") (v := .int c.first) h5 rfl (by decide +kernel)
    refine ⟨_, rfl, _, rfl, p, C, dx, _, rfl, h5, T.cls, T.no _ (by decide +kernel), Nat.le_of_ble_eq_true rfl, ?_⟩
    generalize upd _ p _ = H6 at b6 h6 ⊢
    obtain ⟨b7, h7⟩ := fld_put (k := "growth") (v := .int c.growth) h6 rfl (by decide +kernel)
    refine ⟨_, rfl, _, rfl, p, C, dx, _, rfl, h6, T.cls, T.no _ (by decide +kernel), Nat.le_of_ble_eq_true rfl, ?_⟩
    generalize upd _ p _ = H7 at b7 h7 ⊢
    obtain ⟨b8, h8⟩ := fld_put (k := "most") (v := .int c.most) h7 rfl (by decide +kernel)
    refine ⟨_, rfl, _, rfl, p, C, dx, _, rfl, h7, T.cls, T.no _ (by decide +kernel), Nat.le_of_ble_eq_true rfl, ?_⟩
    generalize upd _ p _ = H8 at b8 h8 ⊢
    exact q _ ((((((((b0.trans b1).trans b2).trans b3).trans b4).trans b5).trans b6).trans b7).trans b8) h8
theorem ok_settle {C : Addr} {f : Addr} {fd : FuncData} (F : Fun K "settle" "Vessel.settle" s_Vessel_settle f fd) (T : Cl K C vesK) : FnOk P w K mg base CX0 1 f fd ["self", "name", "port", "hour", "strength", "draught"] (spSettle C) := by
  refine F.ok sc_Vessel_settle (fun vs H Q E h => ?_) (fun cdv A outer s H vs Q E hr h => ?_)
  · obtain ⟨p, c, rfl, _⟩ := h
    rfl
  · obtain ⟨p, b, rfl, dx, h0, q⟩ := h
    refine ⟨_, (pss_cons (ps_fld (pv 0) (pv 1) rfl)
      (pss_cons (ps_fld (pv 0) (pv 2) rfl)
      (pss_cons (ps_fld (pv 0) (pv 3) rfl)
      (pss_cons (ps_fld (pv 0) (pv 4) rfl)
      (pss_one (ps_fld (pv 0) (pv 5) rfl)))))), ?_⟩
    have h0 : H p = some (.ins C dx (([] : List Str).zip ([] : List V))) := h0
    have b0 : Bar p H H := Bar.refl
    obtain ⟨b1, h1⟩ := fld_put (k := "name") (v := .str (S b.name)) h0 rfl (by decide +kernel)
    refine ⟨_, rfl, _, rfl, p, C, dx, _, rfl, h0, T.cls, T.no _ (by decide +kernel), Nat.le_of_ble_eq_true rfl, ?_⟩
    generalize upd _ p _ = H1 at b1 h1 ⊢
    obtain ⟨b2, h2⟩ := fld_put (k := "port") (v := .str (S b.port)) h1 rfl (by decide +kernel)
    refine ⟨_, rfl, _, rfl, p, C, dx, _, rfl, h1, T.cls, T.no _ (by decide +kernel), Nat.le_of_ble_eq_true rfl, ?_⟩
    generalize upd _ p _ = H2 at b2 h2 ⊢
    obtain ⟨b3, h3⟩ := fld_put (k := "hour") (v := .int b.hour) h2 rfl (by decide +kernel)
    refine ⟨_, rfl, _, rfl, p, C, dx, _, rfl, h2, T.cls, T.no _ (by decide +kernel), Nat.le_of_ble_eq_true rfl, ?_⟩
    generalize upd _ p _ = H3 at b3 h3 ⊢
    obtain ⟨b4, h4⟩ := fld_put (k := "strength") (v := .int b.strength) h3 rfl (by decide +kernel)
    refine ⟨_, rfl, _, rfl, p, C, dx, _, rfl, h3, T.cls, T.no _ (by decide +kernel), Nat.le_of_ble_eq_true rfl, ?_⟩
    generalize upd _ p _ = H4 at b4 h4 ⊢
    obtain ⟨b5, h5⟩ := fld_put (k := "draught") (v := .int b.draught) h4 rfl (by decide +kernel)
    refine ⟨_, rfl, _, rfl, p, C, dx, _, rfl, h4, T.cls, T.no _ (by decide +kernel), Nat.le_of_ble_eq_true rfl, ?_⟩
    generalize upd _ p _ = H5 at b5 h5 ⊢
    exact q _ (((((b0.trans b1).trans b2).trans b3).trans b4).trans b5) h5
theorem ok_vesMk {C : Addr} {f : Addr} {fd : FuncData} (F : Fun K "__init__" "Vessel.__init__" s_Vessel___init__ f fd) (N : Bnd mg) (T : Cl K C vesK) (DN : Dn P w K mg base CX0 2 "need_names" ["things"] (spNeedNames K)) (DU : Dn P w K mg base CX0 3 "need_numbers" ["rows"] (spNeedNums K))
    (DS : Me P w K mg base CX0 1 C "settle" ["self", "name", "port", "hour", "strength", "draught"] (spSettle C)) : FnOk P w K mg base CX0 4 f fd ["self", "name", "port", "hour", "strength", "draught"] (spVesMk C) := by
  refine F.ok sc_Vessel___init__ (fun vs H Q E h => ?_) (fun cdv A outer s H vs Q E hr h => ?_)
  · obtain ⟨p, c, rfl, _⟩ := h
    rfl
  · obtain ⟨p, b, rfl, g, dx, hp, q⟩ := h
    refine ⟨_, (pss_cons (ps_expr (pe_d DN (hr.mono (by decide)) (by rfl) pass0 (pa_cons (pe_lst (pa_cons (pv 1) (pa_cons (pv 2) pa_nil))) pa_nil)))
      (pss_cons (ps_expr (pe_d DU (hr.mono (by decide)) (by rfl) pass0 (pa_cons (pe_lst (pa_cons (pe_tup (pa_cons (pv 3) (pa_cons pe_int (pa_cons (C8.pe_gc (by rfl) N.hour) pa_nil)))) (pa_cons (pe_tup (pa_cons (pv 4) (pa_cons pe_int (pa_cons (C8.pe_gc (by rfl) N.ice) pa_nil)))) (pa_cons (pe_tup (pa_cons (pv 5) (pa_cons pe_int (pa_cons (C8.pe_gc (by rfl) N.depth) pa_nil)))) pa_nil)))) pa_nil)))
      (pss_one (ps_expr (pe_me DS T.cls (hr.mono (by decide)) pass0 (pv 0) (pa_cons (pv 1) (pa_cons (pv 2) (pa_cons (pv 3) (pa_cons (pv 4) (pa_cons (pv 5) pa_nil)))))))))), ?_⟩
    refine ⟨_, rfl, _, rfl, ?_⟩
    refine ⟨Nat.le_of_ble_eq_true rfl, fun a1 ha1 => ?_⟩
    generalize hXq : upd _ a1 _ = H1
    have s1 := laid_same hXq ha1
    have e1 := laid_at hXq
    clear hXq
    refine ⟨a1, [b.name, b.port], rfl, SqL.of e1, ?_, fun Ha sa => ?_⟩
    · intro x hx
      simp only [List.mem_cons, List.not_mem_nil, or_false] at hx
      rcases hx with rfl | rfl
      · exact g.name
      · exact g.port
    have sm := s1.trans sa
    refine ⟨_, rfl, ?_⟩
    refine ⟨Nat.le_of_ble_eq_true rfl, fun t1 ht1 => ?_⟩
    generalize hXq : upd _ t1 _ = H1
    have s1 := laid_same hXq ht1
    have e1 := laid_at hXq
    clear hXq
    refine ⟨_, rfl, ?_⟩
    refine ⟨Nat.le_of_ble_eq_true rfl, fun t2 ht2 => ?_⟩
    generalize hXq : upd _ t2 _ = H2
    have s2 := laid_same hXq ht2
    have e2 := laid_at hXq
    clear hXq
    refine ⟨_, rfl, ?_⟩
    refine ⟨Nat.le_of_ble_eq_true rfl, fun t3 ht3 => ?_⟩
    generalize hXq : upd _ t3 _ = H3
    have s3 := laid_same hXq ht3
    have e3 := laid_at hXq
    clear hXq
    refine ⟨Nat.le_of_ble_eq_true rfl, fun a2 ha2 => ?_⟩
    generalize hXq : upd _ a2 _ = H4
    have s4 := laid_same hXq ha2
    have e4 := laid_at hXq
    clear hXq
    refine ⟨a2, [(t1, b.hour, 0, 1000000), (t2, b.strength, 0, 1000000), (t3, b.draught, 0, 1000)], rfl, SqL.of e4, ?_, ?_⟩
    · intro r hr
      simp only [List.mem_cons, List.not_mem_nil, or_false] at hr
      rcases hr with rfl | rfl | rfl
      · exact ⟨s4 _ _ (s3 _ _ (s2 _ _ e1)), g.hour⟩
      · exact ⟨s4 _ _ (s3 _ _ e2), g.strength⟩
      · exact ⟨s4 _ _ e3, g.draught⟩
    have sm := sm.trans (s1.trans (s2.trans (s3.trans s4)))
    refine ⟨_, rfl, p, dx, [], rfl, sm _ _ hp, rfl, _, rfl, _, rfl, _, rfl, _, rfl, _, rfl, p, b, rfl, dx, sm _ _ hp, fun H5 b5 e5 => ?_⟩
    exact q H5 ((Bar.same sm).trans b5) e5
theorem ok_brkMk {C : Addr} {f : Addr} {fd : FuncData} (F : Fun K "__init__" "Breaker.__init__" s_Breaker___init__ f fd) (N : Bnd mg) (T : Cl K C brkK) (DU : Dn P w K mg base CX0 3 "need_numbers" ["rows"] (spNeedNums K)) {CV : Addr}
    (DV : Cm P w K mg base CX0 4 "Vessel" CV "__init__" ["self", "name", "port", "hour", "strength", "draught"] (spVesMk C)) : FnOk P w K mg base CX0 5 f fd ["self", "name", "port", "hour", "strength", "draught", "cut"] (spBrkMk C) := by
  refine F.ok sc_Breaker___init__ (fun vs H Q E h => ?_) (fun cdv A outer s H vs Q E hr h => ?_)
  · obtain ⟨p, c, rfl, _⟩ := h
    rfl
  · obtain ⟨p, b, rfl, g, dx, hp, q⟩ := h
    refine ⟨_, (pss_cons (ps_expr (pe_cm DV (hr.mono (by decide)) (by rfl) pass0 (pa_cons (pv 0) (pa_cons (pv 1) (pa_cons (pv 2) (pa_cons (pv 3) (pa_cons (pv 4) (pa_cons (pv 5) pa_nil))))))))
      (pss_cons (ps_expr (pe_d DU (hr.mono (by decide)) (by rfl) pass0 (pa_cons (pe_lst (pa_cons (pe_tup (pa_cons (pv 6) (pa_cons pe_int (pa_cons (C8.pe_gc (by rfl) N.ice) pa_nil)))) pa_nil)) pa_nil)))
      (pss_one (ps_fld (pv 0) (pv 6) rfl)))), ?_⟩
    refine ⟨_, rfl, _, rfl, _, rfl, _, rfl, _, rfl, _, rfl, p, b.toVes, rfl, g.ves, dx, hp, fun H1 b1 e1 => ?_⟩
    refine ⟨_, rfl, ?_⟩
    refine ⟨Nat.le_of_ble_eq_true rfl, fun t2 ht2 => ?_⟩
    generalize hXq : upd _ t2 _ = H2
    have s2 := laid_same hXq ht2
    have e2 := laid_at hXq
    clear hXq
    refine ⟨Nat.le_of_ble_eq_true rfl, fun t3 ht3 => ?_⟩
    generalize hXq : upd _ t3 _ = H3
    have s3 := laid_same hXq ht3
    have e3 := laid_at hXq
    clear hXq
    refine ⟨t3, [(t2, b.cut, 1, 1000000)], rfl, SqL.of e3, ?_, ?_⟩
    · intro r hr
      simp only [List.mem_cons, List.not_mem_nil, or_false] at hr
      subst hr
      exact ⟨s3 _ _ e2, g.cut⟩
    obtain ⟨b4, h4⟩ := fld_put (k := "cut") (v := .int b.cut) (s3 _ _ (s2 _ _ e1)) rfl (by decide +kernel)
    refine ⟨_, rfl, _, rfl, p, C, dx, _, rfl, s3 _ _ (s2 _ _ e1), T.cls, T.no _ (by decide +kernel), Nat.le_of_ble_eq_true rfl, ?_⟩
    exact q _ (b1.trans ((Bar.same (s2.trans s3)).trans b4)) h4
theorem ok_shpMk {C : Addr} {f : Addr} {fd : FuncData} (F : Fun K "__init__" "Ship.__init__" s_Ship___init__ f fd) (T : Cl K C shpK) (DN : Dn P w K mg base CX0 2 "need_names" ["things"] (spNeedNames K)) {CV : Addr}
    (DV : Cm P w K mg base CX0 4 "Vessel" CV "__init__" ["self", "name", "port", "hour", "strength", "draught"] (spVesMk C)) : FnOk P w K mg base CX0 5 f fd ["self", "name", "port", "goal", "hour", "strength", "draught"] (spShpMk C) := by
  refine F.ok sc_Ship___init__ (fun vs H Q E h => ?_) (fun cdv A outer s H vs Q E hr h => ?_)
  · obtain ⟨p, c, rfl, _⟩ := h
    rfl
  · obtain ⟨p, b, rfl, g, dx, hp, q⟩ := h
    refine ⟨_, (pss_cons (ps_expr (pe_d DN (hr.mono (by decide)) (by rfl) pass0 (pa_cons (pe_lst (pa_cons (pv 1) (pa_cons (pv 2) (pa_cons (pv 3) pa_nil)))) pa_nil)))
      (pss_cons (ps_expr (pe_cm DV (hr.mono (by decide)) (by rfl) pass0 (pa_cons (pv 0) (pa_cons (pv 1) (pa_cons (pv 2) (pa_cons (pv 4) (pa_cons (pv 5) (pa_cons (pv 6) pa_nil))))))))
      (pss_one (ps_fld (pv 0) (pv 3) rfl)))), ?_⟩
    refine ⟨_, rfl, _, rfl, _, rfl, ?_⟩
    refine ⟨Nat.le_of_ble_eq_true rfl, fun a1 ha1 => ?_⟩
    generalize hXq : upd _ a1 _ = H1
    have s1 := laid_same hXq ha1
    have e1 := laid_at hXq
    clear hXq
    refine ⟨a1, [b.name, b.port, b.goal], rfl, SqL.of e1, ?_, fun Ha sa => ?_⟩
    · intro x hx
      simp only [List.mem_cons, List.not_mem_nil, or_false] at hx
      rcases hx with rfl | rfl | rfl
      · exact g.ves.name
      · exact g.ves.port
      · exact g.goal
    have sm := s1.trans sa
    refine ⟨_, rfl, _, rfl, _, rfl, _, rfl, _, rfl, _, rfl, p, b.toVes, rfl, g.ves, dx, sm _ _ hp, fun H2 b2 e2 => ?_⟩
    obtain ⟨b4, h4⟩ := fld_put (k := "goal") (v := .str (S b.goal)) e2 rfl (by decide +kernel)
    refine ⟨_, rfl, _, rfl, p, C, dx, _, rfl, e2, T.cls, T.no _ (by decide +kernel), Nat.le_of_ble_eq_true rfl, ?_⟩
    exact q _ ((Bar.same sm).trans (b2.trans b4)) h4
end
end Law
end
section
set_option Elab.async false
set_option linter.all false
set_option maxRecDepth 100000
set_option maxHeartbeats 4000000
namespace Law
open PySem PySem.Spec PyProof.Rows L2 IK SX
/-! ### rows, lists of objects, what a world asks -/
theorem zip_inj {ks : List Str} {a b : List V} (ha : a.length = ks.length) (hb : b.length = ks.length) (h : ks.zip a = ks.zip b) : a = b := by
  rw [← List.map_snd_zip (l₁ := ks) (l₂ := a) (Nat.le_of_eq ha), h, List.map_snd_zip (Nat.le_of_eq hb)]
theorem ObjAt.eq {C C' p : Addr} {H : Hp} {ks : List Str} {a b : List V} (ha : a.length = ks.length) (hb : b.length = ks.length) (h : ObjAt C H p ks a) (k : ObjAt C' H p ks b) : a = b := by
  obtain ⟨dx, h⟩ := h
  obtain ⟨dy, k⟩ := k
  rw [h] at k
  have e := Option.some.inj k
  injection e with _ _ e
  exact zip_inj ha hb e
/-- objects of the class at C, with their fields -/
def Objs (C : Addr) (H : Hp) (ks : List Str) (xs : List V) (vss : List (List V)) : Prop := xs.length = vss.length ∧ ∀ (i : Nat) (x : V) (vs : List V), xs[i]? = some x → vss[i]? = some vs → ∃ p, x = .ref p ∧ ObjAt C H p ks vs
theorem Objs.same {C : Addr} {H H' : Hp} {ks : List Str} {xs : List V} {vss : List (List V)} (h : Objs C H ks xs vss) (s : Same H H') : Objs C H' ks xs vss := ⟨h.1, fun i x vs h1 h2 => by
  obtain ⟨p, e, h⟩ := h.2 i x vs h1 h2
  exact ⟨p, e, h.same s⟩⟩
theorem Objs.mem {C : Addr} {H : Hp} {ks : List Str} {α : Type} {vals : α → List V} {l : List α} {xs : List V} (h : Objs C H ks xs (l.map vals)) {x : V} (hx : x ∈ xs) : ∃ p a, x = .ref p ∧ a ∈ l ∧ ObjAt C H p ks (vals a) := by
  obtain ⟨i, hi⟩ := List.getElem?_of_mem hx
  have h1 : i < l.length := by
    have := (List.getElem?_eq_some_iff.mp hi).1
    have := h.1
    rw [List.length_map] at this
    omega
  obtain ⟨p, e, o⟩ := h.2 i x (vals l[i]) hi (by simp [h1])
  exact ⟨p, l[i], e, List.getElem_mem h1, o⟩
/-- tuples -/
def RowsIs (H : Hp) (ys : List V) (rows : List (List V)) : Prop := ys.length = rows.length ∧ ∀ (i : Nat) (y : V) (r : List V), ys[i]? = some y → rows[i]? = some r → ∃ a, y = .ref a ∧ H a = some (.tup r)
theorem RowsIs.same {H H' : Hp} {ys : List V} {rows : List (List V)} (h : RowsIs H ys rows) (s : Same H H') : RowsIs H' ys rows := ⟨h.1, fun i y r h1 h2 => by
  obtain ⟨a, e, h⟩ := h.2 i y r h1 h2
  exact ⟨a, e, s _ _ h⟩⟩
theorem RowsIs.mem {H : Hp} {α : Type} {row : α → List V} {l : List α} {xs : List V} (h : RowsIs H xs (l.map row)) {x : V} (hx : x ∈ xs) : ∃ p a, x = .ref p ∧ a ∈ l ∧ H p = some (.tup (row a)) := by
  obtain ⟨i, hi⟩ := List.getElem?_of_mem hx
  have h1 : i < l.length := by
    have := (List.getElem?_eq_some_iff.mp hi).1
    have := h.1
    rw [List.length_map] at this
    omega
  obtain ⟨p, e, o⟩ := h.2 i x (row l[i]) hi (by simp [h1])
  exact ⟨p, l[i], e, List.getElem_mem h1, o⟩
/-- from what each gives -/
theorem rows_of {α : Type} {C : Addr} {H0 H : Hp} {ks : List Str} {l : List α} {vals row : α → List V} {xs ys : List V} (hl : ∀ a, (vals a).length = ks.length) (hv : ∀ a b, vals a = vals b → row a = row b) (hO : Objs C H0 ks xs (l.map vals))
    (hE : Each (fun x y => ∃ p b, x = .ref p ∧ ObjAt C H0 p ks (vals b) ∧ ∃ a, y = .ref a ∧ H a = some (.tup (row b))) xs ys) : RowsIs H ys (l.map row) := by
  refine ⟨by rw [hE.1, hO.1, List.length_map, List.length_map], fun i y r hy hr => ?_⟩
  rw [List.getElem?_map] at hr
  cases e : l[i]? with
  | none => rw [e] at hr; cases hr
  | some a =>
    rw [e] at hr
    obtain rfl := Option.some.inj hr
    have hx : i < xs.length := by rw [← hE.1]; exact (List.getElem?_eq_some_iff.mp hy).1
    obtain ⟨p, e1, o1⟩ := hO.2 i xs[i] (vals a) (by simp [hx]) (by rw [List.getElem?_map, e]; rfl)
    obtain ⟨p', b, e2, o2, q, e3, h3⟩ := hE.2 i xs[i] y (by simp [hx]) hy
    rw [e1] at e2
    injection e2 with e2
    subst e2
    exact ⟨q, e3, by rw [hv _ _ (ObjAt.eq (hl _) (hl _) o1 o2)]; exact h3⟩
theorem objs_of {α : Type} {C : Addr} {H0 H : Hp} {ks : List Str} {l : List α} {vals row : α → List V} {xs ys : List V} (hv : ∀ a b, row a = row b → vals a = vals b) (hR : RowsIs H0 xs (l.map row))
    (hE : Each (fun x y => ∃ p b, x = .ref p ∧ H0 p = some (.tup (row b)) ∧ ∃ a, y = .ref a ∧ ObjAt C H a ks (vals b)) xs ys) : Objs C H ks ys (l.map vals) := by
  refine ⟨by rw [hE.1, hR.1, List.length_map, List.length_map], fun i y r hy hr => ?_⟩
  rw [List.getElem?_map] at hr
  cases e : l[i]? with
  | none => rw [e] at hr; cases hr
  | some a =>
    rw [e] at hr
    obtain rfl := Option.some.inj hr
    have hx : i < xs.length := by rw [← hE.1]; exact (List.getElem?_eq_some_iff.mp hy).1
    obtain ⟨p, e1, o1⟩ := hR.2 i xs[i] (row a) (by simp [hx]) (by rw [List.getElem?_map, e]; rfl)
    obtain ⟨p', b, e2, o2, q, e3, h3⟩ := hE.2 i xs[i] y (by simp [hx]) hy
    rw [e1] at e2
    injection e2 with e2
    subst e2
    rw [o1] at o2
    have e4 := Option.some.inj o2
    injection e4 with e4
    exact ⟨q, e3, by rw [hv _ _ e4]; exact h3⟩
/-- a field of each -/
theorem flds_of {α : Type} {C : Addr} {H0 : Hp} {ks : List Str} {l : List α} {vals : α → List V} {f : α → V} {k : Str} {j : Nat} {xs ys : List V} (hn : ks.Nodup) (hk : ks[j]? = some k) (hf : ∀ a, (vals a)[j]? = some (f a)) (hO : Objs C H0 ks xs (l.map vals))
    (hE : Each (fun x y => ∃ p C dx fs, x = .ref p ∧ H0 p = some (.ins C dx fs) ∧ fs.lookup k = some y) xs ys) : ys = l.map f := by
  have hlen : ys.length = l.length := by rw [hE.1, hO.1, List.length_map]
  refine List.ext_getElem? fun i => ?_
  rw [List.getElem?_map]
  cases e : l[i]? with
  | none =>
    have e2 : l.length ≤ i := List.getElem?_eq_none_iff.mp e
    rw [List.getElem?_eq_none_iff.mpr (by omega)]
    rfl
  | some a =>
    have hi : i < l.length := (List.getElem?_eq_some_iff.mp e).1
    have hx : i < xs.length := by rw [← hE.1]; omega
    have hy : i < ys.length := by omega
    obtain ⟨p, e1, dx, o1⟩ := hO.2 i xs[i] (vals a) (by simp [hx]) (by rw [List.getElem?_map, e]; rfl)
    obtain ⟨p', C', dy, fs, e2, o2, e3⟩ := hE.2 i xs[i] ys[i] (by simp [hx]) (by simp [hy])
    rw [e1] at e2
    injection e2 with e2
    subst e2
    rw [o1] at o2
    have e4 := Option.some.inj o2
    injection e4 with _ _ e4
    subst e4
    rw [look_zip hn hk (hf a)] at e3
    rw [List.getElem?_eq_getElem hy, ← Option.some.inj e3]
    rfl
theorem Each.split {F : V → V → Prop} {a b ys : List V} (h : Each F (a ++ b) ys) : Each F a (ys.take a.length) ∧ Each F b (ys.drop a.length) := by
  obtain ⟨h1, h2⟩ := h
  rw [List.length_append] at h1
  refine ⟨⟨by rw [List.length_take]; omega, fun i x y hx hy => ?_⟩, ⟨by rw [List.length_drop]; omega, fun i x y hx hy => ?_⟩⟩
  · have hi : i < a.length := (List.getElem?_eq_some_iff.mp hx).1
    rw [List.getElem?_take, if_pos hi] at hy
    exact h2 i x y (by rw [List.getElem?_append_left hi]; exact hx) hy
  · rw [List.getElem?_drop] at hy
    exact h2 _ x y (by rw [List.getElem?_append_right (by omega), Nat.add_sub_cancel_left]; exact hx) hy
theorem chan_nd : chanK.Nodup := by decide +kernel
theorem ves_nd : vesK.Nodup := by decide +kernel
theorem brk_nd : brkK.Nodup := by decide +kernel
theorem shp_nd : shpK.Nodup := by decide +kernel
def spRow {α : Type} (C : Addr) (ks : List Str) (vals row : α → List V) : Sp := fun vs H Q _ => ∃ (p : Addr) (b : α), vs = [.ref p] ∧ ObjAt C H p ks (vals b) ∧ ∀ a H', H a = none → Same H H' → H' a = some (.tup (row b)) → Q (.ref a) H'
section
variable {P : Program} {w : World} {K : PySem.W.Frag} {mg : Str → Option Value} {base : Heap}
theorem ok_chanRow {C : Addr} {f : Addr} {fd : FuncData} (F : Fun K "row" "Channel.row" s_Channel_row f fd) (T : Cl K C chanK) : FnOk P w K mg base CX0 1 f fd ["self"] (spRow C chanK Chan.vals Chan.vals) := by
  refine F.ok sc_Channel_row (fun vs H Q E h => ?_) (fun cdv A outer s H vs Q E hr h => ?_)
  · obtain ⟨p, c, rfl, _⟩ := h
    rfl
  · obtain ⟨p, c, rfl, ⟨dx, o⟩, q⟩ := h
    refine ⟨_, (pss_one (ps_ret (pe_tup (pa_cons (pe_fld (pv 0) rfl) (pa_cons (pe_fld (pv 0) rfl) (pa_cons (pe_fld (pv 0) rfl) (pa_cons (pe_fld (pv 0) rfl) (pa_cons (pe_fld (pv 0) rfl) (pa_cons (pe_fld (pv 0) rfl) (pa_cons (pe_fld (pv 0) rfl) (pa_cons (pe_fld (pv 0) rfl) pa_nil))))))))))), ?_⟩
    refine ⟨_, rfl, ?_⟩
    refine ⟨_, _, _, _, _, rfl, o, Cl.cls T, Cl.no T _ (by decide +kernel), look_zip (i := 0) chan_nd rfl rfl, ?_⟩
    refine ⟨_, rfl, ?_⟩
    refine ⟨_, _, _, _, _, rfl, o, Cl.cls T, Cl.no T _ (by decide +kernel), look_zip (i := 1) chan_nd rfl rfl, ?_⟩
    refine ⟨_, rfl, ?_⟩
    refine ⟨_, _, _, _, _, rfl, o, Cl.cls T, Cl.no T _ (by decide +kernel), look_zip (i := 2) chan_nd rfl rfl, ?_⟩
    refine ⟨_, rfl, ?_⟩
    refine ⟨_, _, _, _, _, rfl, o, Cl.cls T, Cl.no T _ (by decide +kernel), look_zip (i := 3) chan_nd rfl rfl, ?_⟩
    refine ⟨_, rfl, ?_⟩
    refine ⟨_, _, _, _, _, rfl, o, Cl.cls T, Cl.no T _ (by decide +kernel), look_zip (i := 4) chan_nd rfl rfl, ?_⟩
    refine ⟨_, rfl, ?_⟩
    refine ⟨_, _, _, _, _, rfl, o, Cl.cls T, Cl.no T _ (by decide +kernel), look_zip (i := 5) chan_nd rfl rfl, ?_⟩
    refine ⟨_, rfl, ?_⟩
    refine ⟨_, _, _, _, _, rfl, o, Cl.cls T, Cl.no T _ (by decide +kernel), look_zip (i := 6) chan_nd rfl rfl, ?_⟩
    refine ⟨_, rfl, ?_⟩
    refine ⟨_, _, _, _, _, rfl, o, Cl.cls T, Cl.no T _ (by decide +kernel), look_zip (i := 7) chan_nd rfl rfl, ?_⟩
    refine ⟨Nat.le_of_ble_eq_true rfl, fun a ha => ?_⟩
    generalize hXq : upd _ a _ = H1
    have s1 := laid_same hXq ha
    have e1 := laid_at hXq
    clear hXq
    exact q a H1 ha s1 e1
theorem ok_vesRow {C : Addr} {f : Addr} {fd : FuncData} (F : Fun K "row" "Vessel.row" s_Vessel_row f fd) (T : Cl K C brkK) : FnOk P w K mg base CX0 1 f fd ["self"] (spRow C brkK Brk.vals (fun b => b.toVes.vals)) := by
  refine F.ok sc_Vessel_row (fun vs H Q E h => ?_) (fun cdv A outer s H vs Q E hr h => ?_)
  · obtain ⟨p, c, rfl, _⟩ := h
    rfl
  · obtain ⟨p, c, rfl, ⟨dx, o⟩, q⟩ := h
    refine ⟨_, (pss_one (ps_ret (pe_tup (pa_cons (pe_fld (pv 0) rfl) (pa_cons (pe_fld (pv 0) rfl) (pa_cons (pe_fld (pv 0) rfl) (pa_cons (pe_fld (pv 0) rfl) (pa_cons (pe_fld (pv 0) rfl) pa_nil)))))))), ?_⟩
    refine ⟨_, rfl, ?_⟩
    refine ⟨_, _, _, _, _, rfl, o, Cl.cls T, Cl.no T _ (by decide +kernel), look_zip (i := 0) brk_nd rfl rfl, ?_⟩
    refine ⟨_, rfl, ?_⟩
    refine ⟨_, _, _, _, _, rfl, o, Cl.cls T, Cl.no T _ (by decide +kernel), look_zip (i := 1) brk_nd rfl rfl, ?_⟩
    refine ⟨_, rfl, ?_⟩
    refine ⟨_, _, _, _, _, rfl, o, Cl.cls T, Cl.no T _ (by decide +kernel), look_zip (i := 2) brk_nd rfl rfl, ?_⟩
    refine ⟨_, rfl, ?_⟩
    refine ⟨_, _, _, _, _, rfl, o, Cl.cls T, Cl.no T _ (by decide +kernel), look_zip (i := 3) brk_nd rfl rfl, ?_⟩
    refine ⟨_, rfl, ?_⟩
    refine ⟨_, _, _, _, _, rfl, o, Cl.cls T, Cl.no T _ (by decide +kernel), look_zip (i := 4) brk_nd rfl rfl, ?_⟩
    refine ⟨Nat.le_of_ble_eq_true rfl, fun a ha => ?_⟩
    generalize hXq : upd _ a _ = H1
    have s1 := laid_same hXq ha
    have e1 := laid_at hXq
    clear hXq
    exact q a H1 ha s1 e1
theorem ok_brkRow {C CV : Addr} {f : Addr} {fd : FuncData} (F : Fun K "row" "Breaker.row" s_Breaker_row f fd) (T : Cl K C brkK) (DV : Cm P w K mg base CX0 1 "Vessel" CV "row" ["self"] (spRow C brkK Brk.vals (fun b => b.toVes.vals))) : FnOk P w K mg base CX0 2 f fd ["self"] (spRow C brkK Brk.vals Brk.vals) := by
  refine F.ok sc_Breaker_row (fun vs H Q E h => ?_) (fun cdv A outer s H vs Q E hr h => ?_)
  · obtain ⟨p, c, rfl, _⟩ := h
    rfl
  · obtain ⟨p, c, rfl, ⟨dx, o⟩, q⟩ := h
    refine ⟨_, (pss_one (ps_ret (pe_op op_catT (pe_cm DV (hr.mono (by decide)) (by rfl) pass0 (pa_cons (pv 0) pa_nil)) (pe_tup (pa_cons (pe_fld (pv 0) rfl) pa_nil))))), ?_⟩
    refine ⟨_, rfl, p, c, rfl, ⟨dx, o⟩, fun a H1 ha s1 e1 => ?_⟩
    refine ⟨_, rfl, ?_⟩
    refine ⟨_, _, _, _, _, rfl, (s1 _ _ o), Cl.cls T, Cl.no T _ (by decide +kernel), look_zip (i := 5) brk_nd rfl rfl, ?_⟩
    refine ⟨Nat.le_of_ble_eq_true rfl, fun b hb => ?_⟩
    generalize hXq : upd _ b _ = H2
    have s2 := laid_same hXq hb
    have e2 := laid_at hXq
    clear hXq
    refine ⟨a, b, _, _, rfl, rfl, .inl (.inl (s2 _ _ e1)), .inl (.inl e2), by simp, Nat.le_of_ble_eq_true rfl, (fun z => by cases z), fun _ d hd => ?_⟩
    generalize hXq : upd _ d _ = H3
    have s3 := laid_same hXq hd
    have e3 := laid_at hXq
    clear hXq
    exact q d H3 (none_back (s1.trans s2) hd) (s1.trans (s2.trans s3)) e3
theorem ok_shpRow {C : Addr} {f : Addr} {fd : FuncData} (F : Fun K "row" "Ship.row" s_Ship_row f fd) (T : Cl K C shpK) : FnOk P w K mg base CX0 1 f fd ["self"] (spRow C shpK Shp.vals Shp.row) := by
  refine F.ok sc_Ship_row (fun vs H Q E h => ?_) (fun cdv A outer s H vs Q E hr h => ?_)
  · obtain ⟨p, c, rfl, _⟩ := h
    rfl
  · obtain ⟨p, c, rfl, ⟨dx, o⟩, q⟩ := h
    refine ⟨_, (pss_one (ps_ret (pe_tup (pa_cons (pe_fld (pv 0) rfl) (pa_cons (pe_fld (pv 0) rfl) (pa_cons (pe_fld (pv 0) rfl) (pa_cons (pe_fld (pv 0) rfl) (pa_cons (pe_fld (pv 0) rfl) (pa_cons (pe_fld (pv 0) rfl) pa_nil))))))))), ?_⟩
    refine ⟨_, rfl, ?_⟩
    refine ⟨_, _, _, _, _, rfl, o, Cl.cls T, Cl.no T _ (by decide +kernel), look_zip (i := 0) shp_nd rfl rfl, ?_⟩
    refine ⟨_, rfl, ?_⟩
    refine ⟨_, _, _, _, _, rfl, o, Cl.cls T, Cl.no T _ (by decide +kernel), look_zip (i := 1) shp_nd rfl rfl, ?_⟩
    refine ⟨_, rfl, ?_⟩
    refine ⟨_, _, _, _, _, rfl, o, Cl.cls T, Cl.no T _ (by decide +kernel), look_zip (i := 5) shp_nd rfl rfl, ?_⟩
    refine ⟨_, rfl, ?_⟩
    refine ⟨_, _, _, _, _, rfl, o, Cl.cls T, Cl.no T _ (by decide +kernel), look_zip (i := 2) shp_nd rfl rfl, ?_⟩
    refine ⟨_, rfl, ?_⟩
    refine ⟨_, _, _, _, _, rfl, o, Cl.cls T, Cl.no T _ (by decide +kernel), look_zip (i := 3) shp_nd rfl rfl, ?_⟩
    refine ⟨_, rfl, ?_⟩
    refine ⟨_, _, _, _, _, rfl, o, Cl.cls T, Cl.no T _ (by decide +kernel), look_zip (i := 4) shp_nd rfl rfl, ?_⟩
    refine ⟨Nat.le_of_ble_eq_true rfl, fun a ha => ?_⟩
    generalize hXq : upd _ a _ = H1
    have s1 := laid_same hXq ha
    have e1 := laid_at hXq
    clear hXq
    exact q a H1 ha s1 e1
end
end Law
end
section
set_option Elab.async false
set_option linter.all false
set_option maxRecDepth 100000
set_option maxHeartbeats 4000000
namespace Law
open PySem PySem.Spec PyProof.Rows L2 IK SX
/-! ### what a world asks -/
/-- an own class, its instances known by isinstance -/
structure OCl (K : PySem.W.Frag) (C : Addr) : Prop where
  cl : Cls K C
  ha : PySem.W.findIn K (.ref C) "__class__" = some (some (.builtin "object.__class__"))
  hn : PySem.W.specialIn K (.builtin "object.__class__") "__get__" = some (some (.builtin "getset_descriptor.__get__"))
  ht : PySem.W.takesIn K (.builtin "object.__class__") = some true
  hm : PySem.W.mroIn K C (.type "object") = some true
  self : PySem.W.kitOne K (.ref C) (.ref C) = some true
abbrev GC (mg : Str → Option Value) (x : Str) (C : Addr) : Prop := ∃ u, mg x = some u ∧ RelV (.ref C) u
/-- the classes -/
structure KCl (K : PySem.W.Frag) (mg : Str → Option Value) (CC CB CS : Addr) : Prop where
  gC : GC mg "Channel" CC
  gB : GC mg "Breaker" CB
  gS : GC mg "Ship" CS
  oC : OCl K CC
  oB : OCl K CB
  oS : OCl K CS
structure WBnd (mg : Str → Option Value) : Prop where
  begin : GI mg "MOST_BEGIN" 1000000
  ports : GI mg "MOST_PORTS" 8
  channels : GI mg "MOST_CHANNELS" 12
  breakers : GI mg "MOST_BREAKERS" 4
  ships : GI mg "MOST_SHIPS" 6
theorem sqA_ty {K : PySem.W.Frag} {H : Hp} {a : Addr} {xs : List V} (h : SqA K H a xs) : ∃ t, TyX K H (.ref a) t ∧ PySem.W.kitAny K t [.type "list", .type "tuple"] = some true := by
  have hl : PySem.W.kitAny K (.type "list") [.type "list", .type "tuple"] = some true := kitAny_cons (b := true) (kit_ty (by decide +kernel)) (fun z => nomatch z) fun _ => rfl
  have ht : PySem.W.kitAny K (.type "tuple") [.type "list", .type "tuple"] = some true := kitAny_cons (b := false) (kit_ty (by decide +kernel)) (fun _ => kitAny_cons (b := true) (kit_ty (by decide +kernel)) (fun z => nomatch z) fun _ => rfl) (fun z => nomatch z)
  rcases h with h | h
  · rcases h with (h | ⟨o, h⟩) | ⟨o, its, n, l, c, _⟩
    · exact ⟨_, .base (.lst h), hl⟩
    · exact ⟨_, .base (.frz h), hl⟩
    · exact ⟨_, .kList l c, hl⟩
  · rcases h with (h | ⟨o, h⟩) | ⟨o, its, n, l, c, _⟩
    · exact ⟨_, .base (.tup h), ht⟩
    · exact ⟨_, .fTuple h, ht⟩
    · exact ⟨_, .kTuple l c, ht⟩
/-- neither a list nor a tuple -/
def noSeq : HO → Bool
  | .lst _ | .tup _ | .frz _ _ => false
  | _ => true
theorem kp_bar {K : PySem.W.Frag} {a d : Addr} {H H' : Hp} {o : HO} (b : Bar d H H') (hd : H d = some o) (no : noSeq o = true := by rfl) : Kp K a H H' := fun xs => by
  have z : ∀ {u : HO}, (noSeq u = false) → Rd H a u → Rd H' a u := fun hu h => by
    rcases h with h | ⟨o', h⟩
    · refine .inl (b _ _ (fun z => ?_) h)
      rw [z, hd] at h
      rw [Option.some.inj h, hu] at no
      cases no
    · refine .inr ⟨o', b _ _ (fun z => ?_) h⟩
      rw [z, hd] at h
      rw [Option.some.inj h] at no
      cases no
  refine ⟨fun h => ?_, fun h => ?_⟩
  · rcases h with h | h
    · exact .inl (z rfl h)
    · exact .inr h
  · rcases h with h | h
    · exact .inl (z rfl h)
    · exact .inr h
theorem sqA_kp {K : PySem.W.Frag} {H H' : Hp} {a : Addr} {xs : List V} (h : SqA K H a xs) (k : Kp K a H H') : SqA K H' a xs := by
  rcases h with h | h
  · exact .inl ((k xs).1 h)
  · exact .inr ((k xs).2 h)
theorem room_u1 {k : Nat} {A : Around} (hr : Room k A) : A.units + 1 < cLine := by
  have := hr.units
  omega
def spIsList (K : PySem.W.Frag) : Sp := fun vs H Q _ => ∃ (a : Addr) (xs : List V) (lo hi : Int), vs = [.ref a, .int lo, .int hi] ∧ SqA K H a xs ∧ lo ≤ xs.length ∧ xs.length ≤ hi ∧ ∀ H', Same H H' → Q (.bl true) H'
/-- a world, as it is told -/
structure Wld where
  begin : Int
  ports : List (List Nat)
  chans : List Chan
  brks : List Brk
  shps : List Shp
structure Wld.Good (W : Wld) : Prop where
  begin : 0 ≤ W.begin ∧ W.begin ≤ 1000000
  ports : 1 ≤ W.ports.length ∧ W.ports.length ≤ 8
  names : ∀ w ∈ W.ports, isName w = true
  nd : W.ports.Nodup
  chans : W.chans.length ≤ 12
  good : ∀ c ∈ W.chans, c.Good
  cnd : (W.chans.map Chan.name).Nodup
  ends : ∀ c ∈ W.chans, c.one ∈ W.ports ∧ c.other ∈ W.ports
  brks : W.brks.length ≤ 4
  bgood : ∀ b ∈ W.brks, b.Good
  bports : ∀ b ∈ W.brks, b.port ∈ W.ports
  shps : W.shps.length ≤ 6
  sgood : ∀ b ∈ W.shps, b.Good
  sports : ∀ b ∈ W.shps, b.port ∈ W.ports ∧ b.goal ∈ W.ports
  vnd : (W.brks.map (fun b => b.name) ++ W.shps.map (fun b => b.name)).Nodup
def spNeedKinds (K : PySem.W.Frag) (CC CB CS : Addr) : Sp := fun vs H Q _ => ∃ (ap ac ab as : Addr) (W : Wld) (xc xb xs : List V), vs = [.ref ap, .ref ac, .ref ab, .ref as] ∧ W.Good ∧ SqA K H ap (txts W.ports) ∧ SqA K H ac xc ∧ Objs CC H chanK xc (W.chans.map Chan.vals) ∧
  SqA K H ab xb ∧ Objs CB H brkK xb (W.brks.map Brk.vals) ∧ SqA K H as xs ∧ Objs CS H shpK xs (W.shps.map Shp.vals) ∧ ∀ H', Same H H' → Q .non H'
def spUnlike (K : PySem.W.Frag) : Sp := fun vs H Q _ => ∃ (a : Addr) (ws : List (List Nat)), vs = [.ref a] ∧ SqA K H a (txts ws) ∧ ws.Nodup ∧ ws.length ≤ 1000 ∧ ∀ H', Same H H' → Q .non H'
def spNeedPorts (K : PySem.W.Frag) : Sp := fun vs H Q _ => ∃ (a b : Addr) (ws ps : List (List Nat)), vs = [.ref a, .ref b] ∧ SqA K H a (txts ws) ∧ SqA K H b (txts ps) ∧ (∀ w ∈ ws, w ∈ ps) ∧ Q .non H
theorem all_true {l : List V} {n : Nat} (h : Each (fun _ y => y = .bl true) (List.replicate n (V.non)) l) : l = (List.replicate n true).map V.bl := by
  refine List.ext_getElem? fun i => ?_
  obtain ⟨h1, h2⟩ := h
  simp only [List.length_replicate] at h1
  by_cases hi : i < n
  · have e : l[i]? = some l[i] := List.getElem?_eq_getElem (by omega)
    rw [h2 i .non _ (by simp [hi]) e] at e
    rw [e]
    simp [hi]
  · rw [List.getElem?_eq_none_iff.mpr (by omega), List.getElem?_eq_none_iff.mpr (by simp; omega)]
theorem each_true {xs ys : List V} (h : Each (fun _ y => y = .bl true) xs ys) : ys = (xs.map fun _ => true).map V.bl := by
  refine List.ext_getElem? fun i => ?_
  obtain ⟨h1, h2⟩ := h
  by_cases hi : i < xs.length
  · have e : ys[i]? = some ys[i] := List.getElem?_eq_getElem (by omega)
    rw [h2 i xs[i] _ (by simp [hi]) e] at e
    rw [e]
    simp [hi]
  · rw [List.getElem?_eq_none_iff.mpr (by omega), List.getElem?_eq_none_iff.mpr (by simp; omega)]
theorem all_yes (xs : List V) : (xs.map fun _ => true).all id = true := by simp
theorem inV_txts {w : List Nat} {ps : List (List Nat)} (h : w ∈ ps) : inV (.str (S w)) (txts ps) = true := by
  unfold inV
  rw [List.any_eq_true]
  exact ⟨.str (S w), List.mem_map.mpr ⟨w, h, rfl⟩, by simp [eqV]⟩
theorem flat_txts {ps : List (List Nat)} : (txts ps).all flatV = true := by
  rw [List.all_eq_true]
  intro x hx
  obtain ⟨w, _, rfl⟩ := List.mem_map.mp hx
  rfl
def IsC (K : PySem.W.Frag) (H : Hp) (x : V) (C : Addr) : Prop := ∀ Q : VK, Q (.bl true) H → rIsi K [x, .ref C] H Q
section
variable {P : Program} {w : World} {K : PySem.W.Frag} {mg : Str → Option Value} {base : Heap}
theorem ok_isList {f : Addr} {fd : FuncData} (F : Fun K "is_list" "is_list" s_is_list f fd) (B : Blt mg) : FnOk P w K mg base CX0 1 f fd ["thing", "low", "high"] (spIsList K) := by
  refine F.ok sc_is_list (fun vs H Q E h => ?_) (fun cdv A outer s H vs Q E hr h => ?_)
  · obtain ⟨a, xs, lo, hi, rfl, _⟩ := h
    rfl
  · obtain ⟨a, xs, lo, hi, rfl, hq, h1, h2, q⟩ := h
    refine ⟨_, (pss_one (ps_ret (pe_and (pe_callB call_isiT (by rfl) B.isi (by decide +kernel) (pa_cons (pv 0) (pa_cons (pe_tup (pa_cons (pe_bltn (v := .ty "list") (by rfl) B.list (by decide +kernel) rfl) (pa_cons (pe_bltn (v := .ty "tuple") (by rfl) B.tuple (by decide +kernel) rfl) pa_nil))) pa_nil))) (pe_one (pe_chain op_le op_le (pv 1) (pe_callB call_len_seq (by rfl) B.len PySem.boot_len (pa_cons (pv 0) pa_nil)) (pv 2)))))), ?_⟩
    refine ⟨_, rfl, ?_⟩
    refine ⟨Nat.le_of_ble_eq_true rfl, fun t ht => ?_⟩
    generalize hXq : upd _ t _ = H1
    have s1 := laid_same hXq ht
    have e1 := laid_at hXq
    clear hXq
    obtain ⟨ty, t1, t2⟩ := sqA_ty (hq.same s1)
    refine ⟨_, _, _, _, _, true, rfl, e1, .cons (.ty _) (.cons (.ty _) .nil), t1, t2, true, rfl, iteT ?_⟩
    refine ⟨_, rfl, _, rfl, a, xs, rfl, hq.same s1, _, _, rfl, rfl, _, rfl, ?_⟩
    rw [decide_eq_true h1]
    refine iteT ⟨_, rfl, _, _, rfl, rfl, ?_⟩
    show Q (.bl (decide ((xs.length : Int) ≤ hi))) H1
    rw [decide_eq_true h2]
    exact q H1 s1
theorem ok_unlike {f : Addr} {fd : FuncData} (F : Fun K "need_unlike" "need_unlike" s_need_unlike f fd) : FnOk P w K mg base CX0 1 f fd ["names"] (spUnlike K) := by
  refine F.ok sc_need_unlike (fun vs H Q E h => ?_) (fun cdv A outer s H vs Q E hr h => ?_)
  · obtain ⟨a, xs, rfl, _⟩ := h
    rfl
  · obtain ⟨a, ws, rfl, hq, nd, hl, q⟩ := h
    have hu := room_u1 hr
    refine ⟨_, (pss_cons (ps_set (i := 1) sc_need_unlike.nd rfl (.inl rfl) pe_dnewK)
      (pss_one (ps_for PassesOwn.never rfl (pi_seq (pv 0)) (pg_name (i := 2) sc_need_unlike.nd rfl (.inl rfl))
      (pss_cons (ps_if (pt_cmp (pc_din hu (pv 2) (pv 1))) pss_dead pss_nil)
      (pss_one (ps_dput hu (pv 1) (pv 2) pe_bl rfl)))))), ?_⟩
    refine fun d hd => ?_
    generalize hXq : upd _ d _ = H1
    have s1 := laid_same hXq hd
    have e1 := laid_at hXq
    clear hXq
    refine ⟨_, rfl, a, rfl, for_seq (hq.same s1) (fun i σ H' => ∃ y kvs, σ = [some (.ref a), some (.ref d), y] ∧ Bar d H1 H' ∧ H' d = some (.dK kvs) ∧ kvs.length ≤ i ∧ i ≤ ws.length ∧ ∀ k, (valV kvs k).isSome = true → ∃ w ∈ ws.take i, k = .inr (S w)) ⟨_, [], rfl, Bar.refl, e1, Nat.zero_le _, Nat.zero_le _, fun k hk => by simp [valV_nil] at hk⟩ ?_ ?_ ?_⟩
    · rintro i σ H' ⟨y, kvs, rfl, b, _⟩
      exact kp_bar b e1
    · rintro i x σ H' hx ⟨y, kvs, rfl, b, hd', hk, hi, hv⟩
      rw [List.getElem?_map] at hx
      obtain ⟨wd, hwd, rfl⟩ : ∃ wd, ws[i]? = some wd ∧ x = .str (S wd) := by
        cases e : ws[i]? with
        | none => rw [e] at hx; cases hx
        | some wd => rw [e] at hx; exact ⟨wd, rfl, (Option.some.inj hx).symm⟩
      have hi' : i < ws.length := (List.getElem?_eq_some_iff.mp hwd).1
      have no : valV kvs (.inr (S wd)) = none := by
        cases e : valV kvs (.inr (S wd)) with
        | none => rfl
        | some o =>
          obtain ⟨w', hw', e'⟩ := hv (.inr (S wd)) (by rw [e]; rfl)
          have e2 : S wd = S w' := by injection e'
          have e3 := S_inj e2
          subst e3
          obtain ⟨j, hj⟩ := List.getElem?_of_mem hw'
          rw [List.getElem?_take] at hj
          split at hj
          · have hj' : j < ws.length := (List.getElem?_eq_some_iff.mp hj).1
            have := (List.getElem?_inj hj' nd).mp (hj.trans hwd.symm)
            omega
          · cases hj
      refine ⟨_, rfl, _, rfl, d, _, rfl, DGet.k (k := .inr (S wd)) hd', ?_⟩
      rw [no]
      refine ⟨false, rfl, iteF ?_⟩
      refine ⟨_, rfl, _, rfl, d, _, rfl, DPut.k (k := .inr (S wd)) hd' (Nat.lt_of_le_of_lt hk (Nat.lt_of_le_of_lt hi (Nat.lt_of_le_of_lt hl (by decide)))), ?_⟩
      refine ⟨_, _, rfl, b.trans Bar.at_, upd_same, ?_, hi', fun k hk' => ?_⟩
      · rw [putK_new _ no, List.length_append]
        exact Nat.succ_le_succ hk
      · rw [valV_put] at hk'
        by_cases e : k = .inr (S wd)
        · exact ⟨wd, List.mem_of_getElem? (i := i) (by rw [List.getElem?_take]; simp [hwd]), e⟩
        · rw [if_neg e] at hk'
          obtain ⟨w', h1, h2⟩ := hv k hk'
          exact ⟨w', List.take_subset_take_left (l := ws) (Nat.le_succ i) h1, h2⟩
    · rintro σ H' ⟨y, kvs, rfl, b, _⟩
      exact q H' (same_bar s1 b hd)
theorem ok_needPorts {f : Addr} {fd : FuncData} (F : Fun K "need_ports" "need_ports" s_need_ports f fd) : FnOk P w K mg base CX0 1 f fd ["names", "ports"] (spNeedPorts K) := by
  refine F.ok sc_need_ports (fun vs H Q E h => ?_) (fun cdv A outer s H vs Q E hr h => ?_)
  · obtain ⟨a, b, xs, ps, rfl, _⟩ := h
    rfl
  · obtain ⟨a, b, ws, ps, rfl, ha, hb, hin, q⟩ := h
    refine ⟨_, (pss_one (ps_for PassesOwn.never rfl (pi_seq (pv 0)) (pg_name (i := 2) sc_need_ports.nd rfl (.inl rfl))
      (pss_one (ps_if (pt_cmpR op_notIn_seq (pv 2) (pv 1) (by rfl)) pss_dead pss_nil)))), ?_⟩
    refine ⟨_, rfl, a, rfl, for_seq ha (fun i σ H' => ∃ y, σ = [some (.ref a), some (.ref b), y] ∧ H' = H) ⟨_, rfl, rfl⟩ ?_ ?_ ?_⟩
    · rintro i σ H' ⟨y, rfl, rfl⟩
      exact Same.kp (Same.refl _)
    · rintro i x σ H' hx ⟨y, rfl, rfl⟩
      rw [List.getElem?_map] at hx
      obtain ⟨wd, hwd, rfl⟩ : ∃ wd, ws[i]? = some wd ∧ x = .str (S wd) := by
        cases e : ws[i]? with
        | none => rw [e] at hx; cases hx
        | some wd => rw [e] at hx; exact ⟨wd, rfl, (Option.some.inj hx).symm⟩
      refine ⟨_, rfl, _, rfl, b, _, rfl, hb, rfl, flat_txts, ?_⟩
      rw [inV_txts (hin wd (List.mem_of_getElem? hwd))]
      exact ⟨_, rfl, iteF ⟨_, rfl, rfl⟩⟩
    · rintro σ H' ⟨y, rfl, rfl⟩
      exact q
/-- all(isinstance(one, C) for one in ..) and what stands ahead of it -/
theorem isb_own {C p : Addr} {H : Hp} {ks : List Str} {vs : List V} (O : OCl K C) (o : ObjAt C H p ks vs) : IsC K H (.ref p) C := fun Q q => by
  obtain ⟨dx, o⟩ := o
  exact ⟨_, _, _, _, true, rfl, .own C, .base (.ins o O.cl O.ha O.hn O.ht O.hm), O.self, q⟩
theorem ok_needKinds {CC CB CS : Addr} {f : Addr} {fd : FuncData} (F : Fun K "need_kinds" "need_kinds" s_need_kinds f fd) (B : Blt mg) (M : WBnd mg) (KS : KCl K mg CC CB CS) (DI : Dn P w K mg base CX0 1 "is_list" ["thing", "low", "high"] (spIsList K)) (DNm : Dn P w K mg base CX0 1 "is_name" ["thing"] spName) :
    FnOk P w K mg base CX0 2 f fd ["ports", "channels", "breakers", "ships"] (spNeedKinds K CC CB CS) := by
  refine F.ok sc_need_kinds (fun vs H Q E h => ?_) (fun cdv A outer s H vs Q E hr h => ?_)
  · obtain ⟨ap, ac, ab, as, W, xc, xb, xs, rfl, _⟩ := h
    rfl
  · obtain ⟨ap, ac, ab, as, W, xc, xb, xs, rfl, g, hp, hc, oc, hb, ob, hs, os, q⟩ := h
    refine ⟨_, (pss_cons (ps_if (PW.pt (pw_or (pt_not (pt_val (pe_d DI (hr.mono (by decide)) (by rfl) pass0 (pa_cons (pv 0) (pa_cons pe_int (pa_cons (C8.pe_gc (by rfl) M.ports) pa_nil)))))) (pw_or1 (pt_not (pt_val (pe_callB (cr_all rfl) (by rfl) B.all (by decide +kernel) (pa_cons (pe_lc (own := [("port", 4)]) (g := gName 4) (tt := tYes) rfl sc_need_kinds.nd (pi_seq (pv 0)) (blkOk_by (N := ["ports", "channels", "breakers", "ships", "port", "one"]) (sc := defScope s_need_kinds) (by decide +kernel)) (fun _ _ _ _ _ => pg_name (i := 4) sc_need_kinds.nd rfl (Or.inl rfl)) (fun _ _ _ _ _ => pts_nil) (fun _ _ _ _ _ => (pe_d DNm (hr.mono (by decide)) (by rfl) pass0 (pa_cons (pv 4) pa_nil)))) pa_nil))))))) pss_dead pss_nil)
      (pss_cons (ps_if (PW.pt (pw_or (pt_not (pt_val (pe_d DI (hr.mono (by decide)) (by rfl) pass0 (pa_cons (pv 1) (pa_cons pe_int (pa_cons (C8.pe_gc (by rfl) M.channels) pa_nil)))))) (pw_or1 (pt_not (pt_val (pe_callB (cr_all rfl) (by rfl) B.all (by decide +kernel) (pa_cons (pe_lc (own := [("one", 5)]) (g := gName 5) (tt := tYes) rfl sc_need_kinds.nd (pi_seq (pv 1)) (blkOk_by (N := ["ports", "channels", "breakers", "ships", "port", "one"]) (sc := defScope s_need_kinds) (by decide +kernel)) (fun _ _ _ _ _ => pg_name (i := 5) sc_need_kinds.nd rfl (Or.inl rfl)) (fun _ _ _ _ _ => pts_nil) (fun _ _ _ _ _ => (pe_callB (show CallR _ (.builtin "isinstance") (rIsi K) from call_isi) (by rfl) B.isi (by decide +kernel) (pa_cons (pv 5) (pa_cons (C8.pe_gc (by rfl) KS.gC) pa_nil))))) pa_nil))))))) pss_dead pss_nil)
      (pss_cons (ps_if (PW.pt (pw_or (pt_not (pt_val (pe_d DI (hr.mono (by decide)) (by rfl) pass0 (pa_cons (pv 2) (pa_cons pe_int (pa_cons (C8.pe_gc (by rfl) M.breakers) pa_nil)))))) (pw_or1 (pt_not (pt_val (pe_callB (cr_all rfl) (by rfl) B.all (by decide +kernel) (pa_cons (pe_lc (own := [("one", 5)]) (g := gName 5) (tt := tYes) rfl sc_need_kinds.nd (pi_seq (pv 2)) (blkOk_by (N := ["ports", "channels", "breakers", "ships", "port", "one"]) (sc := defScope s_need_kinds) (by decide +kernel)) (fun _ _ _ _ _ => pg_name (i := 5) sc_need_kinds.nd rfl (Or.inl rfl)) (fun _ _ _ _ _ => pts_nil) (fun _ _ _ _ _ => (pe_callB (show CallR _ (.builtin "isinstance") (rIsi K) from call_isi) (by rfl) B.isi (by decide +kernel) (pa_cons (pv 5) (pa_cons (C8.pe_gc (by rfl) KS.gB) pa_nil))))) pa_nil))))))) pss_dead pss_nil)
      (pss_one (ps_if (PW.pt (pw_or (pt_not (pt_val (pe_d DI (hr.mono (by decide)) (by rfl) pass0 (pa_cons (pv 3) (pa_cons pe_int (pa_cons (C8.pe_gc (by rfl) M.ships) pa_nil)))))) (pw_or1 (pt_not (pt_val (pe_callB (cr_all rfl) (by rfl) B.all (by decide +kernel) (pa_cons (pe_lc (own := [("one", 5)]) (g := gName 5) (tt := tYes) rfl sc_need_kinds.nd (pi_seq (pv 3)) (blkOk_by (N := ["ports", "channels", "breakers", "ships", "port", "one"]) (sc := defScope s_need_kinds) (by decide +kernel)) (fun _ _ _ _ _ => pg_name (i := 5) sc_need_kinds.nd rfl (Or.inl rfl)) (fun _ _ _ _ _ => pts_nil) (fun _ _ _ _ _ => (pe_callB (show CallR _ (.builtin "isinstance") (rIsi K) from call_isi) (by rfl) B.isi (by decide +kernel) (pa_cons (pv 5) (pa_cons (C8.pe_gc (by rfl) KS.gS) pa_nil))))) pa_nil))))))) pss_dead pss_nil))))), ?_⟩
    refine ⟨_, rfl, ap, _, 1, 8, rfl, hp, by rw [List.length_map]; exact_mod_cast g.ports.1, by rw [List.length_map]; exact_mod_cast g.ports.2, fun H1 s1 => ?_⟩
    refine ⟨_, rfl, iteF ?_⟩
    refine ⟨_, rfl, ap, rfl, lc_map (fun _ y _ => y = .bl true) (hp.same s1) (by rw [List.length_map]; exact Nat.lt_of_le_of_lt g.ports.2 (by decide)) (fun _ _ _ _ _ e => e) (fun _ _ _ _ _ _ e => e) ?_ ?_⟩
    · intro x H2 k hx s2 kk
      obtain ⟨wd, hwd, rfl⟩ := List.mem_map.mp hx
      refine ⟨rfl, _, rfl, wd, rfl, Nat.le_trans (isName_len (g.names _ hwd)).2.1 (by decide), fun H3 s3 => ?_⟩
      rw [g.names _ hwd]
      exact kk _ _ s3 rfl
    intro D ys H2 hD s2 hy e
    obtain rfl := each_true e
    refine ⟨D, _, rfl, .inl (.inl hy), ?_⟩
    rw [all_yes]
    refine ⟨true, rfl, iteF ?_⟩
    have sm := s1.trans s2
    clear e hy
    have hlen : xc.length ≤ 12 := by rw [oc.1, List.length_map]; exact g.chans
    refine ⟨_, rfl, ac, _, 0, 12, rfl, hc.same sm, by omega, by omega, fun H1 s1 => ?_⟩
    refine ⟨_, rfl, iteF ?_⟩
    refine ⟨_, rfl, ac, rfl, lc_map (fun _ y _ => y = .bl true) (hc.same (sm.trans s1)) (Nat.lt_of_le_of_lt hlen (by decide)) (fun _ _ _ _ _ e => e) (fun _ _ _ _ _ _ e => e) ?_ ?_⟩
    · intro x H2 k hx s2 kk
      obtain ⟨p, c, rfl, _, o⟩ := (oc.same (sm.trans (s1.trans s2))).mem hx
      refine ⟨rfl, _, rfl, ?_⟩
      exact isb_own KS.oC o _ (kk _ _ (Same.refl _) rfl)
    intro D ys H2 hD s2 hy e
    obtain rfl := each_true e
    refine ⟨D, _, rfl, .inl (.inl hy), ?_⟩
    rw [all_yes]
    refine ⟨true, rfl, iteF ?_⟩
    have sm := sm.trans (s1.trans s2)
    clear e hy hlen
    have hlen : xb.length ≤ 4 := by rw [ob.1, List.length_map]; exact g.brks
    refine ⟨_, rfl, ab, _, 0, 4, rfl, hb.same sm, by omega, by omega, fun H1 s1 => ?_⟩
    refine ⟨_, rfl, iteF ?_⟩
    refine ⟨_, rfl, ab, rfl, lc_map (fun _ y _ => y = .bl true) (hb.same (sm.trans s1)) (Nat.lt_of_le_of_lt hlen (by decide)) (fun _ _ _ _ _ e => e) (fun _ _ _ _ _ _ e => e) ?_ ?_⟩
    · intro x H2 k hx s2 kk
      obtain ⟨p, c, rfl, _, o⟩ := (ob.same (sm.trans (s1.trans s2))).mem hx
      refine ⟨rfl, _, rfl, ?_⟩
      exact isb_own KS.oB o _ (kk _ _ (Same.refl _) rfl)
    intro D ys H2 hD s2 hy e
    obtain rfl := each_true e
    refine ⟨D, _, rfl, .inl (.inl hy), ?_⟩
    rw [all_yes]
    refine ⟨true, rfl, iteF ?_⟩
    have sm := sm.trans (s1.trans s2)
    clear e hy hlen
    have hlen : xs.length ≤ 6 := by rw [os.1, List.length_map]; exact g.shps
    refine ⟨_, rfl, as, _, 0, 6, rfl, hs.same sm, by omega, by omega, fun H1 s1 => ?_⟩
    refine ⟨_, rfl, iteF ?_⟩
    refine ⟨_, rfl, as, rfl, lc_map (fun _ y _ => y = .bl true) (hs.same (sm.trans s1)) (Nat.lt_of_le_of_lt hlen (by decide)) (fun _ _ _ _ _ e => e) (fun _ _ _ _ _ _ e => e) ?_ ?_⟩
    · intro x H2 k hx s2 kk
      obtain ⟨p, c, rfl, _, o⟩ := (os.same (sm.trans (s1.trans s2))).mem hx
      refine ⟨rfl, _, rfl, ?_⟩
      exact isb_own KS.oS o _ (kk _ _ (Same.refl _) rfl)
    intro D ys H2 hD s2 hy e
    obtain rfl := each_true e
    refine ⟨D, _, rfl, .inl (.inl hy), ?_⟩
    rw [all_yes]
    refine ⟨true, rfl, iteF ?_⟩
    have sm := sm.trans (s1.trans s2)
    clear e hy hlen
    exact q _ sm
end
end Law
end
section
set_option Elab.async false
set_option linter.all false
set_option maxRecDepth 100000
set_option maxHeartbeats 4000000
namespace Law
open PySem PySem.Spec PyProof.Rows L2 IK SX
/-! ### worlds -/
abbrev wldK : List Str := ["beginning", "all_ports", "all_channels", "all_breakers", "all_ships"]
theorem wld_nd : wldK.Nodup := by decide +kernel
/-- the lists of a world and its fields -/
def WldF (CW : Addr) (H : Hp) (p : Addr) (W : Wld) (xc xb xs : List V) : Prop := ∃ dx lp lc lb ls, H p = some (.ins CW dx (wldK.zip [.int W.begin, .ref lp, .ref lc, .ref lb, .ref ls])) ∧ H lp = some (.lst (txts W.ports)) ∧ H lc = some (.lst xc) ∧ H lb = some (.lst xb) ∧ H ls = some (.lst xs)
theorem WldF.same {CW : Addr} {H H' : Hp} {p : Addr} {W : Wld} {xc xb xs : List V} (h : WldF CW H p W xc xb xs) (s : Same H H') : WldF CW H' p W xc xb xs := by
  obtain ⟨dx, lp, lc, lb, ls, h1, h2, h3, h4, h5⟩ := h
  exact ⟨dx, lp, lc, lb, ls, s _ _ h1, s _ _ h2, s _ _ h3, s _ _ h4, s _ _ h5⟩
/-- the classes' places -/
structure KA where
  C : Addr
  B : Addr
  S : Addr
  W : Addr
/-- the same, its lists new since H0 -/
def WldFN (H0 : Hp) (CW : Addr) (H : Hp) (p : Addr) (W : Wld) (xc xb xs : List V) : Prop := ∃ dx lp lc lb ls, H p = some (.ins CW dx (wldK.zip [.int W.begin, .ref lp, .ref lc, .ref lb, .ref ls])) ∧ H lp = some (.lst (txts W.ports)) ∧ H lc = some (.lst xc) ∧ H lb = some (.lst xb) ∧ H ls = some (.lst xs) ∧
  H0 lp = none ∧ H0 lc = none ∧ H0 lb = none ∧ H0 ls = none
theorem WldFN.f {H0 : Hp} {CW : Addr} {H : Hp} {p : Addr} {W : Wld} {xc xb xs : List V} (h : WldFN H0 CW H p W xc xb xs) : WldF CW H p W xc xb xs := by
  obtain ⟨dx, lp, lc, lb, ls, h1, h2, h3, h4, h5, _⟩ := h
  exact ⟨dx, lp, lc, lb, ls, h1, h2, h3, h4, h5⟩
theorem bar_none {H J : Hp} {p l : Addr} (b : Bar p H J) (n : l ≠ p) (h : J l = none) : H l = none := by
  cases e : H l with
  | none => rfl
  | some o => rw [b l o n e] at h; cases h
def WldAt (k : KA) (H : Hp) (p : Addr) (W : Wld) : Prop := ∃ xc xb xs, WldF k.W H p W xc xb xs ∧ Objs k.C H chanK xc (W.chans.map Chan.vals) ∧ Objs k.B H brkK xb (W.brks.map Brk.vals) ∧ Objs k.S H shpK xs (W.shps.map Shp.vals)
theorem WldAt.same {k : KA} {H H' : Hp} {p : Addr} {W : Wld} (h : WldAt k H p W) (s : Same H H') : WldAt k H' p W := by
  obtain ⟨xc, xb, xs, h1, h2, h3, h4⟩ := h
  exact ⟨xc, xb, xs, h1.same s, h2.same s, h3.same s, h4.same s⟩
/-- what a world is made of -/
def WldArgs (K : PySem.W.Frag) (k : KA) (H : Hp) (W : Wld) (ap ac ab as : Addr) (xc xb xs : List V) : Prop := SqA K H ap (txts W.ports) ∧ SqA K H ac xc ∧ Objs k.C H chanK xc (W.chans.map Chan.vals) ∧
  SqA K H ab xb ∧ Objs k.B H brkK xb (W.brks.map Brk.vals) ∧ SqA K H as xs ∧ Objs k.S H shpK xs (W.shps.map Shp.vals)
def spWldMk (K : PySem.W.Frag) (k : KA) : Sp := fun vs H Q _ => ∃ (p : Addr) (W : Wld) (ap ac ab as : Addr) (xc xb xs : List V), vs = [.ref p, .int W.begin, .ref ap, .ref ac, .ref ab, .ref as] ∧ W.Good ∧ WldArgs K k H W ap ac ab as xc xb xs ∧
  (∃ dx, H p = some (.ins k.W dx [])) ∧ ∀ H', Bar p H H' → WldFN H k.W H' p W xc xb xs → Q .non H'
section
variable {P : Program} {w : World} {K : PySem.W.Frag} {mg : Str → Option Value} {base : Heap}
theorem ok_wldMk {k : KA} {f : Addr} {fd : FuncData} (F : Fun K "__init__" "World.__init__" s_World___init__ f fd) (B : Blt mg) (M : WBnd mg) (TW : Cl K k.W wldK) (TC : Cl K k.C chanK) (TB : Cl K k.B brkK) (TS : Cl K k.S shpK)
    (DW : Dn P w K mg base CX0 2 "is_within" ["thing", "low", "high"] (spWithin K)) (DK : Dn P w K mg base CX0 2 "need_kinds" ["ports", "channels", "breakers", "ships"] (spNeedKinds K k.C k.B k.S)) (DU : Dn P w K mg base CX0 1 "need_unlike" ["names"] (spUnlike K))
    (DP : Dn P w K mg base CX0 1 "need_ports" ["names", "ports"] (spNeedPorts K)) : FnOk P w K mg base CX0 3 f fd ["self", "begin", "ports", "channels", "breakers", "ships"] (spWldMk K k) := by
  refine F.ok sc_World___init__ (fun vs H Q E h => ?_) (fun cdv A outer s H vs Q E hr h => ?_)
  · obtain ⟨p, W, ap, ac, ab, as, xc, xb, xs, rfl, _⟩ := h
    rfl
  · obtain ⟨p, W, ap, ac, ab, as, xc, xb, xs, rfl, g, ⟨hp, hc, oc, hb, ob, hs, os⟩, ⟨dx, h0⟩, q⟩ := h
    refine ⟨_, (pss_cons (ps_if (pt_not (pt_val (pe_d DW (hr.mono (by decide)) (by rfl) pass0 (pa_cons (pv 1) (pa_cons pe_int (pa_cons (C8.pe_gc (by rfl) M.begin) pa_nil)))))) pss_dead pss_nil)
      (pss_cons (ps_expr (pe_d DK (hr.mono (by decide)) (by rfl) pass0 (pa_cons (pv 2) (pa_cons (pv 3) (pa_cons (pv 4) (pa_cons (pv 5) pa_nil))))))
      (pss_cons (ps_expr (pe_d DU (hr.mono (by decide)) (by rfl) pass0 (pa_cons (pv 2) pa_nil)))
      (pss_cons (ps_expr (pe_d DU (hr.mono (by decide)) (by rfl) pass0 (pa_cons (pe_lc (own := [("channel", 6)]) (g := gName 6) (tt := tYes) rfl sc_World___init__.nd (pi_seq (pv 3)) (blkOk_by (N := ["self", "begin", "ports", "channels", "breakers", "ships", "channel", "ship", "vessel", "breaker"]) (sc := defScope s_World___init__) (by decide +kernel)) (fun _ _ _ _ _ => pg_name (i := 6) sc_World___init__.nd rfl (Or.inl rfl)) (fun _ _ _ _ _ => pts_nil) (fun _ _ _ _ _ => (pe_fldK (K := K) rfl (pv 6) rfl))) pa_nil)))
      (pss_cons (ps_expr (pe_d DU (hr.mono (by decide)) (by rfl) pass0 (pa_cons (pe_lc (own := [("vessel", 8)]) (g := gName 8) (tt := tYes) rfl sc_World___init__.nd (pi_seq (pe_op op_cat (pe_callTy call_list_of (by rfl) B.list (by decide +kernel) (pa_cons (pv 4) pa_nil)) (pe_callTy call_list_of (by rfl) B.list (by decide +kernel) (pa_cons (pv 5) pa_nil)))) (blkOk_by (N := ["self", "begin", "ports", "channels", "breakers", "ships", "channel", "ship", "vessel", "breaker"]) (sc := defScope s_World___init__) (by decide +kernel)) (fun _ _ _ _ _ => pg_name (i := 8) sc_World___init__.nd rfl (Or.inl rfl)) (fun _ _ _ _ _ => pts_nil) (fun _ _ _ _ _ => (pe_fldK (K := K) rfl (pv 8) rfl))) pa_nil)))
      (pss_cons (ps_for PassesOwn.never rfl (pi_seq (pv 3)) (pg_name (i := 6) sc_World___init__.nd rfl (.inl rfl))
      (pss_one (ps_expr (pe_d DP (hr.mono (by decide)) (by rfl) pass0 (pa_cons (pe_lst (pa_cons (pe_fld (pv 6) rfl) (pa_cons (pe_fld (pv 6) rfl) pa_nil))) (pa_cons (pv 2) pa_nil))))))
      (pss_cons (ps_expr (pe_d DP (hr.mono (by decide)) (by rfl) pass0 (pa_cons (pe_lc (own := [("breaker", 9)]) (g := gName 9) (tt := tYes) rfl sc_World___init__.nd (pi_seq (pv 4)) (blkOk_by (N := ["self", "begin", "ports", "channels", "breakers", "ships", "channel", "ship", "vessel", "breaker"]) (sc := defScope s_World___init__) (by decide +kernel)) (fun _ _ _ _ _ => pg_name (i := 9) sc_World___init__.nd rfl (Or.inl rfl)) (fun _ _ _ _ _ => pts_nil) (fun _ _ _ _ _ => (pe_fldK (K := K) rfl (pv 9) rfl))) (pa_cons (pv 2) pa_nil))))
      (pss_cons (ps_for PassesOwn.never rfl (pi_seq (pv 5)) (pg_name (i := 7) sc_World___init__.nd rfl (.inl rfl))
      (pss_one (ps_expr (pe_d DP (hr.mono (by decide)) (by rfl) pass0 (pa_cons (pe_lst (pa_cons (pe_fld (pv 7) rfl) (pa_cons (pe_fld (pv 7) rfl) pa_nil))) (pa_cons (pv 2) pa_nil))))))
      (pss_cons (ps_fld (pv 0) (pv 1) rfl)
      (pss_cons (ps_fld (pv 0) (pe_callTy call_list_of (by rfl) B.list (by decide +kernel) (pa_cons (pv 2) pa_nil)) rfl)
      (pss_cons (ps_fld (pv 0) (pe_callTy call_list_of (by rfl) B.list (by decide +kernel) (pa_cons (pv 3) pa_nil)) rfl)
      (pss_cons (ps_fld (pv 0) (pe_callTy call_list_of (by rfl) B.list (by decide +kernel) (pa_cons (pv 4) pa_nil)) rfl)
      (pss_one (ps_fld (pv 0) (pe_callTy call_list_of (by rfl) B.list (by decide +kernel) (pa_cons (pv 5) pa_nil)) rfl)))))))))))))), ?_⟩
    have lc1 : xc.length ≤ 12 := by rw [oc.1, List.length_map]; exact g.chans
    have lb1 : xb.length ≤ 4 := by rw [ob.1, List.length_map]; exact g.brks
    have ls1 : xs.length ≤ 6 := by rw [os.1, List.length_map]; exact g.shps
    refine ⟨_, rfl, _, _, _, rfl, .inl ⟨_, rfl, ?_⟩⟩
    rw [decide_eq_true g.begin.1, decide_eq_true g.begin.2]
    refine ⟨true, rfl, iteF ?_⟩
    refine ⟨_, rfl, _, rfl, _, rfl, _, rfl, ap, ac, ab, as, W, xc, xb, xs, rfl, g, hp, hc, oc, hb, ob, hs, os, fun H1 s1 => ?_⟩
    refine ⟨_, rfl, ap, W.ports, rfl, hp.same s1, g.nd, Nat.le_trans g.ports.2 (by decide), fun H2 s2 => ?_⟩
    have sm := s1.trans s2
    refine ⟨_, rfl, ac, rfl, lc_map (fun x y _ => ∃ p C dx fs, x = .ref p ∧ H2 p = some (.ins C dx fs) ∧ fs.lookup ("name" : Str) = some y) (hc.same sm) (Nat.lt_of_le_of_lt lc1 (by decide)) (fun _ _ _ _ _ e => e) (fun _ _ _ _ _ _ e => e) ?_ ?_⟩
    · intro x H3 kk hx s3 kq
      obtain ⟨o, c, rfl, _, dy, e⟩ := (oc.same sm).mem hx
      refine ⟨rfl, _, rfl, ?_⟩
      refine ⟨_, _, _, _, _, rfl, (s3 _ _ e), Cl.cls TC, Cl.no TC _ (by decide +kernel), look_zip (i := 0) chan_nd rfl rfl, ?_⟩
      exact kq _ _ (Same.refl _) ⟨o, _, dy, _, rfl, e, look_zip (i := 0) chan_nd rfl rfl⟩
    intro D ys H3 hD s3 hy e
    obtain rfl := flds_of (k := "name") (j := 0) (f := fun c : Chan => V.str (S c.name)) chan_nd rfl (fun _ => rfl) (oc.same sm) e
    have hy2 : H3 D = some (.lst (txts (W.chans.map Chan.name))) := by rw [hy, txts, List.map_map]; rfl
    refine ⟨D, W.chans.map Chan.name, rfl, .l hy2, g.cnd, by rw [List.length_map]; exact Nat.le_trans g.chans (by decide), fun H4 s4 => ?_⟩
    have sm := sm.trans (s3.trans s4)
    clear hy hy2 e
    refine ⟨_, rfl, ab, _, rfl, hb.same sm, fun l1 hl1 => ?_⟩
    generalize hXq : upd _ l1 _ = H5
    have s5 := laid_same hXq hl1
    have e5 := laid_at hXq
    clear hXq
    refine ⟨_, rfl, as, _, rfl, hs.same (sm.trans s5), fun l2 hl2 => ?_⟩
    generalize hXq : upd _ l2 _ = H6
    have s6 := laid_same hXq hl2
    have e6 := laid_at hXq
    clear hXq
    refine ⟨l1, l2, _, _, rfl, rfl, s6 _ _ e5, e6, Nat.le_trans (by omega : xb.length + xs.length ≤ 100) (by decide), fun l3 hl3 => ?_⟩
    generalize hXq : upd _ l3 _ = H7
    have s7 := laid_same hXq hl3
    have e7 := laid_at hXq
    clear hXq
    have sm := sm.trans (s5.trans (s6.trans s7))
    refine ⟨l3, rfl, lc_map (fun x y _ => ∃ p C dx fs, x = .ref p ∧ H7 p = some (.ins C dx fs) ∧ fs.lookup ("name" : Str) = some y) (.l e7) (Nat.lt_of_le_of_lt (by rw [List.length_append]; omega : (xb ++ xs).length ≤ 100) (by decide)) (fun _ _ _ _ _ e => e) (fun _ _ _ _ _ _ e => e) ?_ ?_⟩
    · intro x H3 kk hx s3 kq
      rcases List.mem_append.mp hx with hx | hx
      · obtain ⟨o, c, rfl, _, dy, e⟩ := (ob.same sm).mem hx
        refine ⟨rfl, _, rfl, ?_⟩
        refine ⟨_, _, _, _, _, rfl, (s3 _ _ e), Cl.cls TB, Cl.no TB _ (by decide +kernel), look_zip (i := 0) brk_nd rfl rfl, ?_⟩
        exact kq _ _ (Same.refl _) ⟨o, _, dy, _, rfl, e, look_zip (i := 0) brk_nd rfl rfl⟩
      · obtain ⟨o, c, rfl, _, dy, e⟩ := (os.same sm).mem hx
        refine ⟨rfl, _, rfl, ?_⟩
        refine ⟨_, _, _, _, _, rfl, (s3 _ _ e), Cl.cls TS, Cl.no TS _ (by decide +kernel), look_zip (i := 0) shp_nd rfl rfl, ?_⟩
        exact kq _ _ (Same.refl _) ⟨o, _, dy, _, rfl, e, look_zip (i := 0) shp_nd rfl rfl⟩
    intro D2 ys H8 hD2 s8 hy e
    obtain ⟨e1, e2⟩ := e.split
    have z1 := flds_of (k := "name") (j := 0) (f := fun c : Brk => V.str (S c.name)) brk_nd rfl (fun _ => rfl) (ob.same sm) e1
    have z2 := flds_of (k := "name") (j := 0) (f := fun c : Shp => V.str (S c.name)) shp_nd rfl (fun _ => rfl) (os.same sm) e2
    have z3 := List.take_append_drop xb.length ys
    rw [z1, z2] at z3
    have hy2 : H8 D2 = some (.lst (txts (W.brks.map (fun b => b.name) ++ W.shps.map (fun b => b.name)))) := by
      rw [hy, ← z3, txts, List.map_append, List.map_map, List.map_map]
      rfl
    refine ⟨D2, _, rfl, .l hy2, g.vnd, by rw [List.length_append, List.length_map, List.length_map]; have := g.brks; have := g.shps; omega, fun H9 s9 => ?_⟩
    have sm := sm.trans (s8.trans s9)
    clear hy hy2 e e1 e2 z1 z2 z3 e5 e6 e7
    refine ⟨_, rfl, ac, rfl, for_seq (hc.same sm) (fun i σ H' => ∃ y z u t, σ = [some (.ref p), some (.int W.begin), some (.ref ap), some (.ref ac), some (.ref ab), some (.ref as), y, z, u, t] ∧ Same H9 H') ⟨_, _, _, _, rfl, Same.refl _⟩ ?_ ?_ ?_⟩
    · rintro i σ H' ⟨_, _, _, _, rfl, s⟩
      exact Same.kp s
    · rintro i x σ H' hx ⟨_, _, _, _, rfl, s⟩
      obtain ⟨o, c, rfl, hcm, dy, e⟩ := (oc.same (sm.trans s)).mem (List.mem_of_getElem? hx)
      refine ⟨_, rfl, ?_⟩
      refine ⟨_, _, _, _, _, rfl, e, Cl.cls TC, Cl.no TC _ (by decide +kernel), look_zip (i := 1) chan_nd rfl rfl, ?_⟩
      refine ⟨_, rfl, ?_⟩
      refine ⟨_, _, _, _, _, rfl, e, Cl.cls TC, Cl.no TC _ (by decide +kernel), look_zip (i := 2) chan_nd rfl rfl, ?_⟩
      refine ⟨Nat.le_of_ble_eq_true rfl, fun l hl => ?_⟩
      generalize hXq : upd _ l _ = H2
      have s2 := laid_same hXq hl
      have e2 := laid_at hXq
      clear hXq
      refine ⟨_, rfl, l, ap, [c.one, c.other], W.ports, rfl, .l e2, hp.same (sm.trans (s.trans s2)), ?_, ?_⟩
      · intro x hx
        simp only [List.mem_cons, List.not_mem_nil, or_false] at hx
        rcases hx with rfl | rfl
        · exact (g.ends c hcm).1
        · exact (g.ends c hcm).2
      · exact ⟨_, _, _, _, rfl, s.trans s2⟩
    rintro σ H10 ⟨_, _, _, _, rfl, s10⟩
    have sm := sm.trans s10
    refine ⟨_, rfl, ab, rfl, lc_map (fun x y _ => ∃ p C dx fs, x = .ref p ∧ H10 p = some (.ins C dx fs) ∧ fs.lookup ("port" : Str) = some y) (hb.same sm) (Nat.lt_of_le_of_lt lb1 (by decide)) (fun _ _ _ _ _ e => e) (fun _ _ _ _ _ _ e => e) ?_ ?_⟩
    · intro x H3 kk hx s3 kq
      obtain ⟨o, c, rfl, _, dy, e⟩ := (ob.same sm).mem hx
      refine ⟨rfl, _, rfl, ?_⟩
      refine ⟨_, _, _, _, _, rfl, (s3 _ _ e), Cl.cls TB, Cl.no TB _ (by decide +kernel), look_zip (i := 1) brk_nd rfl rfl, ?_⟩
      exact kq _ _ (Same.refl _) ⟨o, _, dy, _, rfl, e, look_zip (i := 1) brk_nd rfl rfl⟩
    intro D ys H11 hD s11 hy e
    obtain rfl := flds_of (k := "port") (j := 1) (f := fun c : Brk => V.str (S c.port)) brk_nd rfl (fun _ => rfl) (ob.same sm) e
    have hy2 : H11 D = some (.lst (txts (W.brks.map fun b => b.port))) := by rw [hy, txts, List.map_map]; rfl
    have sm := sm.trans s11
    refine ⟨_, rfl, D, ap, _, W.ports, rfl, .l hy2, hp.same sm, ?_, ?_⟩
    · intro x hx
      obtain ⟨b, hb', rfl⟩ := List.mem_map.mp hx
      exact g.bports b hb'
    clear hy hy2 e
    refine ⟨_, rfl, as, rfl, for_seq (hs.same sm) (fun i σ H' => ∃ y z u t, σ = [some (.ref p), some (.int W.begin), some (.ref ap), some (.ref ac), some (.ref ab), some (.ref as), y, z, u, t] ∧ Same H11 H') ⟨_, _, _, _, rfl, Same.refl _⟩ ?_ ?_ ?_⟩
    · rintro i σ H' ⟨_, _, _, _, rfl, s⟩
      exact Same.kp s
    · rintro i x σ H' hx ⟨_, _, _, _, rfl, s⟩
      obtain ⟨o, c, rfl, hcm, dy, e⟩ := (os.same (sm.trans s)).mem (List.mem_of_getElem? hx)
      refine ⟨_, rfl, ?_⟩
      refine ⟨_, _, _, _, _, rfl, e, Cl.cls TS, Cl.no TS _ (by decide +kernel), look_zip (i := 1) shp_nd rfl rfl, ?_⟩
      refine ⟨_, rfl, ?_⟩
      refine ⟨_, _, _, _, _, rfl, e, Cl.cls TS, Cl.no TS _ (by decide +kernel), look_zip (i := 5) shp_nd rfl rfl, ?_⟩
      refine ⟨Nat.le_of_ble_eq_true rfl, fun l hl => ?_⟩
      generalize hXq : upd _ l _ = H2
      have s2 := laid_same hXq hl
      have e2 := laid_at hXq
      clear hXq
      refine ⟨_, rfl, l, ap, [c.port, c.goal], W.ports, rfl, .l e2, hp.same (sm.trans (s.trans s2)), ?_, ?_⟩
      · intro x hx
        simp only [List.mem_cons, List.not_mem_nil, or_false] at hx
        rcases hx with rfl | rfl
        · exact (g.sports c hcm).1
        · exact (g.sports c hcm).2
      · exact ⟨_, _, _, _, rfl, s.trans s2⟩
    rintro σ J0 ⟨_, _, _, _, rfl, s12⟩
    have sm := sm.trans s12
    have hp := hp.same sm
    have hc := hc.same sm
    have hb := hb.same sm
    have hs := hs.same sm
    have h0 : J0 p = some (.ins k.W dx (([] : List Str).zip ([] : List V))) := sm _ _ h0
    have b0 : Bar p H J0 := Bar.same sm
    obtain ⟨b1, h1⟩ := fld_put (k := "beginning") (v := .int W.begin) h0 rfl (by decide +kernel)
    refine ⟨_, rfl, _, rfl, p, k.W, dx, _, rfl, h0, TW.cls, TW.no _ (by decide +kernel), Nat.le_of_ble_eq_true rfl, ?_⟩
    generalize upd _ p _ = J1 at b1 h1 ⊢
    have kk := fun a => kp_bar (K := K) (a := a) b1 h0
    refine ⟨_, rfl, ap, _, rfl, sqA_kp hp (kk _), fun lp hl => ?_⟩
    generalize hXq : upd _ lp _ = G1
    have s := laid_same hXq hl
    have elp := laid_at hXq
    clear hXq
    have b2' := Bar.same (p := p) s
    have nelp : lp ≠ p := fun z => by rw [z, h1] at hl; cases hl
    have frlp : H lp = none := bar_none (b0.trans b1) nelp hl
    have hh := s _ _ h1
    obtain ⟨b2, h2⟩ := fld_put (k := "all_ports") (v := .ref lp) hh rfl (by decide +kernel)
    refine ⟨_, rfl, p, k.W, dx, _, rfl, hh, TW.cls, TW.no _ (by decide +kernel), Nat.le_of_ble_eq_true rfl, ?_⟩
    generalize upd _ p _ = J2 at b2 h2 ⊢
    have elp := b2 _ _ nelp elp
    have kk := fun a => (fun xs => ⟨fun z => ((kp_bar (K := K) (a := a) b2 hh) xs).1 (((Same.kp s) xs).1 ((kk a xs).1 z)), fun z => ((kp_bar (K := K) (a := a) b2 hh) xs).2 (((Same.kp s) xs).2 ((kk a xs).2 z))⟩ : Kp K a J0 J2)
    clear hl s hh
    refine ⟨_, rfl, ac, _, rfl, sqA_kp hc (kk _), fun lc hl => ?_⟩
    generalize hXq : upd _ lc _ = G2
    have s := laid_same hXq hl
    have elc := laid_at hXq
    clear hXq
    have b3' := Bar.same (p := p) s
    have nelc : lc ≠ p := fun z => by rw [z, h2] at hl; cases hl
    have frlc : H lc = none := bar_none ((b0.trans b1).trans (b2'.trans b2)) nelc hl
    have hh := s _ _ h2
    obtain ⟨b3, h3⟩ := fld_put (k := "all_channels") (v := .ref lc) hh rfl (by decide +kernel)
    refine ⟨_, rfl, p, k.W, dx, _, rfl, hh, TW.cls, TW.no _ (by decide +kernel), Nat.le_of_ble_eq_true rfl, ?_⟩
    generalize upd _ p _ = J3 at b3 h3 ⊢
    have elc := b3 _ _ nelc elc
    have kk := fun a => (fun xs => ⟨fun z => ((kp_bar (K := K) (a := a) b3 hh) xs).1 (((Same.kp s) xs).1 ((kk a xs).1 z)), fun z => ((kp_bar (K := K) (a := a) b3 hh) xs).2 (((Same.kp s) xs).2 ((kk a xs).2 z))⟩ : Kp K a J0 J3)
    clear hl s hh
    refine ⟨_, rfl, ab, _, rfl, sqA_kp hb (kk _), fun lb hl => ?_⟩
    generalize hXq : upd _ lb _ = G3
    have s := laid_same hXq hl
    have elb := laid_at hXq
    clear hXq
    have b4' := Bar.same (p := p) s
    have nelb : lb ≠ p := fun z => by rw [z, h3] at hl; cases hl
    have frlb : H lb = none := bar_none (((b0.trans b1).trans (b2'.trans b2)).trans (b3'.trans b3)) nelb hl
    have hh := s _ _ h3
    obtain ⟨b4, h4⟩ := fld_put (k := "all_breakers") (v := .ref lb) hh rfl (by decide +kernel)
    refine ⟨_, rfl, p, k.W, dx, _, rfl, hh, TW.cls, TW.no _ (by decide +kernel), Nat.le_of_ble_eq_true rfl, ?_⟩
    generalize upd _ p _ = J4 at b4 h4 ⊢
    have elb := b4 _ _ nelb elb
    have kk := fun a => (fun xs => ⟨fun z => ((kp_bar (K := K) (a := a) b4 hh) xs).1 (((Same.kp s) xs).1 ((kk a xs).1 z)), fun z => ((kp_bar (K := K) (a := a) b4 hh) xs).2 (((Same.kp s) xs).2 ((kk a xs).2 z))⟩ : Kp K a J0 J4)
    clear hl s hh
    refine ⟨_, rfl, as, _, rfl, sqA_kp hs (kk _), fun ls hl => ?_⟩
    generalize hXq : upd _ ls _ = G4
    have s := laid_same hXq hl
    have els := laid_at hXq
    clear hXq
    have b5' := Bar.same (p := p) s
    have nels : ls ≠ p := fun z => by rw [z, h4] at hl; cases hl
    have frls : H ls = none := bar_none ((((b0.trans b1).trans (b2'.trans b2)).trans (b3'.trans b3)).trans (b4'.trans b4)) nels hl
    have hh := s _ _ h4
    obtain ⟨b5, h5⟩ := fld_put (k := "all_ships") (v := .ref ls) hh rfl (by decide +kernel)
    refine ⟨_, rfl, p, k.W, dx, _, rfl, hh, TW.cls, TW.no _ (by decide +kernel), Nat.le_of_ble_eq_true rfl, ?_⟩
    generalize upd _ p _ = J5 at b5 h5 ⊢
    have els := b5 _ _ nels els
    have kk := fun a => (fun xs => ⟨fun z => ((kp_bar (K := K) (a := a) b5 hh) xs).1 (((Same.kp s) xs).1 ((kk a xs).1 z)), fun z => ((kp_bar (K := K) (a := a) b5 hh) xs).2 (((Same.kp s) xs).2 ((kk a xs).2 z))⟩ : Kp K a J0 J5)
    clear hl s hh
    refine q _ (b0.trans (b1.trans (b2'.trans (b2.trans (b3'.trans (b3.trans (b4'.trans (b4.trans (b5'.trans b5))))))))) ⟨dx, lp, lc, lb, ls, h5, ?_, ?_, ?_, els, frlp, frlc, frlb, frls⟩
    · exact b5 _ _ nelp (b5' _ _ nelp (b4 _ _ nelp (b4' _ _ nelp (b3 _ _ nelp (b3' _ _ nelp elp)))))
    · exact b5 _ _ nelc (b5' _ _ nelc (b4 _ _ nelc (b4' _ _ nelc elc)))
    · exact b5 _ _ nelb (b5' _ _ nelb elb)
end
end Law
end
section
set_option Elab.async false
set_option linter.all false
set_option maxRecDepth 100000
set_option maxHeartbeats 4000000
namespace Law
open PySem PySem.Spec PyProof.Rows L2 IK SX
/-! ### what worlds tell, and worlds of what is told -/
theorem shp_row (a b : Shp) (h : a.vals = b.vals) : a.row = b.row := by
  simp only [Shp.vals, Ves.vals, List.cons_append, List.nil_append, List.cons.injEq] at h
  obtain ⟨h1, h2, h3, h4, h5, h6, _⟩ := h
  simp only [Shp.row, h1, h2, h3, h4, h5, h6]
theorem shp_vals (a b : Shp) (h : a.row = b.row) : a.vals = b.vals := by
  simp only [Shp.row, List.cons.injEq] at h
  obtain ⟨h1, h2, h3, h4, h5, h6, _⟩ := h
  simp only [Shp.vals, Ves.vals, h1, h2, h3, h4, h5, h6]
/-- what a world tells -/
def ToldAt (H : Hp) (a : Addr) (W : Wld) : Prop := ∃ ap ac ab as yc yb ys, H a = some (.tup [.int W.begin, .ref ap, .ref ac, .ref ab, .ref as]) ∧ H ap = some (.tup (txts W.ports)) ∧ H ac = some (.tup yc) ∧ RowsIs H yc (W.chans.map Chan.vals) ∧
  H ab = some (.tup yb) ∧ RowsIs H yb (W.brks.map Brk.vals) ∧ H as = some (.tup ys) ∧ RowsIs H ys (W.shps.map Shp.row)
theorem ToldAt.same {H H' : Hp} {a : Addr} {W : Wld} (h : ToldAt H a W) (s : Same H H') : ToldAt H' a W := by
  obtain ⟨ap, ac, ab, as, yc, yb, ys, h1, h2, h3, h4, h5, h6, h7, h8⟩ := h
  exact ⟨ap, ac, ab, as, yc, yb, ys, s _ _ h1, s _ _ h2, s _ _ h3, h4.same s, s _ _ h5, h6.same s, s _ _ h7, h8.same s⟩
def spBegin (k : KA) : Sp := fun vs H Q _ => ∃ (p : Addr) (W : Wld) (xc xb xs : List V), vs = [.ref p] ∧ WldF k.W H p W xc xb xs ∧ Q (.int W.begin) H
def spPorts (k : KA) : Sp := fun vs H Q _ => ∃ (p : Addr) (W : Wld) (xc xb xs : List V), vs = [.ref p] ∧ WldF k.W H p W xc xb xs ∧ W.ports.length ≤ 8 ∧ ∀ a H', H a = none → Same H H' → H' a = some (.lst (txts W.ports)) → Q (.ref a) H'
def spVessels (k : KA) : Sp := fun vs H Q _ => ∃ (p : Addr) (W : Wld) (xc xb xs : List V), vs = [.ref p] ∧ WldF k.W H p W xc xb xs ∧ xb.length + xs.length ≤ 10 ∧ ∀ a H', H a = none → Same H H' → H' a = some (.lst (xb ++ xs)) → Q (.ref a) H'
def spTold (k : KA) : Sp := fun vs H Q _ => ∃ (p : Addr) (W : Wld), vs = [.ref p] ∧ WldAt k H p W ∧ W.Good ∧ ∀ a H', H a = none → Same H H' → ToldAt H' a W → Q (.ref a) H'
def spAnew {α : Type} (C : Addr) (ks : List Str) (good : α → Prop) (vals row : α → List V) : Sp := fun vs H Q _ => ∃ (r : Addr) (c : α), vs = [.ref r] ∧ good c ∧ H r = some (.tup (row c)) ∧ ∀ p H', H p = none → Same H H' → ObjAt C H' p ks (vals c) → Q (.ref p) H'
def spWldAnew (K : PySem.W.Frag) (k : KA) : Sp := fun vs H Q _ => ∃ (t : Addr) (W : Wld) (ap ac ab as : Addr) (yc yb ys : List V), vs = [.ref t] ∧ W.Good ∧ H t = some (.tup [.int W.begin, .ref ap, .ref ac, .ref ab, .ref as]) ∧ SqA K H ap (txts W.ports) ∧ SqA K H ac yc ∧ RowsIs H yc (W.chans.map Chan.vals) ∧
  SqA K H ab yb ∧ RowsIs H yb (W.brks.map Brk.vals) ∧ SqA K H as ys ∧ RowsIs H ys (W.shps.map Shp.row) ∧ ∀ p H', H p = none → Same H H' → WldAt k H' p W → Q (.ref p) H'
section
variable {P : Program} {w : World} {K : PySem.W.Frag} {mg : Str → Option Value} {base : Heap}
theorem ok_beginHour {k : KA} {f : Addr} {fd : FuncData} (F : Fun K "begin_hour" "World.begin_hour" s_World_begin_hour f fd) (TW : Cl K k.W wldK) : FnOk P w K mg base CX0 1 f fd ["self"] (spBegin k) := by
  refine F.ok sc_World_begin_hour (fun vs H Q E h => ?_) (fun cdv A outer s H vs Q E hr h => ?_)
  · obtain ⟨p, W, xc, xb, xs, rfl, _⟩ := h
    rfl
  · obtain ⟨p, W, xc, xb, xs, rfl, ⟨dx, lp, lc, lb, ls, h1, h2, h3, h4, h5⟩, q⟩ := h
    refine ⟨_, (pss_one (ps_ret (pe_fld (pv 0) rfl))), ?_⟩
    refine ⟨_, rfl, ?_⟩
    refine ⟨_, _, _, _, _, rfl, h1, Cl.cls TW, Cl.no TW _ (by decide +kernel), look_zip (i := 0) wld_nd rfl rfl, ?_⟩
    exact q
theorem ok_ports {k : KA} {f : Addr} {fd : FuncData} (F : Fun K "ports" "World.ports" s_World_ports f fd) (B : Blt mg) (TW : Cl K k.W wldK) : FnOk P w K mg base CX0 1 f fd ["self"] (spPorts k) := by
  refine F.ok sc_World_ports (fun vs H Q E h => ?_) (fun cdv A outer s H vs Q E hr h => ?_)
  · obtain ⟨p, W, xc, xb, xs, rfl, _⟩ := h
    rfl
  · obtain ⟨p, W, xc, xb, xs, rfl, ⟨dx, lp, lc, lb, ls, h1, h2, h3, h4, h5⟩, hl, q⟩ := h
    refine ⟨_, (pss_one (ps_ret (pe_callTy call_list_of (by rfl) B.list (by decide +kernel) (pa_cons (pe_fld (pv 0) rfl) pa_nil)))), ?_⟩
    refine ⟨_, rfl, ?_⟩
    refine ⟨_, _, _, _, _, rfl, h1, Cl.cls TW, Cl.no TW _ (by decide +kernel), look_zip (i := 1) wld_nd rfl rfl, ?_⟩
    refine ⟨lp, _, rfl, SqA.l h2, fun l hl => ?_⟩
    generalize hXq : upd _ l _ = H1
    have s1 := laid_same hXq hl
    have e1 := laid_at hXq
    clear hXq
    exact q l H1 hl s1 e1
theorem ok_vessels {k : KA} {f : Addr} {fd : FuncData} (F : Fun K "vessels" "World.vessels" s_World_vessels f fd) (TW : Cl K k.W wldK) : FnOk P w K mg base CX0 1 f fd ["self"] (spVessels k) := by
  refine F.ok sc_World_vessels (fun vs H Q E h => ?_) (fun cdv A outer s H vs Q E hr h => ?_)
  · obtain ⟨p, W, xc, xb, xs, rfl, _⟩ := h
    rfl
  · obtain ⟨p, W, xc, xb, xs, rfl, ⟨dx, lp, lc, lb, ls, h1, h2, h3, h4, h5⟩, hl, q⟩ := h
    refine ⟨_, (pss_one (ps_ret (pe_op op_cat (pe_fld (pv 0) rfl) (pe_fld (pv 0) rfl)))), ?_⟩
    refine ⟨_, rfl, ?_⟩
    refine ⟨_, _, _, _, _, rfl, h1, Cl.cls TW, Cl.no TW _ (by decide +kernel), look_zip (i := 3) wld_nd rfl rfl, ?_⟩
    refine ⟨_, rfl, ?_⟩
    refine ⟨_, _, _, _, _, rfl, h1, Cl.cls TW, Cl.no TW _ (by decide +kernel), look_zip (i := 4) wld_nd rfl rfl, ?_⟩
    refine ⟨lb, ls, _, _, rfl, rfl, h4, h5, Nat.le_trans hl (by decide), fun l hl => ?_⟩
    generalize hXq : upd _ l _ = H1
    have s1 := laid_same hXq hl
    have e1 := laid_at hXq
    clear hXq
    exact q l H1 hl s1 e1
theorem ok_told {k : KA} {f : Addr} {fd : FuncData} (F : Fun K "told" "World.told" s_World_told f fd) (B : Blt mg) (TW : Cl K k.W wldK) (TC : Cl K k.C chanK) (TB : Cl K k.B brkK) (TS : Cl K k.S shpK) (MC : Me P w K mg base CX0 1 k.C "row" ["self"] (spRow k.C chanK Chan.vals Chan.vals))
    (MB : Me P w K mg base CX0 2 k.B "row" ["self"] (spRow k.B brkK Brk.vals Brk.vals)) (MS : Me P w K mg base CX0 1 k.S "row" ["self"] (spRow k.S shpK Shp.vals Shp.row)) : FnOk P w K mg base CX0 3 f fd ["self"] (spTold k) := by
  refine F.ok sc_World_told (fun vs H Q E h => ?_) (fun cdv A outer s H vs Q E hr h => ?_)
  · obtain ⟨p, W, rfl, _⟩ := h
    rfl
  · obtain ⟨p, W, rfl, ⟨xc, xb, xs, ⟨dx, lp, lc, lb, ls, h1, h2, h3, h4, h5⟩, oc, ob, os⟩, g, q⟩ := h
    refine ⟨_, (pss_cons (ps_set (i := 1) sc_World_told.nd rfl (.inl rfl) (pe_callTy call_tuple_of (by rfl) B.tuple (by decide +kernel) (pa_cons (pe_lc (own := [("channel", 4)]) (g := gName 4) (tt := tYes) rfl sc_World_told.nd (pi_seq (pe_fld (pv 0) rfl)) (blkOk_by (N := ["self", "channels", "breakers", "ships", "channel", "breaker", "ship"]) (sc := defScope s_World_told) (by decide +kernel)) (fun _ _ _ _ _ => pg_name (i := 4) sc_World_told.nd rfl (Or.inl rfl)) (fun _ _ _ _ _ => pts_nil) (fun _ _ _ _ _ => (pe_me0 MC TC.cls (hr.mono (by decide)) pass0 (pv 4)))) pa_nil)))
      (pss_cons (ps_set (i := 2) sc_World_told.nd rfl (.inl rfl) (pe_callTy call_tuple_of (by rfl) B.tuple (by decide +kernel) (pa_cons (pe_lc (own := [("breaker", 5)]) (g := gName 5) (tt := tYes) rfl sc_World_told.nd (pi_seq (pe_fld (pv 0) rfl)) (blkOk_by (N := ["self", "channels", "breakers", "ships", "channel", "breaker", "ship"]) (sc := defScope s_World_told) (by decide +kernel)) (fun _ _ _ _ _ => pg_name (i := 5) sc_World_told.nd rfl (Or.inl rfl)) (fun _ _ _ _ _ => pts_nil) (fun _ _ _ _ _ => (pe_me0 MB TB.cls (hr.mono (by decide)) pass0 (pv 5)))) pa_nil)))
      (pss_cons (ps_set (i := 3) sc_World_told.nd rfl (.inl rfl) (pe_callTy call_tuple_of (by rfl) B.tuple (by decide +kernel) (pa_cons (pe_lc (own := [("ship", 6)]) (g := gName 6) (tt := tYes) rfl sc_World_told.nd (pi_seq (pe_fld (pv 0) rfl)) (blkOk_by (N := ["self", "channels", "breakers", "ships", "channel", "breaker", "ship"]) (sc := defScope s_World_told) (by decide +kernel)) (fun _ _ _ _ _ => pg_name (i := 6) sc_World_told.nd rfl (Or.inl rfl)) (fun _ _ _ _ _ => pts_nil) (fun _ _ _ _ _ => (pe_me0 MS TS.cls (hr.mono (by decide)) pass0 (pv 6)))) pa_nil)))
      (pss_one (ps_ret (pe_tup (pa_cons (pe_fld (pv 0) rfl) (pa_cons (pe_callTy call_tuple_of (by rfl) B.tuple (by decide +kernel) (pa_cons (pe_fld (pv 0) rfl) pa_nil)) (pa_cons (pv 1) (pa_cons (pv 2) (pa_cons (pv 3) pa_nil))))))))))), ?_⟩
    have lc1 : xc.length ≤ 12 := by rw [oc.1, List.length_map]; exact g.chans
    have lb1 : xb.length ≤ 4 := by rw [ob.1, List.length_map]; exact g.brks
    have ls1 : xs.length ≤ 6 := by rw [os.1, List.length_map]; exact g.shps
    have sm := Same.refl H
    have hp := h1
    refine ⟨_, rfl, ?_⟩
    refine ⟨_, _, _, _, _, rfl, hp, Cl.cls TW, Cl.no TW _ (by decide +kernel), look_zip (i := 2) wld_nd rfl rfl, ?_⟩
    refine ⟨lc, rfl, lc_map (fun x y H' => ∃ p b, x = .ref p ∧ ObjAt k.C H p chanK (Chan.vals b) ∧ ∃ a, y = .ref a ∧ H' a = some (.tup (Chan.vals b))) (.l (sm _ _ h3)) (Nat.lt_of_le_of_lt lc1 (by decide)) (fun x y H H' s ⟨p, b, e, o, a, e2, h⟩ => ⟨p, b, e, o, a, e2, s _ _ h⟩)
      (fun x y H D l hD ⟨p, b, e, o, a, e2, h⟩ => ⟨p, b, e, o, a, e2, hide_of hD (fun _ z => by cases z) h⟩) ?_ ?_⟩
    · intro x H3 kk hx s3 kq
      obtain ⟨o, b, rfl, _, dy, e⟩ := oc.mem hx
      refine ⟨rfl, _, rfl, o, dy, _, rfl, s3 _ _ (sm _ _ e), look_no (by decide +kernel), o, b, rfl, ⟨dy, s3 _ _ (sm _ _ e)⟩, fun a H4 _ s4 h4 => ?_⟩
      exact kq _ _ s4 ⟨o, b, rfl, ⟨dy, e⟩, a, rfl, h4⟩
    intro D ys1 H3 hD s3 hy e
    have r1 := rows_of (fun _ => rfl) (fun _ _ e => e) oc e
    refine ⟨D, _, rfl, .inl ⟨.inl (.inl hy), fun t1 ht => ?_⟩⟩
    generalize hXq : upd _ t1 _ = K1
    have s4 := laid_same hXq ht
    have e1 := laid_at hXq
    clear hXq
    have r1 := r1.same s4
    have nt1 := none_back (sm.trans s3) ht
    have sm := sm.trans (s3.trans s4)
    have hp := s4 _ _ (s3 _ _ hp)
    clear e hy
    refine ⟨_, rfl, ?_⟩
    refine ⟨_, _, _, _, _, rfl, hp, Cl.cls TW, Cl.no TW _ (by decide +kernel), look_zip (i := 3) wld_nd rfl rfl, ?_⟩
    refine ⟨lb, rfl, lc_map (fun x y H' => ∃ p b, x = .ref p ∧ ObjAt k.B H p brkK (Brk.vals b) ∧ ∃ a, y = .ref a ∧ H' a = some (.tup (Brk.vals b))) (.l (sm _ _ h4)) (Nat.lt_of_le_of_lt lb1 (by decide)) (fun x y H H' s ⟨p, b, e, o, a, e2, h⟩ => ⟨p, b, e, o, a, e2, s _ _ h⟩)
      (fun x y H D l hD ⟨p, b, e, o, a, e2, h⟩ => ⟨p, b, e, o, a, e2, hide_of hD (fun _ z => by cases z) h⟩) ?_ ?_⟩
    · intro x H3 kk hx s3 kq
      obtain ⟨o, b, rfl, _, dy, e⟩ := ob.mem hx
      refine ⟨rfl, _, rfl, o, dy, _, rfl, s3 _ _ (sm _ _ e), look_no (by decide +kernel), o, b, rfl, ⟨dy, s3 _ _ (sm _ _ e)⟩, fun a H4 _ s4 h4 => ?_⟩
      exact kq _ _ s4 ⟨o, b, rfl, ⟨dy, e⟩, a, rfl, h4⟩
    intro D ys2 H3 hD s3 hy e
    have r2 := rows_of (fun _ => rfl) (fun _ _ e => e) ob e
    refine ⟨D, _, rfl, .inl ⟨.inl (.inl hy), fun t2 ht => ?_⟩⟩
    generalize hXq : upd _ t2 _ = K2
    have s4 := laid_same hXq ht
    have e2 := laid_at hXq
    clear hXq
    have r2 := r2.same s4
    have nt2 := none_back (sm.trans s3) ht
    have sm := sm.trans (s3.trans s4)
    have hp := s4 _ _ (s3 _ _ hp)
    have r1 := r1.same (s3.trans s4)
    have e1 := s4 _ _ (s3 _ _ e1)
    clear e hy
    refine ⟨_, rfl, ?_⟩
    refine ⟨_, _, _, _, _, rfl, hp, Cl.cls TW, Cl.no TW _ (by decide +kernel), look_zip (i := 4) wld_nd rfl rfl, ?_⟩
    refine ⟨ls, rfl, lc_map (fun x y H' => ∃ p b, x = .ref p ∧ ObjAt k.S H p shpK (Shp.vals b) ∧ ∃ a, y = .ref a ∧ H' a = some (.tup (Shp.row b))) (.l (sm _ _ h5)) (Nat.lt_of_le_of_lt ls1 (by decide)) (fun x y H H' s ⟨p, b, e, o, a, e2, h⟩ => ⟨p, b, e, o, a, e2, s _ _ h⟩)
      (fun x y H D l hD ⟨p, b, e, o, a, e2, h⟩ => ⟨p, b, e, o, a, e2, hide_of hD (fun _ z => by cases z) h⟩) ?_ ?_⟩
    · intro x H3 kk hx s3 kq
      obtain ⟨o, b, rfl, _, dy, e⟩ := os.mem hx
      refine ⟨rfl, _, rfl, o, dy, _, rfl, s3 _ _ (sm _ _ e), look_no (by decide +kernel), o, b, rfl, ⟨dy, s3 _ _ (sm _ _ e)⟩, fun a H4 _ s4 h4 => ?_⟩
      exact kq _ _ s4 ⟨o, b, rfl, ⟨dy, e⟩, a, rfl, h4⟩
    intro D ys3 H3 hD s3 hy e
    have r3 := rows_of (fun _ => rfl) shp_row os e
    refine ⟨D, _, rfl, .inl ⟨.inl (.inl hy), fun t3 ht => ?_⟩⟩
    generalize hXq : upd _ t3 _ = K3
    have s4 := laid_same hXq ht
    have e3 := laid_at hXq
    clear hXq
    have r3 := r3.same s4
    have nt3 := none_back (sm.trans s3) ht
    have sm := sm.trans (s3.trans s4)
    have hp := s4 _ _ (s3 _ _ hp)
    have r1 := r1.same (s3.trans s4)
    have e1 := s4 _ _ (s3 _ _ e1)
    have r2 := r2.same (s3.trans s4)
    have e2 := s4 _ _ (s3 _ _ e2)
    clear e hy
    refine ⟨_, rfl, ?_⟩
    refine ⟨_, _, _, _, _, rfl, hp, Cl.cls TW, Cl.no TW _ (by decide +kernel), look_zip (i := 0) wld_nd rfl rfl, ?_⟩
    refine ⟨_, rfl, ?_⟩
    refine ⟨_, _, _, _, _, rfl, hp, Cl.cls TW, Cl.no TW _ (by decide +kernel), look_zip (i := 1) wld_nd rfl rfl, ?_⟩
    refine ⟨lp, _, rfl, .inl ⟨.inl (.inl (sm _ _ h2)), fun t4 ht => ?_⟩⟩
    generalize hXq : upd _ t4 _ = K4
    have s5 := laid_same hXq ht
    have e4 := laid_at hXq
    clear hXq
    refine ⟨_, rfl, _, rfl, _, rfl, ?_⟩
    refine ⟨Nat.le_of_ble_eq_true rfl, fun t5 ht5 => ?_⟩
    generalize hXq : upd _ t5 _ = K5
    have s6 := laid_same hXq ht5
    have e5 := laid_at hXq
    clear hXq
    exact q t5 K5 (none_back (sm.trans s5) ht5) (sm.trans (s5.trans s6)) ⟨t4, t1, t2, t3, ys1, ys2, ys3, e5, s6 _ _ e4, s6 _ _ (s5 _ _ e1), r1.same (s5.trans s6), s6 _ _ (s5 _ _ e2), r2.same (s5.trans s6), s6 _ _ (s5 _ _ e3), r3.same (s5.trans s6)⟩
theorem ok_channel_anew {C : Addr} {f : Addr} {fd : FuncData} (F : Fun K "channel_anew" "channel_anew" s_channel_anew f fd) (DC : Ma P w K mg base CX0 4 "Channel" C ["self", "name", "one", "other", "hours", "depth", "first", "growth", "most"] (spChanMk C)) : FnOk P w K mg base CX0 6 f fd ["row"] (spAnew C chanK Chan.Good Chan.vals Chan.vals) := by
  refine F.ok sc_channel_anew (fun vs H Q E h => ?_) (fun cdv A outer s H vs Q E hr h => ?_)
  · obtain ⟨p, c, rfl, _⟩ := h
    rfl
  · obtain ⟨r, c, rfl, g, hr', q⟩ := h
    refine ⟨_, (pss_one (ps_ret (pe_ma DC (hr.mono (by decide)) (by rfl) pass0 (pa_cons (pe_ix ix_tup (pv 0) pe_int (fun _ _ => rfl)) (pa_cons (pe_ix ix_tup (pv 0) pe_int (fun _ _ => rfl)) (pa_cons (pe_ix ix_tup (pv 0) pe_int (fun _ _ => rfl)) (pa_cons (pe_ix ix_tup (pv 0) pe_int (fun _ _ => rfl)) (pa_cons (pe_ix ix_tup (pv 0) pe_int (fun _ _ => rfl)) (pa_cons (pe_ix ix_tup (pv 0) pe_int (fun _ _ => rfl)) (pa_cons (pe_ix ix_tup (pv 0) pe_int (fun _ _ => rfl)) (pa_cons (pe_ix ix_tup (pv 0) pe_int (fun _ _ => rfl)) pa_nil))))))))))), ?_⟩
    refine ⟨_, rfl, r, _, 0, _, rfl, rfl, .inl (.inl hr'), rfl, _, rfl, r, _, 1, _, rfl, rfl, .inl (.inl hr'), rfl, _, rfl, r, _, 2, _, rfl, rfl, .inl (.inl hr'), rfl, _, rfl, r, _, 3, _, rfl, rfl, .inl (.inl hr'), rfl, _, rfl, r, _, 4, _, rfl, rfl, .inl (.inl hr'), rfl, _, rfl, r, _, 5, _, rfl, rfl, .inl (.inl hr'), rfl, _, rfl, r, _, 6, _, rfl, rfl, .inl (.inl hr'), rfl, _, rfl, r, _, 7, _, rfl, rfl, .inl (.inl hr'), rfl, fun x dx hx hd _ => ?_⟩
    exact ⟨x, c, rfl, g, Makes.use q hx hd⟩
theorem ok_breaker_anew {C : Addr} {f : Addr} {fd : FuncData} (F : Fun K "breaker_anew" "breaker_anew" s_breaker_anew f fd) (DB : Ma P w K mg base CX0 5 "Breaker" C ["self", "name", "port", "hour", "strength", "draught", "cut"] (spBrkMk C)) : FnOk P w K mg base CX0 7 f fd ["row"] (spAnew C brkK Brk.Good Brk.vals Brk.vals) := by
  refine F.ok sc_breaker_anew (fun vs H Q E h => ?_) (fun cdv A outer s H vs Q E hr h => ?_)
  · obtain ⟨p, c, rfl, _⟩ := h
    rfl
  · obtain ⟨r, c, rfl, g, hr', q⟩ := h
    refine ⟨_, (pss_one (ps_ret (pe_ma DB (hr.mono (by decide)) (by rfl) pass0 (pa_cons (pe_ix ix_tup (pv 0) pe_int (fun _ _ => rfl)) (pa_cons (pe_ix ix_tup (pv 0) pe_int (fun _ _ => rfl)) (pa_cons (pe_ix ix_tup (pv 0) pe_int (fun _ _ => rfl)) (pa_cons (pe_ix ix_tup (pv 0) pe_int (fun _ _ => rfl)) (pa_cons (pe_ix ix_tup (pv 0) pe_int (fun _ _ => rfl)) (pa_cons (pe_ix ix_tup (pv 0) pe_int (fun _ _ => rfl)) pa_nil))))))))), ?_⟩
    refine ⟨_, rfl, r, _, 0, _, rfl, rfl, .inl (.inl hr'), rfl, _, rfl, r, _, 1, _, rfl, rfl, .inl (.inl hr'), rfl, _, rfl, r, _, 2, _, rfl, rfl, .inl (.inl hr'), rfl, _, rfl, r, _, 3, _, rfl, rfl, .inl (.inl hr'), rfl, _, rfl, r, _, 4, _, rfl, rfl, .inl (.inl hr'), rfl, _, rfl, r, _, 5, _, rfl, rfl, .inl (.inl hr'), rfl, fun x dx hx hd _ => ?_⟩
    exact ⟨x, c, rfl, g, Makes.use q hx hd⟩
theorem ok_ship_anew {C : Addr} {f : Addr} {fd : FuncData} (F : Fun K "ship_anew" "ship_anew" s_ship_anew f fd) (DS : Ma P w K mg base CX0 5 "Ship" C ["self", "name", "port", "goal", "hour", "strength", "draught"] (spShpMk C)) : FnOk P w K mg base CX0 7 f fd ["row"] (spAnew C shpK Shp.Good Shp.vals Shp.row) := by
  refine F.ok sc_ship_anew (fun vs H Q E h => ?_) (fun cdv A outer s H vs Q E hr h => ?_)
  · obtain ⟨p, c, rfl, _⟩ := h
    rfl
  · obtain ⟨r, c, rfl, g, hr', q⟩ := h
    refine ⟨_, (pss_one (ps_ret (pe_ma DS (hr.mono (by decide)) (by rfl) pass0 (pa_cons (pe_ix ix_tup (pv 0) pe_int (fun _ _ => rfl)) (pa_cons (pe_ix ix_tup (pv 0) pe_int (fun _ _ => rfl)) (pa_cons (pe_ix ix_tup (pv 0) pe_int (fun _ _ => rfl)) (pa_cons (pe_ix ix_tup (pv 0) pe_int (fun _ _ => rfl)) (pa_cons (pe_ix ix_tup (pv 0) pe_int (fun _ _ => rfl)) (pa_cons (pe_ix ix_tup (pv 0) pe_int (fun _ _ => rfl)) pa_nil))))))))), ?_⟩
    refine ⟨_, rfl, r, _, 0, _, rfl, rfl, .inl (.inl hr'), rfl, _, rfl, r, _, 1, _, rfl, rfl, .inl (.inl hr'), rfl, _, rfl, r, _, 2, _, rfl, rfl, .inl (.inl hr'), rfl, _, rfl, r, _, 3, _, rfl, rfl, .inl (.inl hr'), rfl, _, rfl, r, _, 4, _, rfl, rfl, .inl (.inl hr'), rfl, _, rfl, r, _, 5, _, rfl, rfl, .inl (.inl hr'), rfl, fun x dx hx hd _ => ?_⟩
    exact ⟨x, c, rfl, g, Makes.use q hx hd⟩
theorem ok_wldAnew {k : KA} {f : Addr} {fd : FuncData} (F : Fun K "world_anew" "world_anew" s_world_anew f fd) (DC : Dn P w K mg base CX0 6 "channel_anew" ["row"] (spAnew k.C chanK Chan.Good Chan.vals Chan.vals)) (DB : Dn P w K mg base CX0 7 "breaker_anew" ["row"] (spAnew k.B brkK Brk.Good Brk.vals Brk.vals))
    (DS : Dn P w K mg base CX0 7 "ship_anew" ["row"] (spAnew k.S shpK Shp.Good Shp.vals Shp.row)) (DW : Ma P w K mg base CX0 3 "World" k.W ["self", "begin", "ports", "channels", "breakers", "ships"] (spWldMk K k)) : FnOk P w K mg base CX0 8 f fd ["told"] (spWldAnew K k) := by
  refine F.ok sc_world_anew (fun vs H Q E h => ?_) (fun cdv A outer s H vs Q E hr h => ?_)
  · obtain ⟨t, W, ap, ac, ab, as, yc, yb, ys, rfl, _⟩ := h
    rfl
  · obtain ⟨t, W, ap, ac, ab, as, yc, yb, ys, rfl, g, ht, hp, hc, rc, hb, rb, hs, rs, q⟩ := h
    refine ⟨_, (pss_cons (ps_asg (pv 0) (pg_tup rfl (pgs_cons (pg_name (i := 1) sc_world_anew.nd rfl (.inl rfl)) (pgs_cons (pg_name (i := 2) sc_world_anew.nd rfl (.inl rfl)) (pgs_cons (pg_name (i := 3) sc_world_anew.nd rfl (.inl rfl)) (pgs_cons (pg_name (i := 4) sc_world_anew.nd rfl (.inl rfl)) (pgs_cons (pg_name (i := 5) sc_world_anew.nd rfl (.inl rfl)) pgs_nil)))))))
      (pss_cons (ps_setLc (i := 6) (own := [("row", 7)]) (g := gName 7) (tt := tYes) rfl sc_world_anew.nd rfl rfl (by rfl) (pi_seq (pv 3)) (blkOk_by (N := ["told", "begin", "ports", "channels", "breakers", "ships", "made", "row"]) (sc := defScope s_world_anew) (by decide +kernel)) (fun _ _ _ _ _ => pg_name (i := 7) sc_world_anew.nd rfl (Or.inl rfl)) (fun _ _ _ _ _ => pts_nil) (fun _ _ _ _ _ => (pe_d DC (hr.mono (by decide)) (by rfl) pass0 (pa_cons (pv 7) pa_nil))))
      (pss_one (ps_ret (pe_ma DW (hr.mono (by decide)) (by rfl) pass0 (pa_cons (pv 1) (pa_cons (pv 2) (pa_cons (pv 6) (pa_cons (pe_lc (own := [("row", 7)]) (g := gName 7) (tt := tYes) rfl sc_world_anew.nd (pi_seq (pv 4)) (blkOk_by (N := ["told", "begin", "ports", "channels", "breakers", "ships", "made", "row"]) (sc := defScope s_world_anew) (by decide +kernel)) (fun _ _ _ _ _ => pg_name (i := 7) sc_world_anew.nd rfl (Or.inl rfl)) (fun _ _ _ _ _ => pts_nil) (fun _ _ _ _ _ => (pe_d DB (hr.mono (by decide)) (by rfl) pass0 (pa_cons (pv 7) pa_nil)))) (pa_cons (pe_lc (own := [("row", 7)]) (g := gName 7) (tt := tYes) rfl sc_world_anew.nd (pi_seq (pv 5)) (blkOk_by (N := ["told", "begin", "ports", "channels", "breakers", "ships", "made", "row"]) (sc := defScope s_world_anew) (by decide +kernel)) (fun _ _ _ _ _ => pg_name (i := 7) sc_world_anew.nd rfl (Or.inl rfl)) (fun _ _ _ _ _ => pts_nil) (fun _ _ _ _ _ => (pe_d DS (hr.mono (by decide)) (by rfl) pass0 (pa_cons (pv 7) pa_nil)))) pa_nil)))))))))), ?_⟩
    have lc1 : yc.length ≤ 12 := by rw [rc.1, List.length_map]; exact g.chans
    have lb1 : yb.length ≤ 4 := by rw [rb.1, List.length_map]; exact g.brks
    have ls1 : ys.length ≤ 6 := by rw [rs.1, List.length_map]; exact g.shps
    have sm := Same.refl H
    refine ⟨_, rfl, t, _, rfl, .inl (.inl ht), rfl, _, _, rfl, _, _, rfl, _, _, rfl, _, _, rfl, _, _, rfl, rfl, ?_⟩
    refine ⟨_, rfl, ac, rfl, lc_map (fun x y H' => ∃ p b, x = .ref p ∧ H p = some (.tup (Chan.vals b)) ∧ ∃ a, y = .ref a ∧ ObjAt k.C H' a chanK (Chan.vals b)) (hc.same sm) (Nat.lt_of_le_of_lt lc1 (by decide)) (fun x y H H' s ⟨p, b, e, o, a, e2, h⟩ => ⟨p, b, e, o, a, e2, h.same s⟩)
      (fun x y H D l hD ⟨p, b, e, o, a, e2, dx, h⟩ => ⟨p, b, e, o, a, e2, dx, hide_of hD (fun _ z => by cases z) h⟩) ?_ ?_⟩
    · intro x H3 kk hx s3 kq
      obtain ⟨o, b, rfl, hm, e⟩ := rc.mem hx
      refine ⟨rfl, _, rfl, o, b, rfl, g.good b hm, s3 _ _ (sm _ _ e), fun a H4 _ s4 h4 => ?_⟩
      exact kq _ _ s4 ⟨o, b, rfl, e, a, rfl, h4⟩
    intro D1 xc H1 hD1 s1 hy1 e1
    have oc := objs_of (fun _ _ e => e) rc e1
    have sm := sm.trans s1
    refine ⟨_, rfl, _, rfl, _, rfl, _, rfl, ab, rfl, lc_map (fun x y H' => ∃ p b, x = .ref p ∧ H p = some (.tup (Brk.vals b)) ∧ ∃ a, y = .ref a ∧ ObjAt k.B H' a brkK (Brk.vals b)) (hb.same sm) (Nat.lt_of_le_of_lt lb1 (by decide)) (fun x y H H' s ⟨p, b, e, o, a, e2, h⟩ => ⟨p, b, e, o, a, e2, h.same s⟩)
      (fun x y H D l hD ⟨p, b, e, o, a, e2, dx, h⟩ => ⟨p, b, e, o, a, e2, dx, hide_of hD (fun _ z => by cases z) h⟩) ?_ ?_⟩
    · intro x H3 kk hx s3 kq
      obtain ⟨o, b, rfl, hm, e⟩ := rb.mem hx
      refine ⟨rfl, _, rfl, o, b, rfl, g.bgood b hm, s3 _ _ (sm _ _ e), fun a H4 _ s4 h4 => ?_⟩
      exact kq _ _ s4 ⟨o, b, rfl, e, a, rfl, h4⟩
    intro D2 xb H2 hD2 s2 hy2 e2
    have ob := objs_of (fun _ _ e => e) rb e2
    have sm := sm.trans s2
    refine ⟨_, rfl, as, rfl, lc_map (fun x y H' => ∃ p b, x = .ref p ∧ H p = some (.tup (Shp.row b)) ∧ ∃ a, y = .ref a ∧ ObjAt k.S H' a shpK (Shp.vals b)) (hs.same sm) (Nat.lt_of_le_of_lt ls1 (by decide)) (fun x y H H' s ⟨p, b, e, o, a, e2, h⟩ => ⟨p, b, e, o, a, e2, h.same s⟩)
      (fun x y H D l hD ⟨p, b, e, o, a, e2, dx, h⟩ => ⟨p, b, e, o, a, e2, dx, hide_of hD (fun _ z => by cases z) h⟩) ?_ ?_⟩
    · intro x H3 kk hx s3 kq
      obtain ⟨o, b, rfl, hm, e⟩ := rs.mem hx
      refine ⟨rfl, _, rfl, o, b, rfl, g.sgood b hm, s3 _ _ (sm _ _ e), fun a H4 _ s4 h4 => ?_⟩
      exact kq _ _ s4 ⟨o, b, rfl, e, a, rfl, h4⟩
    intro D3 xs H3 hD3 s3 hy3 e3
    have os := objs_of shp_vals rs e3
    have sm := sm.trans s3
    intro x dx hx hd hne
    have sx : Same H3 (upd (upd H3 dx (.own x)) x (.ins k.W dx [])) := fun b o e => by
      rw [upd_ne (ne_of_none e hx), upd_ne (ne_of_none e hd)]
      exact e
    refine ⟨x, W, ap, D1, D2, D3, xc, xb, xs, rfl, g, ⟨hp.same (sm.trans sx), .l (sx _ _ (s3 _ _ (s2 _ _ hy1))), oc.same (s2.trans (s3.trans sx)), .l (sx _ _ (s3 _ _ hy2)), ob.same (s3.trans sx), .l (sx _ _ hy3), os.same sx⟩, ⟨dx, upd_same⟩, fun H4 b4 f4 => ⟨rfl, ?_⟩⟩
    have s4 : Same H3 H4 := fun b o e => b4 b o (ne_of_none e hx) (sx _ _ e)
    exact q x H4 (none_back sm hx) (sm.trans s4) ⟨xc, xb, xs, f4.f, oc.same (s2.trans (s3.trans s4)), ob.same (s3.trans s4), os.same s4⟩
end
end Law
end
section
set_option Elab.async false
set_option linter.all false
set_option maxRecDepth 100000
set_option maxHeartbeats 4000000
namespace Law
open PySem PySem.Spec PyProof.Rows L2 IK SX
/-! ### tables -/
abbrev Ent := Int × List Nat
def entV (e : Ent) : List V := [.int e.1, .str (S e.2)]
/-- hours from lo on that rise, channels of these names -/
def Rise (chs : List (List Nat)) : Int → List Ent → Prop
  | _, [] => True
  | lo, e :: r => lo ≤ e.1 ∧ e.1 ≤ 100000000 ∧ e.2 ∈ chs ∧ Rise chs (e.1 + 1) r
abbrev Tab := List (List Nat × List Ent)
def kvsOf (T : Tab) (vs : List V) : List (Key × V) := (T.map fun e => (Sum.inr (S e.1) : Key)).zip vs
def EntsAt (K : PySem.W.Frag) (H : Hp) (vs : List V) (T : Tab) : Prop := vs.length = T.length ∧ ∀ (i : Nat) (v : V) (e : List Nat × List Ent), vs[i]? = some v → T[i]? = some e → ∃ b ys, v = .ref b ∧ SqA K H b ys ∧ RowsIs H ys (e.2.map entV)
theorem EntsAt.same {K : PySem.W.Frag} {H H' : Hp} {vs : List V} {T : Tab} (h : EntsAt K H vs T) (s : Same H H') : EntsAt K H' vs T := ⟨h.1, fun i v e h1 h2 => by
  obtain ⟨b, ys, e1, e2, e3⟩ := h.2 i v e h1 h2
  exact ⟨b, ys, e1, e2.same s, e3.same s⟩⟩
/-- the dict at d may be another one -/
theorem EntsAt.bar {K : PySem.W.Frag} {d : Addr} {kvs : List (Key × V)} {H H' : Hp} {vs : List V} {T : Tab} (h : EntsAt K H vs T) (b : Bar d H H') (hd : H d = some (.dK kvs)) : EntsAt K H' vs T := ⟨h.1, fun i v e h1 h2 => by
  obtain ⟨a, ys, e1, e2, e3⟩ := h.2 i v e h1 h2
  refine ⟨a, ys, e1, sqA_kp e2 (kp_bar b hd), e3.1, fun j y r h3 h4 => ?_⟩
  obtain ⟨q, e4, e5⟩ := e3.2 j y r h3 h4
  exact ⟨q, e4, b _ _ (fun z => by rw [z, hd] at e5; cases e5) e5⟩⟩
def TabAt (K : PySem.W.Frag) (H : Hp) (a : Addr) (T : Tab) : Prop := ∃ vs, H a = some (.dK (kvsOf T vs)) ∧ EntsAt K H vs T
theorem TabAt.same {K : PySem.W.Frag} {H H' : Hp} {a : Addr} {T : Tab} (h : TabAt K H a T) (s : Same H H') : TabAt K H' a T := by
  obtain ⟨vs, h1, h2⟩ := h
  exact ⟨vs, s _ _ h1, h2.same s⟩
/-- the same, its values lists -/
def ValsL (H : Hp) (vs : List V) (T : Tab) : Prop := vs.length = T.length ∧ ∀ (i : Nat) (v : V) (e : List Nat × List Ent), vs[i]? = some v → T[i]? = some e → ∃ b ys, v = .ref b ∧ H b = some (.lst ys) ∧ RowsIs H ys (e.2.map entV)
def TabL (H : Hp) (a : Addr) (T : Tab) : Prop := ∃ vs, H a = some (.dK (kvsOf T vs)) ∧ ValsL H vs T
theorem ValsL.ents {K : PySem.W.Frag} {H : Hp} {vs : List V} {T : Tab} (h : ValsL H vs T) : EntsAt K H vs T := ⟨h.1, fun i v e e1 e2 => by
  obtain ⟨b, ys, e3, e4, e5⟩ := h.2 i v e e1 e2
  exact ⟨b, ys, e3, .l e4, e5⟩⟩
theorem TabL.at {K : PySem.W.Frag} {H : Hp} {a : Addr} {T : Tab} (h : TabL H a T) : TabAt K H a T := by
  obtain ⟨vs, h1, h2⟩ := h
  exact ⟨vs, h1, h2.ents⟩
theorem ValsL.same {H H' : Hp} {vs : List V} {T : Tab} (h : ValsL H vs T) (s : Same H H') : ValsL H' vs T := ⟨h.1, fun i v e e1 e2 => by
  obtain ⟨b, ys, e3, e4, e5⟩ := h.2 i v e e1 e2
  exact ⟨b, ys, e3, s _ _ e4, e5.same s⟩⟩
theorem RowsIs.bar {d : Addr} {kvs : List (Key × V)} {H H' : Hp} {ys : List V} {rows : List (List V)} (h : RowsIs H ys rows) (b : Bar d H H') (hd : H d = some (.dK kvs)) : RowsIs H' ys rows := ⟨h.1, fun j y r h3 h4 => by
  obtain ⟨q, e4, e5⟩ := h.2 j y r h3 h4
  exact ⟨q, e4, b _ _ (fun z => by rw [z, hd] at e5; cases e5) e5⟩⟩
theorem ValsL.bar {d : Addr} {kvs : List (Key × V)} {H H' : Hp} {vs : List V} {T : Tab} (h : ValsL H vs T) (b : Bar d H H') (hd : H d = some (.dK kvs)) : ValsL H' vs T := ⟨h.1, fun i v e e1 e2 => by
  obtain ⟨q, ys, e3, e4, e5⟩ := h.2 i v e e1 e2
  exact ⟨q, ys, e3, b _ _ (fun z => by rw [z, hd] at e4; cases e4) e4, e5.bar b hd⟩⟩
theorem TabL.same {H H' : Hp} {a : Addr} {T : Tab} (h : TabL H a T) (s : Same H H') : TabL H' a T := by
  obtain ⟨vs, h1, h2⟩ := h
  exact ⟨vs, s _ _ h1, h2.same s⟩
theorem ValsL.snoc {H : Hp} {vs : List V} {T : Tab} {l : Addr} {ys : List V} {n : List Nat} {es : List Ent} (h : ValsL H vs T) (hl : H l = some (.lst ys)) (hr : RowsIs H ys (es.map entV)) : ValsL H (vs ++ [.ref l]) (T ++ [(n, es)]) := by
  refine ⟨by rw [List.length_append, List.length_append, h.1]; rfl, fun i v e e1 e2 => ?_⟩
  by_cases hi : i < T.length
  · rw [List.getElem?_append_left (by rw [h.1]; exact hi)] at e1
    rw [List.getElem?_append_left hi] at e2
    exact h.2 i v e e1 e2
  · rw [List.getElem?_append_right (by rw [h.1]; omega), h.1] at e1
    rw [List.getElem?_append_right (by omega)] at e2
    have e0 : i - T.length = 0 := by
      have := (List.getElem?_eq_some_iff.mp e2).1
      simp at this
      omega
    rw [e0] at e1 e2
    obtain rfl : V.ref l = v := by simpa using e1
    obtain rfl : (n, es) = e := by simpa using e2
    exact ⟨l, ys, rfl, hl, hr⟩
theorem kvsOf_snoc {vs : List V} {T : Tab} {v : V} {n : List Nat} {es : List Ent} (h : vs.length = T.length) : kvsOf (T ++ [(n, es)]) (vs ++ [v]) = kvsOf T vs ++ [(.inr (S n), v)] := by
  unfold kvsOf
  rw [List.map_append, List.zip_append (by rw [List.length_map, h])]
  rfl
theorem val_none {T : Tab} {vs : List V} {n : List Nat} (h : ∀ e ∈ T, e.1 ≠ n) : valV (kvsOf T vs) (.inr (S n)) = none := by
  unfold valV
  rw [List.find?_eq_none.mpr]
  · rfl
  · rintro ⟨k, v⟩ hk
    have h1 := (List.of_mem_zip hk).1
    obtain ⟨e, he, rfl⟩ := List.mem_map.mp h1
    simp only [decide_eq_true_eq]
    intro z
    injection z with z
    exact h e he (S_inj z)
theorem lock_same {d : Addr} {u o : HO} {H H' : Hp} (b : Bar d (upd H d o) H') (hd : H d = some u) : Same H (upd H' d u) := fun x y e => by
  by_cases z : x = d
  · rw [z, upd_same, ← e, z, hd]
  · rw [upd_ne z]
    exact b x y z (by rw [upd_ne z]; exact e)
/-- the names of a world's vessels, in order -/
def Wld.vnames (W : Wld) : List (List Nat) := W.brks.map (fun b => b.name) ++ W.shps.map (fun b => b.name)
def Wld.cnames (W : Wld) : List (List Nat) := W.chans.map Chan.name
structure TGood (W : Wld) (T : Tab) : Prop where
  nd : (T.map (·.1)).Nodup
  ves : ∀ e ∈ T, e.1 ∈ W.vnames
  rise : ∀ e ∈ T, Rise W.cnames W.begin e.2
  few : ∀ e ∈ T, e.2.length ≤ 1000
/-- the table as it is told: the vessels that have entries, in order -/
def entsOf (T : Tab) (n : List Nat) : List Ent := match T.find? (fun e => e.1 == n) with
  | some e => e.2
  | none => []
def tabTold (W : Wld) (T : Tab) : Tab := (W.vnames.map fun n => (n, entsOf T n)).filter fun e => !e.2.isEmpty
theorem ents_val {K : PySem.W.Frag} {H : Hp} {n : List Nat} : ∀ {T : Tab} {vs : List V}, EntsAt K H vs T → (valV (kvsOf T vs) (.inr (S n)) = none ∧ entsOf T n = []) ∨ ∃ b ys, valV (kvsOf T vs) (.inr (S n)) = some (.ref b) ∧ SqA K H b ys ∧ RowsIs H ys ((entsOf T n).map entV)
  | [], vs, _ => .inl ⟨by simp [kvsOf, valV_nil], rfl⟩
  | e :: T, [], h => by have := h.1; simp at this
  | e :: T, v :: vs, h => by
    by_cases z : e.1 = n
    · obtain ⟨b, ys, h1, h2, h3⟩ := h.2 0 v e rfl rfl
      refine .inr ⟨b, ys, ?_, h2, ?_⟩
      · show valV ((_, v) :: _) _ = _
        rw [valV_pos (by show (Sum.inr (S e.1) : Key) = _; rw [z]), h1]
      · have : entsOf (e :: T) n = e.2 := by simp [entsOf, z]
        rw [this]
        exact h3
    · have e1 : valV (kvsOf (e :: T) (v :: vs)) (.inr (S n)) = valV (kvsOf T vs) (.inr (S n)) := by
        show valV ((_, v) :: _) _ = _
        rw [valV_neg (fun y => z (S_inj (by injection y)))]
        rfl
      have e2 : entsOf (e :: T) n = entsOf T n := by simp [entsOf, z]
      rw [e1, e2]
      exact ents_val ⟨by simpa using h.1, fun i v e h1 h2 => h.2 (i + 1) v e (by simpa using h1) (by simpa using h2)⟩
/-- the data of entries -/
def entsD (es : List Ent) : PyData := .list (es.map fun e => .tuple [.int e.1, .str (S e.2)])
theorem dp_ents {K : PySem.W.Frag} {H : Hp} : ∀ {ys : List V} {es : List Ent}, RowsIs H ys (es.map entV) → DpAll K H ys (es.map fun e => .tuple [.int e.1, .str (S e.2)])
  | [], [], _ => .nil
  | [], e :: es, h => by have := h.1; simp at this
  | y :: ys, [], h => by have := h.1; simp at this
  | y :: ys, e :: es, h => by
    obtain ⟨a, rfl, ha⟩ := h.2 0 y (entV e) rfl rfl
    exact .cons (.tup (.inl (.inl ha)) (.cons (.int _) (.cons (.str _) .nil))) (dp_ents ⟨by simpa using h.1, fun i v e h1 h2 => h.2 (i + 1) v e (by simpa using h1) (by simpa using h2)⟩)
theorem ents_shaped {es : List Ent} (h : ∀ e ∈ es, PyData.strOk (S e.2) = true) : SeqAt.shaped (entsD es) = true := by
  have h1 : PyData.canLayAll0 (es.map fun e => PyData.tuple [.int e.1, .str (S e.2)]) = true ∧ PyData.depthAll (es.map fun e => PyData.tuple [.int e.1, .str (S e.2)]) ≤ 2 := by
    induction es with
    | nil => exact ⟨rfl, by decide⟩
    | cons e es ih =>
      obtain ⟨i1, i2⟩ := ih fun x hx => h x (List.mem_cons_of_mem _ hx)
      constructor
      · simp [PyData.canLayAll0, PyData.canLay0, h e List.mem_cons_self, i1]
      · simp only [List.map_cons, PyData.depthAll, PyData.depth]
        omega
  simp only [SeqAt.shaped, entsD, PyData.canLay0, PyData.depth, h1.1, Bool.true_and, decide_eq_true_eq]
  omega
theorem ents_eqv (es : List Ent) : PyData.eqv (entsD es) (.list []) = es.isEmpty := by
  cases es with
  | nil => rfl
  | cons e es => rfl
theorem name_ok {l : List Nat} (h : isName l = true) : PyData.strOk (S l) = true := by
  unfold PyData.strOk
  rw [← Array.all_toList, List.all_eq_true]
  intro c hc
  have := (isName_len h).2.2 c (by simpa [S] using hc)
  simp only [decide_eq_true_eq]
  omega
theorem Rise.mem {chs : List (List Nat)} : ∀ {lo : Int} {es : List Ent}, Rise chs lo es → ∀ e ∈ es, e.2 ∈ chs
  | _, [], _, e, h => by cases h
  | _, e :: es, ⟨_, _, h3, h4⟩, x, hx => by
    rcases List.mem_cons.mp hx with rfl | hx
    · exact h3
    · exact h4.mem x hx
theorem entsOf_mem {T : Tab} {n : List Nat} : entsOf T n = [] ∨ ∃ e ∈ T, e.1 = n ∧ entsOf T n = e.2 := by
  unfold entsOf
  cases h : T.find? (fun e => e.1 == n) with
  | none => exact .inl rfl
  | some e => exact .inr ⟨e, List.mem_of_find?_eq_some h, by simpa using List.find?_some h, rfl⟩
/-- a vessel of the world by its place: its name -/
theorem ves_at {K : PySem.W.Frag} {CB CS : Addr} {H : Hp} {xb xs : List V} {W : Wld} (TB : Cl K CB brkK) (TS : Cl K CS shpK) (ob : Objs CB H brkK xb (W.brks.map Brk.vals)) (os : Objs CS H shpK xs (W.shps.map Shp.vals)) {i : Nat} {x : V} (hx : (xb ++ xs)[i]? = some x) :
    ∃ n o C dx fs, W.vnames[i]? = some n ∧ x = .ref o ∧ H o = some (.ins C dx fs) ∧ Cls K C ∧ NoAttr K C "name" ∧ fs.lookup ("name" : Str) = some (.str (S n)) := by
  have l1 : xb.length = W.brks.length := by rw [ob.1, List.length_map]
  have l2 : xs.length = W.shps.length := by rw [os.1, List.length_map]
  by_cases hi : i < W.brks.length
  · rw [List.getElem?_append_left (by omega)] at hx
    obtain ⟨o, e, dx, h⟩ := ob.2 i x (W.brks[i]).vals hx (by rw [List.getElem?_map, List.getElem?_eq_getElem hi]; rfl)
    refine ⟨(W.brks[i]).name, o, CB, dx, _, ?_, e, h, TB.cls, TB.no _ (by decide +kernel), look_zip (i := 0) brk_nd rfl rfl⟩
    unfold Wld.vnames
    rw [List.getElem?_append_left (by rw [List.length_map]; exact hi), List.getElem?_map, List.getElem?_eq_getElem hi]
    rfl
  · rw [List.getElem?_append_right (by omega)] at hx
    have hj : i - xb.length < W.shps.length := by
      have := (List.getElem?_eq_some_iff.mp hx).1
      omega
    obtain ⟨o, e, dx, h⟩ := os.2 _ x (W.shps[i - xb.length]).vals hx (by rw [List.getElem?_map, List.getElem?_eq_getElem hj]; rfl)
    refine ⟨(W.shps[i - xb.length]).name, o, CS, dx, _, ?_, e, h, TS.cls, TS.no _ (by decide +kernel), look_zip (i := 0) shp_nd rfl rfl⟩
    unfold Wld.vnames
    rw [List.getElem?_append_right (by rw [List.length_map]; omega), List.length_map, List.getElem?_map, ← l1, List.getElem?_eq_getElem hj]
    rfl
def spIsEntry (K : PySem.W.Frag) : Sp := fun vs H Q _ => ∃ (lo : Int) (c t : Addr) (chs : List (List Nat)) (e : Ent), vs = [.int lo, .ref c, .ref t] ∧ SqA K H c (txts chs) ∧ H t = some (.tup (entV e)) ∧ lo ≤ e.1 ∧ e.1 ≤ 100000000 ∧ e.2 ∈ chs ∧ Q (.bl true) H
def spAreEntries (K : PySem.W.Frag) : Sp := fun vs H Q _ => ∃ (lo : Int) (c a : Addr) (chs : List (List Nat)) (ys : List V) (es : List Ent), vs = [.int lo, .ref c, .ref a] ∧ SqA K H c (txts chs) ∧ SqA K H a ys ∧ RowsIs H ys (es.map entV) ∧ Rise chs lo es ∧ ∀ H', Same H H' → Q (.bl true) H'
def spIsTable (K : PySem.W.Frag) (k : KA) : Sp := fun vs H Q _ => ∃ (p a : Addr) (W : Wld) (T : Tab), vs = [.ref p, .ref a] ∧ WldAt k H p W ∧ W.Good ∧ TabAt K H a T ∧ TGood W T ∧ ∀ H', Same H H' → Q (.bl true) H'
def spTableTold (K : PySem.W.Frag) (k : KA) : Sp := fun vs H Q _ => ∃ (p a : Addr) (W : Wld) (T : Tab), vs = [.ref p, .ref a] ∧ WldAt k H p W ∧ W.Good ∧ TabAt K H a T ∧ TGood W T ∧ ∀ b H', H b = none → Same H H' → TabL H' b (tabTold W T) → Q (.ref b) H'
def spChannels (k : KA) : Sp := fun vs H Q _ => ∃ (p : Addr) (W : Wld) (xc xb xs : List V), vs = [.ref p] ∧ WldF k.W H p W xc xb xs ∧ xc.length ≤ 12 ∧ ∀ a H', H a = none → Same H H' → H' a = some (.lst xc) → Q (.ref a) H'
section
variable {P : Program} {w : World} {K : PySem.W.Frag} {mg : Str → Option Value} {base : Heap}
theorem ok_channels {k : KA} {f : Addr} {fd : FuncData} (F : Fun K "channels" "World.channels" s_World_channels f fd) (B : Blt mg) (TW : Cl K k.W wldK) : FnOk P w K mg base CX0 1 f fd ["self"] (spChannels k) := by
  refine F.ok sc_World_channels (fun vs H Q E h => ?_) (fun cdv A outer s H vs Q E hr h => ?_)
  · obtain ⟨p, W, xc, xb, xs, rfl, _⟩ := h
    rfl
  · obtain ⟨p, W, xc, xb, xs, rfl, ⟨dx, lp, lc, lb, ls, h1, h2, h3, h4, h5⟩, hl, q⟩ := h
    refine ⟨_, (pss_one (ps_ret (pe_callTy call_list_of (by rfl) B.list (by decide +kernel) (pa_cons (pe_fld (pv 0) rfl) pa_nil)))), ?_⟩
    refine ⟨_, rfl, ?_⟩
    refine ⟨_, _, _, _, _, rfl, h1, Cl.cls TW, Cl.no TW _ (by decide +kernel), look_zip (i := 2) wld_nd rfl rfl, ?_⟩
    refine ⟨lc, _, rfl, SqA.l h3, fun l hl => ?_⟩
    generalize hXq : upd _ l _ = H1
    have s1 := laid_same hXq hl
    have e1 := laid_at hXq
    clear hXq
    exact q l H1 hl s1 e1
theorem ok_isEntry {f : Addr} {fd : FuncData} (F : Fun K "is_entry" "is_entry" s_is_entry f fd) (B : Blt mg) (gL : GI mg "LAST_HOUR" 100000000) (DW : Dn P w K mg base CX0 2 "is_within" ["thing", "low", "high"] (spWithin K)) : FnOk P w K mg base CX0 3 f fd ["begin", "channels", "thing"] (spIsEntry K) := by
  refine F.ok sc_is_entry (fun vs H Q E h => ?_) (fun cdv A outer s H vs Q E hr h => ?_)
  · obtain ⟨lo, c, t, chs, e, rfl, _⟩ := h
    rfl
  · obtain ⟨lo, c, t, chs, e, rfl, hc, ht, h1, h2, h3, q⟩ := h
    refine ⟨_, (pss_cons (ps_if (PW.pt (pw_or (pt_not (pt_val (pe_callB call_isi (by rfl) B.isi (by decide +kernel) (pa_cons (pv 2) (pa_cons (pe_bltn (v := .ty "tuple") (by rfl) B.tuple (by decide +kernel) rfl) pa_nil))))) (pw_or1 (pt_cmpR op_ne (pe_callB call_len_seq (by rfl) B.len PySem.boot_len (pa_cons (pv 2) pa_nil)) pe_int (nomark _))))) (pss_one (ps_ret pe_bl)) pss_nil)
      (pss_one (ps_ret (pe_and (pe_d DW (hr.mono (by decide)) (by rfl) pass0 (pa_cons (pe_ix ix_tup (pv 2) pe_int (fun _ _ => rfl)) (pa_cons (pv 0) (pa_cons (C8.pe_gc (by rfl) gL) pa_nil)))) (pe_and (pe_callB call_isi (by rfl) B.isi (by decide +kernel) (pa_cons (pe_ix ix_tup (pv 2) pe_int (fun _ _ => rfl)) (pa_cons (pe_bltn (v := .ty "str") (by rfl) B.str (by decide +kernel) rfl) pa_nil))) (pe_one (pe_cmpR op_in_seq (pe_ix ix_tup (pv 2) pe_int (fun _ _ => rfl)) (pv 1) (by rfl)))))))), ?_⟩
    refine ⟨_, rfl, _, _, _, _, true, rfl, .ty "tuple", .base (.tup ht), kit_ty (by decide +kernel), true, rfl, iteF ?_⟩
    refine ⟨_, rfl, t, _, rfl, SqA.t ht, rfl, _, rfl, iteF ?_⟩
    refine ⟨_, rfl, t, _, 0, _, rfl, rfl, .inl (.inl ht), rfl, _, rfl, _, _, _, rfl, .inl ⟨_, rfl, ?_⟩⟩
    rw [decide_eq_true h1, decide_eq_true h2]
    refine ⟨true, rfl, iteT ?_⟩
    refine ⟨_, rfl, t, _, 1, _, rfl, rfl, .inl (.inl ht), rfl, _, _, _, _, true, rfl, .ty "str", .base (.str _), kit_ty (by decide +kernel), true, rfl, iteT ?_⟩
    refine ⟨_, rfl, t, _, 1, _, rfl, rfl, .inl (.inl ht), rfl, _, rfl, c, _, rfl, hc, rfl, flat_txts, ?_⟩
    rw [inV_txts h3]
    exact q
theorem ok_areEntries {f : Addr} {fd : FuncData} (F : Fun K "are_entries" "are_entries" s_are_entries f fd) (B : Blt mg) (DE : Dn P w K mg base CX0 3 "is_entry" ["begin", "channels", "thing"] (spIsEntry K)) : FnOk P w K mg base CX0 4 f fd ["begin", "channels", "thing"] (spAreEntries K) := by
  refine F.ok sc_are_entries (fun vs H Q E h => ?_) (fun cdv A outer s H vs Q E hr h => ?_)
  · obtain ⟨lo, c, t, chs, e, es, rfl, _⟩ := h
    rfl
  · obtain ⟨lo, c, a, chs, ys, es, rfl, hc, ha, hy, hR, q⟩ := h
    refine ⟨_, (pss_cons (ps_if (pt_not (pt_val (pe_callB call_isiT (by rfl) B.isi (by decide +kernel) (pa_cons (pv 2) (pa_cons (pe_tup (pa_cons (pe_bltn (v := .ty "list") (by rfl) B.list (by decide +kernel) rfl) (pa_cons (pe_bltn (v := .ty "tuple") (by rfl) B.tuple (by decide +kernel) rfl) pa_nil))) pa_nil))))) (pss_one (ps_ret pe_bl)) pss_nil)
      (pss_cons (ps_set (i := 3) sc_are_entries.nd rfl (.inl rfl) (pe_op op_sub (pv 0) pe_int))
      (pss_cons (ps_for PassesOwn.never rfl (pi_seq (pv 2)) (pg_name (i := 4) sc_are_entries.nd rfl (.inl rfl))
      (pss_cons (ps_if (PW.pt (pw_or (pt_not (pt_val (pe_d DE (hr.mono (by decide)) (by rfl) pass0 (pa_cons (pv 0) (pa_cons (pv 1) (pa_cons (pv 4) pa_nil)))))) (pw_or1 (pt_cmpR op_le (pe_ix ix_tup (pv 4) pe_int (fun _ _ => rfl)) (pv 3) (nomark _))))) (pss_one (ps_ret pe_bl)) pss_nil)
      (pss_one (ps_set (i := 3) sc_are_entries.nd rfl (.inl rfl) (pe_ix ix_tup (pv 4) pe_int (fun _ _ => rfl))))))
      (pss_one (ps_ret pe_bl))))), ?_⟩
    refine ⟨_, rfl, ?_⟩
    refine ⟨Nat.le_of_ble_eq_true rfl, fun t ht => ?_⟩
    generalize hXq : upd _ t _ = H1
    have s1 := laid_same hXq ht
    have e1 := laid_at hXq
    clear hXq
    obtain ⟨ty, t1, t2⟩ := sqA_ty (ha.same s1)
    refine ⟨_, _, _, _, _, true, rfl, e1, .cons (.ty _) (.cons (.ty _) .nil), t1, t2, true, rfl, iteF ?_⟩
    refine ⟨_, rfl, _, _, rfl, rfl, ?_⟩
    refine ⟨_, rfl, a, rfl, for_seq (ha.same s1) (fun i σ H' => ∃ n y, σ = [some (.int lo), some (.ref c), some (.ref a), some (.int n), y] ∧ Same H1 H' ∧ Rise chs (n + 1) (es.drop i) ∧ lo ≤ n + 1) ⟨_, _, rfl, Same.refl _, by rw [Int.sub_add_cancel]; exact hR, by omega⟩ ?_ ?_ ?_⟩
    · rintro i σ H' ⟨n, y, rfl, s, _⟩
      exact Same.kp s
    · rintro i x σ H' hx ⟨n, y, rfl, s, hr', hn⟩
      have hi : i < es.length := by
        have h1 := (List.getElem?_eq_some_iff.mp hx).1
        have h2 := hy.1
        rw [List.length_map] at h2
        omega
      rw [List.drop_eq_getElem_cons hi] at hr'
      obtain ⟨r1, r2, r3, r4⟩ := hr'
      obtain ⟨b, rfl, hb⟩ := (hy.same (s1.trans s)).2 i x (entV es[i]) hx (by rw [List.getElem?_map, List.getElem?_eq_getElem hi]; rfl)
      refine ⟨_, rfl, _, rfl, _, rfl, lo, c, b, chs, es[i], rfl, hc.same (s1.trans s), hb, by omega, r2, r3, true, rfl, iteF ?_⟩
      refine ⟨_, rfl, b, _, 0, _, rfl, rfl, .inl (.inl hb), rfl, _, rfl, _, _, rfl, rfl, _, rfl, ?_⟩
      rw [decide_eq_false (show ¬ es[i].1 ≤ n by omega)]
      refine iteF ?_
      refine ⟨_, rfl, b, _, 0, _, rfl, rfl, .inl (.inl hb), rfl, ?_⟩
      exact ⟨_, _, rfl, s, r4, by omega⟩
    · rintro σ H' ⟨n, y, rfl, s, _⟩
      exact q H' (s1.trans s)
theorem ok_isTable {k : KA} {f : Addr} {fd : FuncData} (F : Fun K "is_table" "is_table" s_is_table f fd) (B : Blt mg) (TW : Cl K k.W wldK) (TC : Cl K k.C chanK) (TB : Cl K k.B brkK) (TS : Cl K k.S shpK) (MV : Me P w K mg base CX0 1 k.W "vessels" ["self"] (spVessels k))
    (MC : Me P w K mg base CX0 1 k.W "channels" ["self"] (spChannels k)) (MB : Me P w K mg base CX0 1 k.W "begin_hour" ["self"] (spBegin k)) (DA : Dn P w K mg base CX0 4 "are_entries" ["begin", "channels", "thing"] (spAreEntries K)) : FnOk P w K mg base CX0 5 f fd ["world", "thing"] (spIsTable K k) := by
  refine F.ok sc_is_table (fun vs H Q E h => ?_) (fun cdv A outer s H vs Q E hr h => ?_)
  · obtain ⟨p, a, W, T, rfl, _⟩ := h
    rfl
  · obtain ⟨p, a, W, T, rfl, ⟨xc, xb, xs, hF, oc, ob, os⟩, g, ⟨vs, ha, hv⟩, tg, q⟩ := h
    refine ⟨_, (pss_cons (ps_if (pt_not (pt_val (pe_callB call_isi (by rfl) B.isi (by decide +kernel) (pa_cons (pv 1) (pa_cons (pe_bltn (v := .ty "dict") (by rfl) B.dict (by decide +kernel) rfl) pa_nil))))) (pss_one (ps_ret pe_bl)) pss_nil)
      (pss_cons (ps_setLc (i := 2) (own := [("vessel", 6)]) (g := gName 6) (tt := tYes) rfl sc_is_table.nd rfl rfl (by rfl) (pi_seq (pe_me0 MV TW.cls (hr.mono (by decide)) pass0 (pv 0))) (blkOk_by (N := ["world", "thing", "names", "channels", "name", "entries", "vessel", "channel"]) (sc := defScope s_is_table) (by decide +kernel)) (fun _ _ _ _ _ => pg_name (i := 6) sc_is_table.nd rfl (Or.inl rfl)) (fun _ _ _ _ _ => pts_nil) (fun _ _ _ _ _ => (pe_fldK (K := K) rfl (pv 6) rfl)))
      (pss_cons (ps_setLc (i := 3) (own := [("channel", 7)]) (g := gName 7) (tt := tYes) rfl sc_is_table.nd rfl rfl (by rfl) (pi_seq (pe_me0 MC TW.cls (hr.mono (by decide)) pass0 (pv 0))) (blkOk_by (N := ["world", "thing", "names", "channels", "name", "entries", "vessel", "channel"]) (sc := defScope s_is_table) (by decide +kernel)) (fun _ _ _ _ _ => pg_name (i := 7) sc_is_table.nd rfl (Or.inl rfl)) (fun _ _ _ _ _ => pts_nil) (fun _ _ _ _ _ => (pe_fldK (K := K) rfl (pv 7) rfl)))
      (pss_cons (ps_lock (ps_for PassesOwn.never rfl (pi_items (pv 1)) (pg_tup rfl (pgs_cons (pg_name (i := 4) sc_is_table.nd rfl (.inl rfl)) (pgs_cons (pg_name (i := 5) sc_is_table.nd rfl (.inl rfl)) pgs_nil)))
      (pss_cons (ps_if (PW.pt (pw_or (pt_not (pt_val (pe_callB call_isi (by rfl) B.isi (by decide +kernel) (pa_cons (pv 4) (pa_cons (pe_bltn (v := .ty "str") (by rfl) B.str (by decide +kernel) rfl) pa_nil))))) (pw_or1 (pt_cmpR op_notIn_seq (pv 4) (pv 2) (by rfl))))) (pss_one (ps_ret pe_bl)) pss_nil)
      (pss_one (ps_if (pt_not (pt_val (pe_d DA (hr.mono (by decide)) (by rfl) pass0 (pa_cons (pe_me0 MB TW.cls (hr.mono (by decide)) pass0 (pv 0)) (pa_cons (pv 3) (pa_cons (pv 5) pa_nil)))))) (pss_one (ps_ret pe_bl)) pss_nil)))))
      (pss_one (ps_ret pe_bl)))))), ?_⟩
    have lc1 : xc.length ≤ 12 := by rw [oc.1, List.length_map]; exact g.chans
    have lb1 : xb.length ≤ 4 := by rw [ob.1, List.length_map]; exact g.brks
    have ls1 : xs.length ≤ 6 := by rw [os.1, List.length_map]; exact g.shps
    obtain ⟨dx, lp, lc, lb, ls, hp, _⟩ := id hF
    refine ⟨_, rfl, _, _, _, _, true, rfl, .ty "dict", .base (.dK ha), kit_ty (by decide +kernel), true, rfl, iteF ?_⟩
    refine ⟨_, rfl, p, dx, _, rfl, hp, look_no (by decide +kernel), p, W, xc, xb, xs, rfl, hF, by omega, fun l H1 hl s1 e1 => ?_⟩
    refine ⟨l, rfl, lc_map (fun x y _ => ∃ p C dx fs, x = .ref p ∧ H p = some (.ins C dx fs) ∧ fs.lookup ("name" : Str) = some y) (.l e1) (Nat.lt_of_le_of_lt (by rw [List.length_append]; omega : (xb ++ xs).length ≤ 100) (by decide)) (fun _ _ _ _ _ e => e) (fun _ _ _ _ _ _ e => e) ?_ ?_⟩
    · intro x H3 kk hx s3 kq
      rcases List.mem_append.mp hx with hx | hx
      · obtain ⟨o, c, rfl, _, dy, e⟩ := ob.mem hx
        refine ⟨rfl, _, rfl, ?_⟩
        refine ⟨_, _, _, _, _, rfl, (s3 _ _ (s1 _ _ e)), Cl.cls TB, Cl.no TB _ (by decide +kernel), look_zip (i := 0) brk_nd rfl rfl, ?_⟩
        exact kq _ _ (Same.refl _) ⟨o, _, dy, _, rfl, e, look_zip (i := 0) brk_nd rfl rfl⟩
      · obtain ⟨o, c, rfl, _, dy, e⟩ := os.mem hx
        refine ⟨rfl, _, rfl, ?_⟩
        refine ⟨_, _, _, _, _, rfl, (s3 _ _ (s1 _ _ e)), Cl.cls TS, Cl.no TS _ (by decide +kernel), look_zip (i := 0) shp_nd rfl rfl, ?_⟩
        exact kq _ _ (Same.refl _) ⟨o, _, dy, _, rfl, e, look_zip (i := 0) shp_nd rfl rfl⟩
    intro D2 ys H8 hD2 s8 hy e
    obtain ⟨e3, e2⟩ := e.split
    have z1 := flds_of (k := "name") (j := 0) (f := fun c : Brk => V.str (S c.name)) brk_nd rfl (fun _ => rfl) ob e3
    have z2 := flds_of (k := "name") (j := 0) (f := fun c : Shp => V.str (S c.name)) shp_nd rfl (fun _ => rfl) os e2
    have z3 := List.take_append_drop xb.length ys
    rw [z1, z2] at z3
    have hN : H8 D2 = some (.lst (txts W.vnames)) := by
      rw [hy, ← z3, txts, Wld.vnames, List.map_append, List.map_map, List.map_map]
      rfl
    have sm := s1.trans s8
    clear hy e e2 e3 z1 z2 z3 e1
    refine ⟨_, rfl, p, dx, _, rfl, sm _ _ hp, look_no (by decide +kernel), p, W, xc, xb, xs, rfl, hF.same sm, by omega, fun l H9 hl s1 e1 => ?_⟩
    refine ⟨l, rfl, lc_map (fun x y _ => ∃ p C dx fs, x = .ref p ∧ H p = some (.ins C dx fs) ∧ fs.lookup ("name" : Str) = some y) (.l e1) (Nat.lt_of_le_of_lt lc1 (by decide)) (fun _ _ _ _ _ e => e) (fun _ _ _ _ _ _ e => e) ?_ ?_⟩
    · intro x H3 kk hx s3 kq
      obtain ⟨o, c, rfl, _, dy, e⟩ := oc.mem hx
      refine ⟨rfl, _, rfl, ?_⟩
      refine ⟨_, _, _, _, _, rfl, (s3 _ _ (s1 _ _ (sm _ _ e))), Cl.cls TC, Cl.no TC _ (by decide +kernel), look_zip (i := 0) chan_nd rfl rfl, ?_⟩
      exact kq _ _ (Same.refl _) ⟨o, _, dy, _, rfl, e, look_zip (i := 0) chan_nd rfl rfl⟩
    intro D3 ys H10 hD3 s10 hy e
    obtain rfl := flds_of (k := "name") (j := 0) (f := fun c : Chan => V.str (S c.name)) chan_nd rfl (fun _ => rfl) oc e
    have hM : H10 D3 = some (.lst (txts W.cnames)) := by rw [hy, txts, Wld.cnames, List.map_map]; rfl
    have hN := s10 _ _ (s1 _ _ hN)
    have sm := sm.trans (s1.trans s10)
    clear hy e e1
    have ha := sm _ _ ha
    refine ⟨a, _, ha, trivial, fun od => ?_⟩
    refine ⟨_, rfl, a, od, _, rfl, upd_same, ?_⟩
    refine for_it walk_items (fun i σ H' => ∃ y z u t, σ = [some (.ref p), some (.ref a), some (.ref D2), some (.ref D3), y, z, u, t] ∧ Bar a (upd H10 a (.frz od (.dK (kvsOf T vs)))) H' ∧ H' a = some (.frz od (.dK (kvsOf T vs)))) ⟨_, _, _, _, rfl, Bar.refl, upd_same⟩ (fun i σ H' _ ⟨_, _, _, _, _, _, e⟩ => e) ?_ ?_
    · rintro i x σ H' H2 hi ⟨_, _, _, _, rfl, b, hf⟩ ⟨t, kx, v, rfl, ht, rfl, hk, hvx⟩
      have hi2 : i < T.length := by
        have : (kvsOf T vs).length = T.length := by unfold kvsOf; rw [List.length_zip, List.length_map, hv.1, Nat.min_self]
        omega
      have hkv : (kvsOf T vs)[i]? = some (.inr (S T[i].1), vs[i]'(by rw [hv.1]; exact hi2)) := by
        unfold kvsOf
        rw [List.getElem?_eq_getElem (by rw [List.length_zip, List.length_map, hv.1, Nat.min_self]; exact hi2), List.getElem_zip, List.getElem_map]
      dsimp only at hk hvx
      rw [hkv] at hk hvx
      obtain rfl : kx = .str (S T[i].1) := (Option.some.inj hk).symm
      obtain rfl : v = vs[i]'(by rw [hv.1]; exact hi2) := (Option.some.inj hvx).symm
      have hm : T[i] ∈ T := List.getElem_mem hi2
      have nta : t ≠ a := fun z => by rw [z, hf] at ht; cases ht
      have b0 : Bar a H10 (upd H10 a (.frz od (.dK (kvsOf T vs)))) := Bar.at_
      have b2 : Bar a H10 (upd H' t (.tup [.str (S T[i].1), vs[i]'(by rw [hv.1]; exact hi2)])) := b0.trans (b.trans (Bar.new ht))
      generalize hX : upd H' t _ = H2 at b2 ⊢
      have e2 := laid_at hX
      have hf2 : H2 a = some (.frz od (.dK (kvsOf T vs))) := laid_same hX ht _ _ hf
      have b3 : Bar a (upd H10 a (.frz od (.dK (kvsOf T vs)))) H2 := b.trans (Bar.same (laid_same hX ht))
      clear hX
      obtain ⟨l, ys, ev, hl, hr2⟩ := ((hv.same sm).bar b2 ha).2 i _ T[i] (by rw [List.getElem?_eq_getElem (by rw [hv.1]; exact hi2)]) (List.getElem?_eq_getElem hi2)
      have nN : D2 ≠ a := fun z => by rw [z, ha] at hN; cases hN
      have nM : D3 ≠ a := fun z => by rw [z, ha] at hM; cases hM
      have np : p ≠ a := fun z => by rw [z] at hp; rw [sm _ _ hp] at ha; cases ha
      have hF2 : WldF k.W H2 p W xc xb xs := by
        obtain ⟨dx, lp, lc, lb, ls, h1, h2, h3, h4, h5⟩ := hF.same sm
        have ne : ∀ {x o}, H10 x = some o → (∀ kv, o ≠ .dK kv) → x ≠ a := fun h n z => by rw [z, ha] at h; exact n _ (Option.some.inj h).symm
        exact ⟨dx, lp, lc, lb, ls, b2 _ _ (ne h1 fun _ z => by cases z) h1, b2 _ _ (ne h2 fun _ z => by cases z) h2, b2 _ _ (ne h3 fun _ z => by cases z) h3, b2 _ _ (ne h4 fun _ z => by cases z) h4, b2 _ _ (ne h5 fun _ z => by cases z) h5⟩
      refine ⟨t, _, rfl, .inl (.inl e2), rfl, _, _, rfl, _, _, rfl, rfl, ?_⟩
      refine ⟨_, rfl, _, _, _, _, true, rfl, .ty "str", .base (.str _), kit_ty (by decide +kernel), true, rfl, iteF ?_⟩
      refine ⟨_, rfl, _, rfl, D2, _, rfl, .inl (.inl (.inl (b2 _ _ nN hN))), rfl, flat_txts, ?_⟩
      rw [inV_txts (tg.ves _ hm)]
      refine ⟨_, rfl, iteF ?_⟩
      refine ⟨_, rfl, p, dx, _, rfl, b2 _ _ np (sm _ _ hp), look_no (by decide +kernel), p, W, xc, xb, xs, rfl, hF2, ?_⟩
      refine ⟨_, rfl, _, rfl, W.begin, D3, l, W.cnames, ys, T[i].2, by rw [ev], .l (b2 _ _ nM hM), hl, hr2, tg.rise _ hm, fun H5 s5 => ?_⟩
      refine ⟨true, rfl, iteF ?_⟩
      exact ⟨_, _, _, _, rfl, b3.trans (Bar.same s5), s5 _ _ hf2⟩
    · rintro σ H' ⟨_, _, _, _, rfl, b, hf⟩
      exact ⟨hf, q _ (sm.trans (lock_same b ha))⟩
theorem ok_tableTold {k : KA} {f : Addr} {fd : FuncData} (F : Fun K "table_told" "table_told" s_table_told f fd) (B : Blt mg) (TB : Cl K k.B brkK) (TS : Cl K k.S shpK) (TW : Cl K k.W wldK) (MV : Me P w K mg base CX0 1 k.W "vessels" ["self"] (spVessels k))
    (DT : Dn P w K mg base CX0 5 "is_table" ["world", "thing"] (spIsTable K k)) : FnOk P w K mg base CX0 6 f fd ["world", "table"] (spTableTold K k) := by
  refine F.ok sc_table_told (fun vs H Q E h => ?_) (fun cdv A outer s H vs Q E hr h => ?_)
  · obtain ⟨p, a, W, T, rfl, _⟩ := h
    rfl
  · obtain ⟨p, a, W, T, rfl, hW, g, hT, tg, q⟩ := h
    have hu := room_u1 hr
    have hu2 := hr.units
    refine ⟨_, (pss_cons (ps_if (pt_not (pt_val (pe_d DT (hr.mono (by decide)) (by rfl) pass0 (pa_cons (pv 0) (pa_cons (pv 1) pa_nil))))) pss_dead pss_nil)
      (pss_cons (ps_set (i := 2) sc_table_told.nd rfl (.inl rfl) pe_dnewK)
      (pss_cons (ps_for PassesOwn.never rfl (pi_seq (pe_me0 MV TW.cls (hr.mono (by decide)) pass0 (pv 0))) (pg_name (i := 3) sc_table_told.nd rfl (.inl rfl))
      (pss_cons (ps_set (i := 4) sc_table_told.nd rfl (.inl rfl) (pe_callTy call_list_of (by rfl) B.list (by decide +kernel) (pa_cons (pe_dget2 hu (pv 1) (pe_fld (pv 3) rfl) (pe_tup pa_nil) ⟨rfl, rfl, rfl, rfl⟩) pa_nil)))
      (pss_one (ps_if (pt_cmpR (op_neD hu2) (pv 4) (pe_lst pa_nil) (nomark _)) (pss_one (ps_dput hu (pv 2) (pe_fld (pv 3) rfl) (pv 4) rfl)) pss_nil))))
      (pss_one (ps_ret (pv 2)))))), ?_⟩
    obtain ⟨xc, xb, xs, hF, oc, ob, os⟩ := id hW
    have lb1 : xb.length ≤ 4 := by rw [ob.1, List.length_map]; exact g.brks
    have ls1 : xs.length ≤ 6 := by rw [os.1, List.length_map]; exact g.shps
    obtain ⟨dx, lp, lc, lb, ls, hp, _⟩ := id hF
    refine ⟨_, rfl, _, rfl, p, a, W, T, rfl, hW, g, hT, tg, fun H1 s1 => ?_⟩
    refine ⟨true, rfl, iteF ?_⟩
    intro d hd
    generalize hXq : upd _ d _ = H2
    have s2 := laid_same hXq hd
    have e2 := laid_at hXq
    clear hXq
    have sm := s1.trans s2
    refine ⟨_, rfl, p, dx, _, rfl, sm _ _ hp, look_no (by decide +kernel), p, W, xc, xb, xs, rfl, hF.same sm, by omega, fun l H3 hl s3 e3 => ?_⟩
    have sm := sm.trans s3
    obtain ⟨vs, ha, hv⟩ := hT.same sm
    have hOb := ob.same sm
    have hOs := os.same sm
    refine ⟨l, rfl, for_seq (.l e3) (fun i σ H' => ∃ y z, σ = [some (.ref p), some (.ref a), some (.ref d), y, z] ∧ Bar d H3 H' ∧ ∃ us, H' d = some (.dK (kvsOf (((W.vnames.take i).map fun n => (n, entsOf T n)).filter fun e => !e.2.isEmpty) us)) ∧ ValsL H' us (((W.vnames.take i).map fun n => (n, entsOf T n)).filter fun e => !e.2.isEmpty))
      ⟨_, _, rfl, Bar.refl, [], s3 _ _ e2, rfl, fun i v e h1 _ => by simp at h1⟩ ?_ ?_ ?_⟩
    · rintro i σ H' ⟨_, _, rfl, b, _⟩
      exact kp_bar b (s3 _ _ e2)
    · rintro i x σ H' hx ⟨_, _, rfl, b, us, hd', hus⟩
      have e2' := s3 _ _ e2
      obtain ⟨n, o, C, dy, fs, hn, rfl, ho, c1, c2, c3⟩ := ves_at TB TS hOb hOs hx
      have hi : i < W.vnames.length := (List.getElem?_eq_some_iff.mp hn).1
      have od : o ≠ d := fun z => by rw [z, e2'] at ho; cases ho
      have ad : a ≠ d := fun z => by
        obtain ⟨_, q0, _⟩ := hT
        rw [z] at q0
        rw [s1 _ _ q0] at hd
        cases hd
      have ho' := b _ _ od ho
      have ha' := b _ _ ad ha
      have hv' := hv.bar b e2'
      have tk : W.vnames.take (i + 1) = W.vnames.take i ++ [n] := by rw [List.take_succ, hn]; rfl
      have nn : ∀ e ∈ (((W.vnames.take i).map fun n => (n, entsOf T n)).filter fun e => !e.2.isEmpty), e.1 ≠ n := by
        intro e he z
        obtain ⟨n', hn', rfl⟩ := List.mem_map.mp (List.mem_filter.mp he).1
        have nd := g.vnd
        have hnd : W.vnames.Nodup := nd
        obtain ⟨j, hj⟩ := List.getElem?_of_mem hn'
        rw [List.getElem?_take] at hj
        split at hj
        · have hjl : j < W.vnames.length := (List.getElem?_eq_some_iff.mp hj).1
          have z' : n' = n := z
          subst z'
          have := (List.getElem?_inj hjl hnd).mp (hj.trans hn.symm)
          omega
        · cases hj
      refine ⟨_, rfl, a, rfl, .inl ⟨_, .inl ha'⟩, ?_⟩
      refine ⟨_, rfl, o, C, dy, fs, _, rfl, ho', c1, c2, c3, ?_⟩
      refine ⟨Nat.le_of_ble_eq_true rfl, fun e0 he0 => ?_⟩
      generalize hXq : upd _ e0 _ = H4
      have s4 := laid_same hXq he0
      have e4 := laid_at hXq
      clear hXq
      have ha4 := s4 _ _ ha'
      refine ⟨_, DGet.k (k := .inr (S n)) ha4, ?_⟩
      have key : ∃ b' ys, (valV (kvsOf T vs) (.inr (S n))).getD (.ref e0) = .ref b' ∧ SqA K H4 b' ys ∧ RowsIs H4 ys ((entsOf T n).map entV) := by
        rcases ents_val (hv'.same s4) (n := n) with ⟨h1, h2⟩ | ⟨b', ys, h1, h2, h3⟩
        · rw [h1, h2]
          exact ⟨e0, [], rfl, .t e4, rfl, fun i y r h _ => by simp at h⟩
        · rw [h1]
          exact ⟨b', ys, rfl, h2, h3⟩
      obtain ⟨b', ys, h1, h2, h3⟩ := key
      rw [h1]
      refine ⟨b', ys, rfl, h2, fun l2 hl2 => ?_⟩
      generalize hXq : upd _ l2 _ = H5
      have s5 := laid_same hXq hl2
      have e5 := laid_at hXq
      clear hXq
      refine ⟨_, rfl, ?_⟩
      refine ⟨Nat.le_of_ble_eq_true rfl, fun l3 hl3 => ?_⟩
      generalize hXq : upd _ l3 _ = H6
      have s6 := laid_same hXq hl3
      have e6 := laid_at hXq
      clear hXq
      have h3 := h3.same (s5.trans s6)
      have e5 := s6 _ _ e5
      have fine : ∀ e ∈ entsOf T n, PyData.strOk (S e.2) = true := by
        intro e he
        rcases entsOf_mem (T := T) (n := n) with z | ⟨x, hx, _, z⟩
        · rw [z] at he; cases he
        · rw [z] at he
          obtain ⟨c, hc, hc2⟩ := List.mem_map.mp ((tg.rise x hx).mem e he)
          rw [← hc2]
          exact name_ok (g.good c hc).name
      refine ⟨entsD (entsOf T n), .list [], .lst (.inl (.inl e5)) (dp_ents h3), .lst (.inl (.inl e6)) .nil, ents_shaped fine, by decide, ?_⟩
      rw [ents_eqv]
      refine ⟨_, rfl, ?_⟩
      have s46 := s4.trans (s5.trans s6)
      have hd6 := s46 _ _ hd'
      have b6 := b.trans (Bar.same (p := d) s46)
      by_cases hz : (entsOf T n).isEmpty = true
      · rw [hz]
        refine iteF ?_
        refine ⟨_, _, rfl, b6, us, ?_, ?_⟩
        · rw [tk, List.map_append, List.filter_append]
          simp only [List.map_cons, List.map_nil, List.filter_cons, hz, Bool.not_true, Bool.false_eq_true, if_false, List.filter_nil, List.append_nil]
          exact hd6
        · rw [tk, List.map_append, List.filter_append]
          simp only [List.map_cons, List.map_nil, List.filter_cons, hz, Bool.not_true, Bool.false_eq_true, if_false, List.filter_nil, List.append_nil]
          exact hus.same s46
      · have hz' : (entsOf T n).isEmpty = false := by simpa using hz
        rw [hz']
        refine iteT ?_
        have hlen : (kvsOf (((W.vnames.take i).map fun n => (n, entsOf T n)).filter fun e => !e.2.isEmpty) us).length ≤ 100 := by
          unfold kvsOf
          have h1 := List.length_filter_le (fun e : List Nat × List Ent => !e.2.isEmpty) ((W.vnames.take i).map fun n => (n, entsOf T n))
          rw [List.length_map, List.length_take] at h1
          have h2 : W.vnames.length ≤ 10 := by
            unfold Wld.vnames
            rw [List.length_append, List.length_map, List.length_map]
            have := g.brks
            have := g.shps
            omega
          rw [List.length_zip, List.length_map]
          omega
        refine ⟨_, rfl, _, rfl, _, rfl, o, C, dy, fs, _, rfl, s46 _ _ ho', c1, c2, c3, d, _, rfl, DPut.k (k := .inr (S n)) hd6 (Nat.lt_of_le_of_lt hlen (by decide)), ?_⟩
        refine ⟨_, _, rfl, b6.trans Bar.at_, us ++ [.ref l2], ?_, ?_⟩
        · rw [upd_same, putK_new _ (val_none nn), tk, List.map_append, List.filter_append]
          simp only [List.map_cons, List.map_nil, List.filter_cons, hz', Bool.not_false, if_true, List.filter_nil]
          rw [kvsOf_snoc hus.1]
        · rw [tk, List.map_append, List.filter_append]
          simp only [List.map_cons, List.map_nil, List.filter_cons, hz', Bool.not_false, if_true, List.filter_nil]
          exact ((hus.same s46).snoc e5 h3).bar Bar.at_ hd6
    · rintro σ H' ⟨_, _, rfl, b, us, hd', hus⟩
      have hlen : (xb ++ xs).length = W.vnames.length := by
        rw [List.length_append, ob.1, os.1, Wld.vnames, List.length_append]
        simp
      rw [hlen, List.take_length] at hd' hus
      refine ⟨_, rfl, q d H' (none_back s1 hd) (fun c o e => ?_) ⟨us, hd', hus⟩⟩
      exact b c o (fun z => by rw [z] at e; rw [s1 _ _ e] at hd; cases hd) (sm _ _ e)
end
end Law
end
section
set_option Elab.async false
set_option linter.all false
set_option maxRecDepth 100000
set_option maxHeartbeats 4000000
namespace Law
open PySem PySem.Spec PyProof.Rows L2 IK SX
/-! ### worlds and tables whose hours are later -/
theorem pass00 {X : Cx} : Passes (L2.CX X.prog X.w) X E0 := fun _ _ _ _ _ _ _ ⟨_, _, _, _, _, _, _, _, _, _, _, _, h⟩ => h.elim
/-- C's refusal of x -/
def raised (CN : Addr) (x : V) (H : Hp) (E : XK) : Prop := ∀ d H', Same H H' → H d = none → H' d = some (.xd [("found", x)]) → E (.ref CN) (some d) H'
theorem raised.mono {CN : Addr} {x : V} {H H' : Hp} {E : XK} (h : raised CN x H E) (s : Same H H') : raised CN x H' E := fun d H2 s2 hd e => h d H2 (s.trans s2) (none_back s hd) e
theorem cells_of {α : Type} {H0 : Hp} {l : List α} {row : α → List V} {f : α → V} {j : Nat} {xs ys : List V} (hf : ∀ a, (row a)[j]? = some (f a)) (hR : RowsIs H0 xs (l.map row))
    (hE : Each (fun x y => ∃ p r, x = .ref p ∧ H0 p = some (.tup r) ∧ r[j]? = some y) xs ys) : ys = l.map f := by
  have hlen : ys.length = l.length := by rw [hE.1, hR.1, List.length_map]
  refine List.ext_getElem? fun i => ?_
  rw [List.getElem?_map]
  cases e : l[i]? with
  | none =>
    have e2 : l.length ≤ i := List.getElem?_eq_none_iff.mp e
    rw [List.getElem?_eq_none_iff.mpr (by omega)]
    rfl
  | some a =>
    have hi : i < l.length := (List.getElem?_eq_some_iff.mp e).1
    have hx : i < xs.length := by rw [← hE.1]; omega
    have hy : i < ys.length := by omega
    obtain ⟨p, e1, o1⟩ := hR.2 i xs[i] (row a) (by simp [hx]) (by rw [List.getElem?_map, e]; rfl)
    obtain ⟨p', r, e2, o2, e3⟩ := hE.2 i xs[i] ys[i] (by simp [hx]) (by simp [hy])
    rw [e1] at e2
    injection e2 with e2
    subst e2
    rw [o1] at o2
    have e4 := Option.some.inj o2
    injection e4 with e4
    subst e4
    rw [hf a] at e3
    rw [List.getElem?_eq_getElem hy, ← Option.some.inj e3]
    rfl
theorem rows_map {α : Type} {H0 H : Hp} {l : List α} {row row' : α → List V} {xs ys : List V} (hv : ∀ a b, row a = row b → row' a = row' b) (hR : RowsIs H0 xs (l.map row))
    (hE : Each (fun x y => ∃ p b, x = .ref p ∧ H0 p = some (.tup (row b)) ∧ ∃ a, y = .ref a ∧ H a = some (.tup (row' b))) xs ys) : RowsIs H ys (l.map row') := by
  refine ⟨by rw [hE.1, hR.1, List.length_map, List.length_map], fun i y r hy hr => ?_⟩
  rw [List.getElem?_map] at hr
  cases e : l[i]? with
  | none => rw [e] at hr; cases hr
  | some a =>
    rw [e] at hr
    obtain rfl := Option.some.inj hr
    have hx : i < xs.length := by rw [← hE.1]; exact (List.getElem?_eq_some_iff.mp hy).1
    obtain ⟨p, e1, o1⟩ := hR.2 i xs[i] (row a) (by simp [hx]) (by rw [List.getElem?_map, e]; rfl)
    obtain ⟨p', b, e2, o2, q, e3, h3⟩ := hE.2 i xs[i] y (by simp [hx]) hy
    rw [e1] at e2
    injection e2 with e2
    subst e2
    rw [o1] at o2
    have e4 := Option.some.inj o2
    injection e4 with e4
    exact ⟨q, e3, by rw [hv _ _ e4]; exact h3⟩
def Brk.later (n : Int) (b : Brk) : Brk := { b with hour := b.hour + n }
def Shp.later (n : Int) (b : Shp) : Shp := { b with hour := b.hour + n }
def Wld.later (n : Int) (W : Wld) : Wld := { W with begin := W.begin + n, brks := W.brks.map (Brk.later n), shps := W.shps.map (Shp.later n) }
def Wld.hours (W : Wld) : List Int := W.begin :: (W.brks.map (fun b => b.hour) ++ W.shps.map (fun b => b.hour))
/-- so many hours later it is a world -/
def Fits (W : Wld) (n : Int) : Prop := 0 ≤ n ∧ ∀ h ∈ W.hours, h + n ≤ 1000000
theorem Wld.Good.later {W : Wld} (g : W.Good) {n : Int} (h : Fits W n) : (W.later n).Good := by
  obtain ⟨h0, h⟩ := h
  refine ⟨⟨?_, ?_⟩, g.ports, g.names, g.nd, g.chans, g.good, g.cnd, g.ends, ?_, ?_, ?_, ?_, ?_, ?_, ?_⟩
  · show 0 ≤ W.begin + n
    have := g.begin
    omega
  · exact h _ List.mem_cons_self
  · show (W.brks.map (Brk.later n)).length ≤ 4
    rw [List.length_map]
    exact g.brks
  · rintro b hb
    obtain ⟨c, hc, rfl⟩ := List.mem_map.mp hb
    have k := g.bgood c hc
    have k2 := h c.hour (List.mem_cons_of_mem _ (List.mem_append_left _ (List.mem_map_of_mem hc)))
    exact ⟨⟨k.ves.name, k.ves.port, ⟨by have := k.ves.hour; show 0 ≤ c.hour + n; omega, k2⟩, k.ves.strength, k.ves.draught⟩, k.cut⟩
  · rintro b hb
    obtain ⟨c, hc, rfl⟩ := List.mem_map.mp hb
    exact g.bports c hc
  · show (W.shps.map (Shp.later n)).length ≤ 6
    rw [List.length_map]
    exact g.shps
  · rintro b hb
    obtain ⟨c, hc, rfl⟩ := List.mem_map.mp hb
    have k := g.sgood c hc
    have k2 := h c.hour (List.mem_cons_of_mem _ (List.mem_append_right _ (List.mem_map_of_mem hc)))
    exact ⟨⟨k.ves.name, k.ves.port, ⟨by have := k.ves.hour; show 0 ≤ c.hour + n; omega, k2⟩, k.ves.strength, k.ves.draught⟩, k.goal⟩
  · rintro b hb
    obtain ⟨c, hc, rfl⟩ := List.mem_map.mp hb
    exact g.sports c hc
  · have : (W.later n).brks.map (fun b => b.name) ++ (W.later n).shps.map (fun b => b.name) = W.brks.map (fun b => b.name) ++ W.shps.map (fun b => b.name) := by
      show (W.brks.map (Brk.later n)).map _ ++ (W.shps.map (Shp.later n)).map _ = _
      rw [List.map_map, List.map_map]
      rfl
    rw [this]
    exact g.vnd
theorem fits_max {W : Wld} {n m : Int} (h1 : m ∈ W.hours) (h2 : ∀ h ∈ W.hours, h ≤ m) : Fits W n ↔ 0 ≤ n ∧ n ≤ 1000000 - m := by
  unfold Fits
  constructor
  · rintro ⟨a, b⟩
    exact ⟨a, by have := b m h1; omega⟩
  · rintro ⟨a, b⟩
    exact ⟨a, fun h hh => by have := h2 h hh; omega⟩
theorem brk_later (n : Int) (a b : Brk) (h : a.vals = b.vals) : (a.later n).vals = (b.later n).vals := by
  simp only [Brk.vals, Ves.vals, List.cons_append, List.nil_append, List.cons.injEq, V.int.injEq] at h
  obtain ⟨h1, h2, h3, h4, h5, h6, _⟩ := h
  simp only [Brk.vals, Ves.vals, Brk.later, h1, h2, h3, h4, h5, h6]
theorem shp_later (n : Int) (a b : Shp) (h : a.row = b.row) : (a.later n).row = (b.later n).row := by
  simp only [Shp.row, List.cons.injEq, V.int.injEq] at h
  obtain ⟨h1, h2, h3, h4, h5, h6, _⟩ := h
  simp only [Shp.row, Shp.later, h1, h2, h3, h4, h5, h6]
def spLaterW (K : PySem.W.Frag) (k : KA) (CN : Addr) : Sp := fun vs H Q E => ∃ (p : Addr) (W : Wld) (n : Int), vs = [.ref p, .int n] ∧ WldAt k H p W ∧ W.Good ∧ (¬ Fits W n → raised CN (.int n) H E) ∧
  (Fits W n → ∀ x H', H x = none → Same H H' → WldAt k H' x (W.later n) → Q (.ref x) H')
section
variable {P : Program} {w : World} {K : PySem.W.Frag} {mg : Str → Option Value} {base : Heap}
theorem ok_noNumber {f CI CN : Addr} {fd : FuncData} (F : Fun K "__init__" "NoNumber.__init__" s_NoNumber___init__ f fd) (TI : BInit K mg "IceError" CI) (ox : OexC K CN) (nf : PySem.W.findIn K (.ref CN) "found" = some none) :
    FnOk P w K mg base CX0 1 f fd ["self", "found"] (spErr CN "found") := by
  refine F.ok sc_NoNumber___init__ (fun vs H Q E h => ?_) (fun cdv A outer s H vs Q E hr h => ?_)
  · obtain ⟨a, v, rfl, _⟩ := h
    rfl
  · obtain ⟨a, v, rfl, ha, k⟩ := h
    refine ⟨_, (pss_cons (ps_expr (pe_binit (pl := _) TI (by rfl) (pa_cons (pv 0) (pa_cons pe_str pa_nil)))) (pss_one (ps_ost (pv 0) (pv 1)))), ?_⟩
    refine ⟨_, rfl, a, CN, _, rfl, Nat.le_of_ble_eq_true rfl, ox, ha, ?_⟩
    exact ⟨_, rfl, _, rfl, a, CN, rfl, ox, nf, .inl ⟨ha, k⟩⟩
theorem ok_laterW {k : KA} {CN : Addr} {f : Addr} {fd : FuncData} (F : Fun K "later_world" "later_world" s_later_world f fd) (B : Blt mg) (gH : GI mg "MOST_HOUR" 1000000) (TW : Cl K k.W wldK) (TN : Err P w K mg base "NoNumber" CN "found") (MT : Me P w K mg base CX0 3 k.W "told" ["self"] (spTold k))
    (DW : Dn P w K mg base CX0 2 "is_within" ["thing", "low", "high"] (spWithin K)) (DA : Dn P w K mg base CX0 8 "world_anew" ["told"] (spWldAnew K k)) : FnOk P w K mg base (L2.CX P w) 9 f fd ["world", "many"] (spLaterW K k CN) := by
  refine F.okX sc_later_world (fun vs H Q E h => ?_) (fun cdv A outer s H vs Q E hr h => ?_)
  · obtain ⟨p, W, n, rfl, _⟩ := h
    rfl
  · obtain ⟨p, W, n, rfl, hW, g, hno, hyes⟩ := h
    have hr2 : Room 2 _ := hr.mono (by decide)
    refine ⟨_, (pss_cons (ps_asg (pe_me0 MT TW.cls (hr.mono (by decide)) pass0 (pv 0)) (pg_tup rfl (pgs_cons (pg_name (i := 2) sc_later_world.nd rfl (.inl rfl)) (pgs_cons (pg_name (i := 3) sc_later_world.nd rfl (.inl rfl)) (pgs_cons (pg_name (i := 4) sc_later_world.nd rfl (.inl rfl)) (pgs_cons (pg_name (i := 5) sc_later_world.nd rfl (.inl rfl)) (pgs_cons (pg_name (i := 6) sc_later_world.nd rfl (.inl rfl)) pgs_nil)))))))
      (pss_cons (ps_set (i := 7) sc_later_world.nd rfl (.inl rfl) (pe_op op_cat (pe_op op_cat (pe_lst (pa_cons (pv 2) pa_nil)) (pe_lc (own := [("row", 8)]) (g := gName 8) (tt := tYes) rfl sc_later_world.nd (pi_seq (pv 5)) (blkOk_by (N := ["world", "many", "begin", "ports", "channels", "breakers", "ships", "hours", "row"]) (sc := defScope s_later_world) (by decide +kernel)) (fun _ _ _ _ _ => pg_name (i := 8) sc_later_world.nd rfl (Or.inl rfl)) (fun _ _ _ _ _ => pts_nil) (fun _ _ _ _ _ => (pe_ix (show IxR _ (rIxT K) from ix_tup) (pv 8) pe_int (fun _ _ => rfl))))) (pe_lc (own := [("row", 8)]) (g := gName 8) (tt := tYes) rfl sc_later_world.nd (pi_seq (pv 6)) (blkOk_by (N := ["world", "many", "begin", "ports", "channels", "breakers", "ships", "hours", "row"]) (sc := defScope s_later_world) (by decide +kernel)) (fun _ _ _ _ _ => pg_name (i := 8) sc_later_world.nd rfl (Or.inl rfl)) (fun _ _ _ _ _ => pts_nil) (fun _ _ _ _ _ => (pe_ix (show IxR _ (rIxT K) from ix_tup) (pv 8) pe_int (fun _ _ => rfl))))))
      (pss_cons (ps_if (pt_not (pt_val (pe_d DW (hr.mono (by decide)) (by rfl) pass0 (pa_cons (pv 1) (pa_cons pe_int (pa_cons (pe_op op_sub (C8.pe_gc (by rfl) gH) (pe_callB (cr_max rfl) (by rfl) B.max (by decide +kernel) (pa_cons (pv 7) pa_nil))) pa_nil)))))) (pss_one (ps_raise rfl (takes_of rfl rfl rfl rfl) (pmk_err TN hr2 (by rfl) (pv 1)))) pss_nil)
      (pss_one (ps_ret (pe_d DA (hr.mono (by decide)) (by rfl) pass0 (pa_cons (pe_tup (pa_cons (pe_op op_add (pv 2) (pv 1)) (pa_cons (pv 3) (pa_cons (pv 4) (pa_cons (pe_lc (own := [("row", 8)]) (g := gName 8) (tt := tYes) rfl sc_later_world.nd (pi_seq (pv 5)) (blkOk_by (N := ["world", "many", "begin", "ports", "channels", "breakers", "ships", "hours", "row"]) (sc := defScope s_later_world) (by decide +kernel)) (fun _ _ _ _ _ => pg_name (i := 8) sc_later_world.nd rfl (Or.inl rfl)) (fun _ _ _ _ _ => pts_nil) (fun _ _ _ _ _ => (pe_op (show OpR _ (binaryOp .Add) (rCatT K) from op_catT) (pe_op (show OpR _ (binaryOp .Add) (rCatT K) from op_catT) (pe_slice (show SlR _ (rSlT K) from sl_tup) (pv 8) po_none (po_some pe_int)) (pe_tup (pa_cons (pe_op op_add (pe_ix (show IxR _ (rIxT K) from ix_tup) (pv 8) pe_int (fun _ _ => rfl)) (pv 1)) pa_nil))) (pe_slice (show SlR _ (rSlT K) from sl_tup) (pv 8) (po_some pe_int) po_none)))) (pa_cons (pe_lc (own := [("row", 8)]) (g := gName 8) (tt := tYes) rfl sc_later_world.nd (pi_seq (pv 6)) (blkOk_by (N := ["world", "many", "begin", "ports", "channels", "breakers", "ships", "hours", "row"]) (sc := defScope s_later_world) (by decide +kernel)) (fun _ _ _ _ _ => pg_name (i := 8) sc_later_world.nd rfl (Or.inl rfl)) (fun _ _ _ _ _ => pts_nil) (fun _ _ _ _ _ => (pe_op (show OpR _ (binaryOp .Add) (rCatT K) from op_catT) (pe_op (show OpR _ (binaryOp .Add) (rCatT K) from op_catT) (pe_slice (show SlR _ (rSlT K) from sl_tup) (pv 8) po_none (po_some pe_int)) (pe_tup (pa_cons (pe_op op_add (pe_ix (show IxR _ (rIxT K) from ix_tup) (pv 8) pe_int (fun _ _ => rfl)) (pv 1)) pa_nil))) (pe_slice (show SlR _ (rSlT K) from sl_tup) (pv 8) (po_some pe_int) po_none)))) pa_nil)))))) pa_nil))))))), ?_⟩
    obtain ⟨xc, xb, xs, ⟨dx, lp, lc, lb, ls, hp, _⟩, _⟩ := id hW
    refine ⟨_, rfl, p, dx, _, rfl, hp, look_no (by decide +kernel), p, W, rfl, hW, g, fun a H1 ha s1 hT => ?_⟩
    obtain ⟨ap, ac, ab, as, yc, yb, ys, t1, t2, t3, t4, t5, t6, t7, t8⟩ := id hT
    have lb1 : yb.length ≤ 4 := by rw [t6.1, List.length_map]; exact g.brks
    have ls1 : ys.length ≤ 6 := by rw [t8.1, List.length_map]; exact g.shps
    refine ⟨a, _, rfl, .inl (.inl t1), rfl, _, _, rfl, _, _, rfl, _, _, rfl, _, _, rfl, _, _, rfl, rfl, ?_⟩
    refine ⟨_, rfl, ?_⟩
    refine ⟨Nat.le_of_ble_eq_true rfl, fun l1 hl1 => ?_⟩
    generalize hXq : upd _ l1 _ = H2
    have s2 := laid_same hXq hl1
    have e2 := laid_at hXq
    clear hXq
    refine ⟨_, rfl, ab, rfl, lc_map (fun x y _ => ∃ p r, x = .ref p ∧ H1 p = some (.tup r) ∧ r[2]? = some y) (.t (s2 _ _ t5)) (Nat.lt_of_le_of_lt lb1 (by decide)) (fun _ _ _ _ _ e => e) (fun _ _ _ _ _ _ e => e) ?_ ?_⟩
    · intro x H3 kk hx s3 kq
      obtain ⟨o, b, rfl, _, e⟩ := t6.mem hx
      refine ⟨rfl, _, rfl, o, _, 2, _, rfl, rfl, .inl (.inl (s3 _ _ (s2 _ _ e))), rfl, ?_⟩
      exact kq _ _ (Same.refl _) ⟨o, _, rfl, e, rfl⟩
    intro D ds H3 hD s3 hy e
    obtain rfl := cells_of (j := 2) (f := fun b : Brk => V.int b.hour) (fun _ => rfl) t6 e
    refine ⟨l1, D, _, _, rfl, rfl, s3 _ _ e2, hy, Nat.le_trans (by simp; have := g.brks; omega : _ ≤ 100) (by decide), fun l2 hl2 => ?_⟩
    generalize hXq : upd _ l2 _ = H4
    have s4 := laid_same hXq hl2
    have e4 := laid_at hXq
    clear hXq
    have sm := s2.trans (s3.trans s4)
    clear e hy e2
    refine ⟨_, rfl, as, rfl, lc_map (fun x y _ => ∃ p r, x = .ref p ∧ H1 p = some (.tup r) ∧ r[3]? = some y) (.t (sm _ _ t7)) (Nat.lt_of_le_of_lt ls1 (by decide)) (fun _ _ _ _ _ e => e) (fun _ _ _ _ _ _ e => e) ?_ ?_⟩
    · intro x H3 kk hx s3 kq
      obtain ⟨o, b, rfl, _, e⟩ := t8.mem hx
      refine ⟨rfl, _, rfl, o, _, 3, _, rfl, rfl, .inl (.inl (s3 _ _ (sm _ _ e))), rfl, ?_⟩
      exact kq _ _ (Same.refl _) ⟨o, _, rfl, e, rfl⟩
    intro D2 ds H5 hD2 s5 hy e
    obtain rfl := cells_of (j := 3) (f := fun b : Shp => V.int b.hour) (fun _ => rfl) t8 e
    refine ⟨l2, D2, _, _, rfl, rfl, s5 _ _ e4, hy, Nat.le_trans (by simp; have := g.brks; have := g.shps; omega : _ ≤ 100) (by decide), fun l3 hl3 => ?_⟩
    generalize hXq : upd _ l3 _ = H6
    have s6 := laid_same hXq hl3
    have e6 := laid_at hXq
    clear hXq
    have sm := sm.trans (s5.trans s6)
    clear e hy e4
    have eh : H6 l3 = some (.lst (W.hours.map V.int)) := by
      rw [e6, Wld.hours, List.map_cons, List.map_append, List.map_map, List.map_map]
      rfl
    refine ⟨_, rfl, _, rfl, l3, W.hours, rfl, .inl (.inl eh), by simp [Wld.hours], fun m hm1 hm2 => ?_⟩
    refine ⟨_, _, rfl, rfl, _, _, _, rfl, .inl ⟨_, rfl, ?_⟩⟩
    by_cases hf : Fits W n
    · obtain ⟨f1, f2⟩ := (fits_max hm1 hm2).mp hf
      rw [decide_eq_true f1, decide_eq_true f2]
      refine ⟨true, rfl, iteF ?_⟩
      refine ⟨_, rfl, _, rfl, _, _, rfl, rfl, _, rfl, _, rfl, ?_⟩
      refine ⟨_, rfl, ab, rfl, lc_map (fun x y H' => ∃ p b, x = .ref p ∧ H1 p = some (.tup (Brk.vals b)) ∧ ∃ a, y = .ref a ∧ H' a = some (.tup (Brk.vals (Brk.later n b)))) (.t (sm _ _ t5)) (Nat.lt_of_le_of_lt lb1 (by decide)) (fun x y H H' s ⟨p, b, e, o, a, e2, h⟩ => ⟨p, b, e, o, a, e2, s _ _ h⟩)
        (fun x y H D l hD ⟨p, b, e, o, a, e2, h⟩ => ⟨p, b, e, o, a, e2, hide_of hD (fun _ z => by cases z) h⟩) ?_ ?_⟩
      · intro x J0 kk hx s0 kq
        obtain ⟨o, b, rfl, _, e⟩ := t6.mem hx
        have e0 := s0 _ _ (sm _ _ e)
        refine ⟨rfl, _, rfl, _, rfl, o, _, rfl, .inl (.inl e0), (by show ¬ (HT.sIx 6 0 none = 0 ∧ HT.sIx 6 6 (some 2) = 6); decide +kernel), fun q1 hq1 => ?_⟩
        generalize hXq : upd _ q1 _ = J1
        have s1' := laid_same hXq hq1
        have e1' := laid_at hXq
        clear hXq
        refine ⟨_, rfl, o, _, 2, _, rfl, rfl, .inl (.inl (s1' _ _ e0)), rfl, _, rfl, _, _, rfl, rfl, ?_⟩
        refine ⟨Nat.le_of_ble_eq_true rfl, fun t ht => ?_⟩
        generalize hXq : upd _ t _ = J2
        have s2' := laid_same hXq ht
        have e2' := laid_at hXq
        clear hXq
        refine ⟨q1, t, _, _, rfl, rfl, .inl (.inl (s2' _ _ e1')), .inl (.inl e2'), (by intro z; cases z), Nat.le_of_ble_eq_true rfl, (fun z => by cases z), fun _ q2 hq2 => ?_⟩
        generalize hXq : upd _ q2 _ = J3
        have s3' := laid_same hXq hq2
        have e3' := laid_at hXq
        clear hXq
        refine ⟨_, rfl, _, rfl, o, _, rfl, .inl (.inl (s3' _ _ (s2' _ _ (s1' _ _ e0)))), (by show ¬ (HT.sIx 6 0 (some 3) = 0 ∧ HT.sIx 6 6 none = 6); decide +kernel), fun q3 hq3 => ?_⟩
        generalize hXq : upd _ q3 _ = J4
        have s4' := laid_same hXq hq3
        have e4' := laid_at hXq
        clear hXq
        refine ⟨q2, q3, _, _, rfl, rfl, .inl (.inl (s4' _ _ e3')), .inl (.inl e4'), (by intro z; cases z), Nat.le_of_ble_eq_true rfl, (fun z => by cases z), fun _ q5 hq5 => ?_⟩
        generalize hXq : upd _ q5 _ = J5
        have s5' := laid_same hXq hq5
        have e5' := laid_at hXq
        clear hXq
        exact kq _ _ (s1'.trans (s2'.trans (s3'.trans (s4'.trans s5')))) ⟨o, b, rfl, e, q5, rfl, e5'⟩
      intro D3 zb J6 hD s7 hyD3 e
      have rD3 := rows_map (brk_later n) t6 e
      clear e
      have sm := sm.trans s7
      refine ⟨_, rfl, as, rfl, lc_map (fun x y H' => ∃ p b, x = .ref p ∧ H1 p = some (.tup (Shp.row b)) ∧ ∃ a, y = .ref a ∧ H' a = some (.tup (Shp.row (Shp.later n b)))) (.t (sm _ _ t7)) (Nat.lt_of_le_of_lt ls1 (by decide)) (fun x y H H' s ⟨p, b, e, o, a, e2, h⟩ => ⟨p, b, e, o, a, e2, s _ _ h⟩)
        (fun x y H D l hD ⟨p, b, e, o, a, e2, h⟩ => ⟨p, b, e, o, a, e2, hide_of hD (fun _ z => by cases z) h⟩) ?_ ?_⟩
      · intro x J0 kk hx s0 kq
        obtain ⟨o, b, rfl, _, e⟩ := t8.mem hx
        have e0 := s0 _ _ (sm _ _ e)
        refine ⟨rfl, _, rfl, _, rfl, o, _, rfl, .inl (.inl e0), (by show ¬ (HT.sIx 6 0 none = 0 ∧ HT.sIx 6 6 (some 3) = 6); decide +kernel), fun q1 hq1 => ?_⟩
        generalize hXq : upd _ q1 _ = J1
        have s1' := laid_same hXq hq1
        have e1' := laid_at hXq
        clear hXq
        refine ⟨_, rfl, o, _, 3, _, rfl, rfl, .inl (.inl (s1' _ _ e0)), rfl, _, rfl, _, _, rfl, rfl, ?_⟩
        refine ⟨Nat.le_of_ble_eq_true rfl, fun t ht => ?_⟩
        generalize hXq : upd _ t _ = J2
        have s2' := laid_same hXq ht
        have e2' := laid_at hXq
        clear hXq
        refine ⟨q1, t, _, _, rfl, rfl, .inl (.inl (s2' _ _ e1')), .inl (.inl e2'), (by intro z; cases z), Nat.le_of_ble_eq_true rfl, (fun z => by cases z), fun _ q2 hq2 => ?_⟩
        generalize hXq : upd _ q2 _ = J3
        have s3' := laid_same hXq hq2
        have e3' := laid_at hXq
        clear hXq
        refine ⟨_, rfl, _, rfl, o, _, rfl, .inl (.inl (s3' _ _ (s2' _ _ (s1' _ _ e0)))), (by show ¬ (HT.sIx 6 0 (some 4) = 0 ∧ HT.sIx 6 6 none = 6); decide +kernel), fun q3 hq3 => ?_⟩
        generalize hXq : upd _ q3 _ = J4
        have s4' := laid_same hXq hq3
        have e4' := laid_at hXq
        clear hXq
        refine ⟨q2, q3, _, _, rfl, rfl, .inl (.inl (s4' _ _ e3')), .inl (.inl e4'), (by intro z; cases z), Nat.le_of_ble_eq_true rfl, (fun z => by cases z), fun _ q5 hq5 => ?_⟩
        generalize hXq : upd _ q5 _ = J5
        have s5' := laid_same hXq hq5
        have e5' := laid_at hXq
        clear hXq
        exact kq _ _ (s1'.trans (s2'.trans (s3'.trans (s4'.trans s5')))) ⟨o, b, rfl, e, q5, rfl, e5'⟩
      intro D4 zs J6 hD s7 hyD4 e
      have rD4 := rows_map (shp_later n) t8 e
      clear e
      refine ⟨Nat.le_of_ble_eq_true rfl, fun t9 ht9 => ?_⟩
      generalize hXq : upd _ t9 _ = J9
      have s9 := laid_same hXq ht9
      have e9 := laid_at hXq
      clear hXq
      have rD3 := rD3.same (s7.trans s9)
      have sm := sm.trans (s7.trans s9)
      have fb : RowsIs J9 zb ((W.later n).brks.map Brk.vals) := by
        show RowsIs J9 zb ((W.brks.map (Brk.later n)).map Brk.vals)
        rw [List.map_map]
        exact rD3
      have fs : RowsIs J9 zs ((W.later n).shps.map Shp.row) := by
        show RowsIs J9 zs ((W.shps.map (Shp.later n)).map Shp.row)
        rw [List.map_map]
        exact rD4.same s9
      refine ⟨t9, W.later n, ap, ac, D3, D4, yc, zb, zs, rfl, g.later hf, e9, .t (sm _ _ t2), .t (sm _ _ t3), t4.same sm, .l (s9 _ _ (s7 _ _ hyD3)), fb, .l (s9 _ _ hyD4), fs, fun x H7 hx s10 hW7 => ?_⟩
      exact hyes hf x H7 (none_back (s1.trans sm) hx) (s1.trans (sm.trans s10)) hW7
    · have z : (decide (0 ≤ n) && decide (n ≤ 1000000 - m)) = false := by
        rw [Bool.eq_false_iff]
        intro y
        simp only [Bool.and_eq_true, decide_eq_true_eq] at y
        exact hf ((fits_max hm1 hm2).mpr y)
      rw [z]
      refine ⟨false, rfl, iteT ?_⟩
      exact ⟨_, rfl, fun d hd => hno hf d _ ((s1.trans sm).trans (same_new hd)) (none_back (s1.trans sm) hd) upd_same⟩
end
end Law
end
section
set_option Elab.async false
set_option linter.all false
set_option maxRecDepth 100000
set_option maxHeartbeats 4000000
namespace Law
open PySem PySem.Spec PyProof.Rows L2 IK SX
def Ent.later (n : Int) (e : Ent) : Ent := (e.1 + n, e.2)
def tabLater (n : Int) (T : Tab) : Tab := T.map fun e => (e.1, e.2.map (Ent.later n))
theorem ent_later (n : Int) (a b : Ent) (h : entV a = entV b) : entV (Ent.later n a) = entV (Ent.later n b) := by
  simp only [entV, List.cons.injEq, V.int.injEq] at h
  simp only [entV, Ent.later, h.1, h.2.1]
theorem kvsOf_at {T : Tab} {vs : List V} {i : Nat} (hl : vs.length = T.length) (hi : i < T.length) : (kvsOf T vs)[i]? = some (.inr (S (T[i]).1), vs[i]'(by omega)) := by
  unfold kvsOf
  rw [List.getElem?_eq_getElem (by rw [List.length_zip, List.length_map, hl, Nat.min_self]; exact hi), List.getElem_zip, List.getElem_map]
theorem kvsOf_len {T : Tab} {vs : List V} (hl : vs.length = T.length) : (kvsOf T vs).length = T.length := by
  unfold kvsOf
  rw [List.length_zip, List.length_map, hl, Nat.min_self]
theorem tabTold_nd {W : Wld} (g : W.Good) (T : Tab) : ((tabTold W T).map (·.1)).Nodup := by
  have h : W.vnames.Nodup := g.vnd
  unfold tabTold
  have : ((W.vnames.map fun n => (n, entsOf T n)).filter fun e => !e.2.isEmpty).map (·.1) = W.vnames.filter fun n => !(entsOf T n).isEmpty := by
    rw [List.filter_map, List.map_map]
    simp [Function.comp_def]
  rw [this]
  exact h.filter _
theorem tabTold_mem {W : Wld} {T : Tab} {e : List Nat × List Ent} (h : e ∈ tabTold W T) : e.1 ∈ W.vnames ∧ e.2 ≠ [] ∧ ∃ x ∈ T, x.1 = e.1 ∧ x.2 = e.2 := by
  obtain ⟨h1, h2⟩ := List.mem_filter.mp h
  obtain ⟨n, hn, rfl⟩ := List.mem_map.mp h1
  have h2' : entsOf T n ≠ [] := by simpa using h2
  refine ⟨hn, h2', ?_⟩
  rcases entsOf_mem (T := T) (n := n) with z | ⟨x, hx, e1, e2⟩
  · exact absurd z h2'
  · exact ⟨x, hx, e1, e2.symm⟩
theorem tabTold_len {W : Wld} (g : W.Good) (T : Tab) : (tabTold W T).length ≤ 10 := by
  unfold tabTold
  refine Nat.le_trans (List.length_filter_le _ _) ?_
  rw [List.length_map, Wld.vnames, List.length_append, List.length_map, List.length_map]
  have := g.brks
  have := g.shps
  omega
/-- the told table is a good one -/
theorem tabTold_good {W : Wld} (g : W.Good) {T : Tab} (tg : TGood W T) : TGood W (tabTold W T) := by
  refine ⟨tabTold_nd g T, fun e he => (tabTold_mem he).1, fun e he => ?_, fun e he => ?_⟩
  · obtain ⟨_, _, x, hx, _, e2⟩ := tabTold_mem he
    rw [← e2]
    exact tg.rise x hx
  · obtain ⟨_, _, x, hx, _, e2⟩ := tabTold_mem he
    rw [← e2]
    exact tg.few x hx
theorem ValsL.unlock {H : Hp} {vs : List V} {T : Tab} {d : Addr} {o u : HO} (h : ValsL H vs T) (hd : H d = some o) (ho : (∀ l, o ≠ .lst l) ∧ ∀ l, o ≠ .tup l) : ValsL (upd H d u) vs T := ⟨h.1, fun i v e h1 h2 => by
  obtain ⟨b, ys, e1, e2, e3⟩ := h.2 i v e h1 h2
  refine ⟨b, ys, e1, ?_, e3.1, fun j y r h3 h4 => ?_⟩
  · rw [upd_ne (fun z => by rw [z, hd] at e2; exact ho.1 _ (Option.some.inj e2))]
    exact e2
  · obtain ⟨q, e4, e5⟩ := e3.2 j y r h3 h4
    refine ⟨q, e4, ?_⟩
    rw [upd_ne (fun z => by rw [z, hd] at e5; exact ho.2 _ (Option.some.inj e5))]
    exact e5⟩
/-- what is no list and no tuple may be locked -/
theorem ValsL.lock {H : Hp} {vs : List V} {T : Tab} {d : Addr} {kvs : List (Key × V)} {u : HO} (h : ValsL H vs T) (hd : H d = some (.dK kvs)) : ValsL (upd H d u) vs T := h.bar Bar.at_ hd
/-- a dict of new lists: new since H0 -/
def TabF (H0 H : Hp) (a : Addr) (T : Tab) : Prop := ∃ vs, H a = some (.dK (kvsOf T vs)) ∧ ValsL H vs T ∧ ∀ v ∈ vs, ∃ b, v = .ref b ∧ H0 b = none
theorem TabF.l {H0 H : Hp} {a : Addr} {T : Tab} (h : TabF H0 H a T) : TabL H a T := by
  obtain ⟨vs, h1, h2, _⟩ := h
  exact ⟨vs, h1, h2⟩
def spLaterT (K : PySem.W.Frag) (k : KA) (CN : Addr) : Sp := fun vs H Q E => ∃ (p a : Addr) (W : Wld) (T : Tab) (n : Int), vs = [.ref p, .ref a, .int n] ∧ WldAt k H p W ∧ W.Good ∧ TabAt K H a T ∧ TGood W T ∧ (¬ (0 ≤ n ∧ n ≤ 1000000) → raised CN (.int n) H E) ∧
  (0 ≤ n ∧ n ≤ 1000000 → ∀ x H', H x = none → Same H H' → TabF H H' x (tabLater n (tabTold W T)) → Q (.ref x) H')
section
variable {P : Program} {w : World} {K : PySem.W.Frag} {mg : Str → Option Value} {base : Heap}
theorem ok_laterT {k : KA} {CN : Addr} {f : Addr} {fd : FuncData} (F : Fun K "later_table" "later_table" s_later_table f fd) (B : Blt mg) (gH : GI mg "MOST_HOUR" 1000000) (TN : Err P w K mg base "NoNumber" CN "found")
    (DW : Dn P w K mg base CX0 2 "is_within" ["thing", "low", "high"] (spWithin K)) (DT : Dn P w K mg base CX0 6 "table_told" ["world", "table"] (spTableTold K k)) : FnOk P w K mg base (L2.CX P w) 7 f fd ["world", "table", "many"] (spLaterT K k CN) := by
  refine F.okX sc_later_table (fun vs H Q E h => ?_) (fun cdv A outer s H vs Q E hr h => ?_)
  · obtain ⟨p, a, W, T, n, rfl, _⟩ := h
    rfl
  · obtain ⟨p, a, W, T, n, rfl, hW, g, hT, tg, hno, hyes⟩ := h
    have hr2 : Room 2 _ := hr.mono (by decide)
    have hu := room_u1 hr
    refine ⟨_, (pss_cons (ps_set (i := 3) sc_later_table.nd rfl (.inl rfl) (pe_d DT (hr.mono (by decide)) (by rfl) pass0 (pa_cons (pv 0) (pa_cons (pv 1) pa_nil))))
      (pss_cons (ps_if (pt_not (pt_val (pe_d DW (hr.mono (by decide)) (by rfl) pass0 (pa_cons (pv 2) (pa_cons pe_int (pa_cons (C8.pe_gc (by rfl) gH) pa_nil)))))) (pss_one (ps_raise rfl (takes_of rfl rfl rfl rfl) (pmk_err TN hr2 (by rfl) (pv 2)))) pss_nil)
      (pss_cons (ps_set (i := 4) sc_later_table.nd rfl (.inl rfl) pe_dnewK)
      (pss_cons (ps_lock (ps_for (passes_of rfl) rfl (pi_items (pv 3)) (pg_tup rfl (pgs_cons (pg_name (i := 5) sc_later_table.nd rfl (.inl rfl)) (pgs_cons (pg_name (i := 6) sc_later_table.nd rfl (.inl rfl)) pgs_nil)))
      (pss_one (ps_dput hu (pv 4) (pv 5) (pe_lc (own := [("hour", 7), ("channel", 8)]) (g := gTup K 2 (gCons (gName 7) (gCons (gName 8) gNil))) (tt := tYes) rfl sc_later_table.nd (pi_seq (pv 6)) (blkOk_by (N := ["world", "table", "many", "own", "found", "name", "entries", "hour", "channel"]) (sc := defScope s_later_table) (by decide +kernel)) (fun _ _ _ _ _ => pg_tup rfl (pgs_cons (pg_name (i := 7) sc_later_table.nd rfl (Or.inl rfl)) (pgs_cons (pg_name (i := 8) sc_later_table.nd rfl (Or.inl rfl)) pgs_nil))) (fun _ _ _ _ _ => pts_nil) (fun _ _ _ _ _ => (pe_tup (pa_cons (pe_op op_add (pv 7) (pv 2)) (pa_cons (pv 8) pa_nil))))) rfl))))
      (pss_one (ps_ret (pv 4))))))), ?_⟩
    refine ⟨_, rfl, _, rfl, p, a, W, T, rfl, hW, g, hT, tg, fun c H1 hc s1 hL => ?_⟩
    refine ⟨_, rfl, _, _, _, rfl, .inl ⟨_, rfl, ?_⟩⟩
    by_cases hf : ¬ (0 ≤ n ∧ n ≤ 1000000)
    · have z : (decide (0 ≤ n) && decide (n ≤ 1000000)) = false := by
        rw [Bool.eq_false_iff]
        intro y
        simp only [Bool.and_eq_true, decide_eq_true_eq] at y
        exact hf y
      rw [z]
      refine ⟨false, rfl, iteT ?_⟩
      exact ⟨_, rfl, fun d hd => hno hf d _ (s1.trans (same_new hd)) (none_back s1 hd) upd_same⟩
    have hf := Decidable.of_not_not hf
    rw [decide_eq_true hf.1, decide_eq_true hf.2]
    refine ⟨true, rfl, iteF ?_⟩
    intro d hd
    generalize hXq : upd _ d _ = H2
    have s2 := laid_same hXq hd
    have e2 := laid_at hXq
    clear hXq
    obtain ⟨us0, c1, c2⟩ := hL
    have ncd : c ≠ d := fun z => by rw [z, hd] at c1; cases c1
    have g1 : ∀ {e : List Nat × List Ent}, e ∈ tabTold W T → e.1 ∈ W.vnames ∧ e.2 ≠ [] ∧ ∃ x ∈ T, x.1 = e.1 ∧ x.2 = e.2 := fun h => tabTold_mem h
    have g2 := tabTold_len g T
    have g3 := tabTold_nd g T
    have g4 : ∀ e ∈ tabTold W T, e.2.length ≤ 1000 := fun e he => by
      obtain ⟨_, _, x, hx, _, e2⟩ := g1 he
      rw [← e2]
      exact tg.few x hx
    have hyes := hyes hf
    generalize tabTold W T = T' at c1 c2 g1 g2 g3 g4 hyes ⊢
    have c1' := s2 _ _ c1
    have c2' := c2.same s2
    refine ⟨c, _, c1', trivial, fun od => ?_⟩
    refine ⟨_, rfl, c, od, _, rfl, upd_same, ?_⟩
    have c3 := c2'.lock (u := .frz od (.dK (kvsOf T' us0))) c1'
    refine for_it walk_items (fun i σ H' => ∃ y z u t, σ = [some (.ref p), some (.ref a), some (.int n), some (.ref c), some (.ref d), y, z, u, t] ∧ Bar d (upd H2 c (.frz od (.dK (kvsOf T' us0)))) H' ∧ H' c = some (.frz od (.dK (kvsOf T' us0))) ∧
      ∃ us, H' d = some (.dK (kvsOf (tabLater n (T'.take i)) us)) ∧ ValsL H' us (tabLater n (T'.take i)) ∧ ∀ v ∈ us, ∃ b, v = .ref b ∧ H b = none) ⟨_, _, _, _, rfl, Bar.refl, upd_same, [], by rw [upd_ne (Ne.symm ncd)]; exact e2, ⟨rfl, fun i v e h1 _ => by simp at h1⟩, fun _ h => by cases h⟩ (fun i σ H' _ ⟨_, _, _, _, _, _, e, _⟩ => e) ?_ ?_
    · rintro i x σ H' H3 hi ⟨_, _, _, _, rfl, b, hfz, us, hd', hus, hfr⟩ ⟨t, kx, v, rfl, ht, rfl, hk, hvx⟩
      rw [kvsOf_len c2.1] at hi
      have hkv := kvsOf_at c2.1 hi
      dsimp only at hk hvx
      rw [hkv] at hk hvx
      obtain rfl : kx = .str (S (T'[i]).1) := (Option.some.inj hk).symm
      obtain rfl : v = us0[i]'(by rw [c2.1]; exact hi) := (Option.some.inj hvx).symm
      have hm : T'[i] ∈ T' := List.getElem_mem hi
      generalize hXq : upd _ t _ = H3
      have s3 := laid_same hXq ht
      have e3 := laid_at hXq
      clear hXq
      have hus3 := hus.same s3
      have hd3 := s3 _ _ hd'
      have hfz3 := s3 _ _ hfz
      have b3 := b.trans (Bar.same (p := d) s3)
      obtain ⟨l, ys, ev, hl, hr3⟩ := c3.2 i _ T'[i] (by rw [List.getElem?_eq_getElem (by rw [c2.1]; exact hi)]) (List.getElem?_eq_getElem hi)
      have dd : upd H2 c (.frz od (.dK (kvsOf T' us0))) d = some (.dK []) := by rw [upd_ne (Ne.symm ncd)]; exact e2
      have nld : l ≠ d := fun z => by rw [z, dd] at hl; cases hl
      have hl3 := b3 _ _ nld hl
      have hr4 : RowsIs H3 ys ((T'[i]).2.map entV) := hr3.bar b3 dd
      refine ⟨t, _, rfl, .inl (.inl e3), rfl, _, _, rfl, _, _, rfl, rfl, ?_⟩
      rw [ev]
      refine ⟨_, rfl, l, rfl, lc_map (fun x y H' => ∃ p b, x = .ref p ∧ H3 p = some (.tup (entV b)) ∧ ∃ a, y = .ref a ∧ H' a = some (.tup (entV (Ent.later n b)))) (.l hl3) (Nat.lt_of_le_of_lt (by rw [hr4.1, List.length_map]; exact g4 _ hm : ys.length ≤ 1000) (by decide)) (fun x y H H' s ⟨p, b, e, o, a, e2, h⟩ => ⟨p, b, e, o, a, e2, s _ _ h⟩)
        (fun x y H D l hD ⟨p, b, e, o, a, e2, h⟩ => ⟨p, b, e, o, a, e2, hide_of hD (fun _ z => by cases z) h⟩) ?_ ?_⟩
      · intro x J0 kk hx s0 kq
        obtain ⟨o, e, rfl, _, he⟩ := hr4.mem hx
        refine ⟨o, _, rfl, .inl (.inl (s0 _ _ he)), rfl, _, _, rfl, _, _, rfl, rfl, rfl, ?_⟩
        refine ⟨_, rfl, _, rfl, _, _, rfl, rfl, _, rfl, ?_⟩
        refine ⟨Nat.le_of_ble_eq_true rfl, fun q hq => ?_⟩
        generalize hXq : upd _ q _ = J1
        have s1' := laid_same hXq hq
        have e1' := laid_at hXq
        clear hXq
        exact kq _ _ s1' ⟨o, e, rfl, he, q, rfl, e1'⟩
      intro D zs J6 hD s7 hy e
      have rD := rows_map (ent_later n) hr4 e
      refine ⟨_, rfl, _, rfl, d, _, rfl, DPut.k (k := .inr (S (T'[i]).1)) (s7 _ _ hd3) (Nat.lt_of_le_of_lt ?_ (by decide : 100 < sizeLine)), ?_⟩
      · rw [kvsOf_len hus.1]
        unfold tabLater
        rw [List.length_map, List.length_take]
        omega
      have tk : tabLater n (T'.take (i + 1)) = tabLater n (T'.take i) ++ [((T'[i]).1, (T'[i]).2.map (Ent.later n))] := by
        unfold tabLater
        rw [List.take_succ, List.getElem?_eq_getElem hi, List.map_append]
        rfl
      have nn : ∀ e ∈ tabLater n (T'.take i), e.1 ≠ (T'[i]).1 := by
        intro e he z
        obtain ⟨x, hx, rfl⟩ := List.mem_map.mp he
        obtain ⟨j, hj⟩ := List.getElem?_of_mem hx
        rw [List.getElem?_take] at hj
        split at hj
        · have hjl : j < T'.length := (List.getElem?_eq_some_iff.mp hj).1
          have hjl2 : j < (T'.map (·.1)).length := by rw [List.length_map]; exact hjl
          have := (List.getElem?_inj hjl2 g3 (j := i)).mp (by rw [List.getElem?_map, List.getElem?_map, hj, List.getElem?_eq_getElem hi]; exact congrArg some z)
          omega
        · cases hj
      refine ⟨_, _, _, _, rfl, (b3.trans (Bar.same s7)).trans Bar.at_, ?_, us ++ [.ref D], ?_, ?_, ?_⟩
      · rw [upd_ne ncd]
        exact s7 _ _ hfz3
      · rw [upd_same, putK_new _ (val_none nn), tk, kvsOf_snoc hus.1]
      · rw [tk]
        refine ((hus3.same s7).snoc hy ?_).bar Bar.at_ (s7 _ _ hd3)
        rw [List.map_map]
        exact rD
      · intro v hv
        rcases List.mem_append.mp hv with hv | hv
        · exact hfr v hv
        · obtain rfl := List.mem_singleton.mp hv
          refine ⟨D, rfl, ?_⟩
          cases e : H D with
          | none => rfl
          | some o =>
            have e1 := s2 _ _ (s1 _ _ e)
            have Dd : D ≠ d := fun z => by rw [z] at e; rw [s1 _ _ e] at hd; cases hd
            by_cases Dc : D = c
            · rw [Dc, hfz3] at hD
              cases hD
            · rw [b3 D o Dd (by rw [upd_ne Dc]; exact e1)] at hD
              cases hD
    · rintro σ H' ⟨_, _, _, _, rfl, b, hfz, us, hd', hus, hfr⟩
      rw [kvsOf_len c2.1, List.take_length] at hd' hus
      refine ⟨hfz, _, rfl, ?_⟩
      refine hyes d _ (none_back s1 hd) (fun x o e => ?_) ⟨us, ?_, ?_, hfr⟩
      · have e1 := s2 _ _ (s1 _ _ e)
        have xd : x ≠ d := fun z => by rw [z] at e; rw [s1 _ _ e] at hd; cases hd
        by_cases xc : x = c
        · rw [xc, upd_same, ← e1, xc, c1']
        · rw [upd_ne xc]
          exact b x o xd (by rw [upd_ne xc]; exact e1)
      · rw [upd_ne (Ne.symm ncd)]
        exact hd'
      · exact hus.unlock hfz ⟨fun _ z => (by cases z), fun _ z => (by cases z)⟩
end
end Law
end
section
set_option Elab.async false
set_option linter.all false
set_option maxRecDepth 100000
set_option maxHeartbeats 4000000
namespace Law
open PySem PySem.Spec PyProof.Rows L2 IK SX
/-! ### the law's draws -/
/-- the box at p: what is left of a cell's digits, its mixed number, how often it was asked (at most c) -/
def BoxAt (H : Hp) (p : Addr) (c : Nat) : Prop := ∃ a b d : Int, H p = some (.lst [.int a, .int b, .int d]) ∧ 0 ≤ b ∧ b < 2147483648 ∧ 0 ≤ d ∧ d ≤ c
theorem BoxAt.mono {H : Hp} {p : Addr} {c c' : Nat} (h : BoxAt H p c) (hc : c ≤ c') : BoxAt H p c' := by
  obtain ⟨a, b, d, h1, h2, h3, h4, h5⟩ := h
  exact ⟨a, b, d, h1, h2, h3, h4, by omega⟩
theorem BoxAt.some {H : Hp} {p : Addr} {c : Nat} (h : BoxAt H p c) : H p ≠ none := by
  obtain ⟨a, b, d, h1, _⟩ := h
  rw [h1]
  exact fun z => nomatch z
theorem BoxAt.same {H H' : Hp} {p : Addr} {c : Nat} (h : BoxAt H p c) (s : Same H H') : BoxAt H' p c := by
  obtain ⟨a, b, d, h1, h2⟩ := h
  exact ⟨a, b, d, s _ _ h1, h2⟩
/-- no box -/
def nb : HO → Bool
  | .lst [.int _, .int _, .int _] => false
  | _ => true
def Nb (H H' : Hp) : Prop := ∀ b o, nb o = true → H b = some o → H' b = some o
theorem Nb.refl {H : Hp} : Nb H H := fun _ _ _ h => h
theorem Nb.trans {H H1 H2 : Hp} (h : Nb H H1) (k : Nb H1 H2) : Nb H H2 := fun b o n e => k b o n (h b o n e)
theorem Nb.same {H H' : Hp} (s : Same H H') : Nb H H' := fun b o _ e => s b o e
/-- where only the box is another one -/
theorem BoxAt.nb {H H' : Hp} {p : Addr} {c : Nat} (h : BoxAt H p c) (b : Bar p H H') : Nb H H' := fun x o n e => b x o (fun z => by
  obtain ⟨u, v, w, h1, _⟩ := h
  rw [z, h1] at e
  rw [← Option.some.inj e] at n
  cases n) e
theorem nb_rd {H H' : Hp} {a : Addr} {u : HO} (s : Nb H H') (n : nb u = true) (h : Rd H a u) : Rd H' a u := by
  rcases h with h | ⟨o, h⟩
  · exact .inl (s _ _ n h)
  · exact .inr ⟨o, s _ _ rfl h⟩
theorem nb_seq {K : PySem.W.Frag} {H H' : Hp} {a : Addr} {xs : List V} (s : Nb H H') (n : nb (.lst xs) = true) (h : SqA K H a xs) : SqA K H' a xs := by
  rcases h with (h | h) | (h | h)
  · exact .inl (.inl (nb_rd s n h))
  · exact .inl (.inr h)
  · exact .inr (.inl (nb_rd s rfl h))
  · exact .inr (.inr h)
theorem nb_lst {xs : List V} (h : ∀ x ∈ xs, ∀ i, x ≠ .int i) : nb (.lst xs) = true := by
  rcases xs with _ | ⟨a, _ | ⟨b, _ | ⟨c, _ | ⟨d, l⟩⟩⟩⟩
  · rfl
  · cases a <;> rfl
  · cases a <;> cases b <;> rfl
  · have := h a (by simp)
    cases a <;> first | rfl | exact absurd rfl (this _)
  · cases a <;> cases b <;> cases c <;> rfl
theorem nb_txts {ws : List (List Nat)} : nb (.lst (txts ws)) = true := nb_lst fun x hx i z => by
  obtain ⟨w, _, rfl⟩ := List.mem_map.mp hx
  cases z
theorem nb_objs {C : Addr} {H : Hp} {ks : List Str} {xs : List V} {vss : List (List V)} (h : Objs C H ks xs vss) : nb (.lst xs) = true := nb_lst fun x hx i z => by
  obtain ⟨j, hj⟩ := List.getElem?_of_mem hx
  have h1 : j < vss.length := by rw [← h.1]; exact (List.getElem?_eq_some_iff.mp hj).1
  obtain ⟨p, e, _⟩ := h.2 j x vss[j] hj (List.getElem?_eq_getElem h1)
  rw [e] at z
  cases z
theorem nb_rows {H : Hp} {xs : List V} {vss : List (List V)} (h : RowsIs H xs vss) : nb (.lst xs) = true := nb_lst fun x hx i z => by
  obtain ⟨j, hj⟩ := List.getElem?_of_mem hx
  have h1 : j < vss.length := by rw [← h.1]; exact (List.getElem?_eq_some_iff.mp hj).1
  obtain ⟨p, e, _⟩ := h.2 j x vss[j] hj (List.getElem?_eq_getElem h1)
  rw [e] at z
  cases z
theorem Objs.nb {C : Addr} {H H' : Hp} {ks : List Str} {xs : List V} {vss : List (List V)} (h : Objs C H ks xs vss) (s : Nb H H') : Objs C H' ks xs vss := ⟨h.1, fun i x vs h1 h2 => by
  obtain ⟨p, e, dx, h⟩ := h.2 i x vs h1 h2
  exact ⟨p, e, dx, s _ _ rfl h⟩⟩
theorem RowsIs.nb {H H' : Hp} {ys : List V} {rows : List (List V)} (h : RowsIs H ys rows) (s : Nb H H') : RowsIs H' ys rows := ⟨h.1, fun i y r h1 h2 => by
  obtain ⟨a, e, h⟩ := h.2 i y r h1 h2
  exact ⟨a, e, s _ _ rfl h⟩⟩
theorem ToldAt.nb {H H' : Hp} {a : Addr} {W : Wld} (h : ToldAt H a W) (s : Nb H H') : ToldAt H' a W := by
  obtain ⟨ap, ac, ab, as, yc, yb, ys, h1, h2, h3, h4, h5, h6, h7, h8⟩ := h
  exact ⟨ap, ac, ab, as, yc, yb, ys, s _ _ rfl h1, s _ _ rfl h2, s _ _ rfl h3, h4.nb s, s _ _ rfl h5, h6.nb s, s _ _ rfl h7, h8.nb s⟩
theorem WldAt.nb {k : KA} {H H' : Hp} {p : Addr} {W : Wld} (h : WldAt k H p W) (s : Nb H H') : WldAt k H' p W := by
  obtain ⟨xc, xb, xs, ⟨dx, lp, lc, lb, ls, h1, h2, h3, h4, h5⟩, oc, ob, os⟩ := h
  exact ⟨xc, xb, xs, ⟨dx, lp, lc, lb, ls, s _ _ rfl h1, s _ _ nb_txts h2, s _ _ (nb_objs oc) h3, s _ _ (nb_objs ob) h4, s _ _ (nb_objs os) h5⟩, oc.nb s, ob.nb s, os.nb s⟩
theorem EntsAt.nb {K : PySem.W.Frag} {H H' : Hp} {vs : List V} {T : Tab} (h : EntsAt K H vs T) (s : Nb H H') : EntsAt K H' vs T := ⟨h.1, fun i v e h1 h2 => by
  obtain ⟨b, ys, e1, e2, e3⟩ := h.2 i v e h1 h2
  exact ⟨b, ys, e1, nb_seq s (nb_rows e3) e2, e3.nb s⟩⟩
theorem TabAt.nb {K : PySem.W.Frag} {H H' : Hp} {a : Addr} {T : Tab} (h : TabAt K H a T) (s : Nb H H') : TabAt K H' a T := by
  obtain ⟨vs, h1, h2⟩ := h
  exact ⟨vs, s _ _ rfl h1, h2.nb s⟩
theorem ValsL.nb {H H' : Hp} {vs : List V} {T : Tab} (h : ValsL H vs T) (s : Nb H H') : ValsL H' vs T := ⟨h.1, fun i v e h1 h2 => by
  obtain ⟨b, ys, e1, e2, e3⟩ := h.2 i v e h1 h2
  exact ⟨b, ys, e1, s _ _ (nb_rows e3) e2, e3.nb s⟩⟩
theorem TabL.nb {H H' : Hp} {a : Addr} {T : Tab} (h : TabL H a T) (s : Nb H H') : TabL H' a T := by
  obtain ⟨vs, h1, h2⟩ := h
  exact ⟨vs, s _ _ rfl h1, h2.nb s⟩
/-- number r of a list, r drawn below its length -/
theorem at_drawn {α : Type} {xs : List α} {r : Int} (h0 : 0 ≤ r) (h1 : r < (xs.length : Int)) : ∃ x, atI xs r = some x ∧ x ∈ xs := by
  obtain ⟨n, rfl⟩ := Int.eq_ofNat_of_zero_le h0
  have hn : n < xs.length := by omega
  exact ⟨xs[n], atI_nat (List.getElem?_eq_getElem hn), List.getElem_mem hn⟩
def spCell (K : PySem.W.Frag) : Sp := fun vs H Q _ => ∃ (a : Addr) (ns : List Int) (k : Nat), vs = [.ref a, .int k] ∧ SqL K H a (ns.map V.int) ∧ ns.length ≤ 63 ∧ ∀ n : Int, Q (.int n) H
def spBox : Sp := fun vs H Q _ => ∃ n : Int, vs = [.int n] ∧ ∀ p H', H p = none → BoxAt H' p 0 → Same H H' → Q (.ref p) H'
def spTake : Sp := fun vs H Q _ => ∃ (p : Addr) (m : Int) (c : Nat), vs = [.ref p, .int m] ∧ BoxAt H p c ∧ c < 100000 ∧ 0 < m ∧ m < 1000000000 ∧ ∀ (r : Int) H', 0 ≤ r → r < m → BoxAt H' p (c + 1) → Bar p H H' → Q (.int r) H'
def spNumber : Sp := fun vs H Q _ => ∃ (p : Addr) (lo hi : Int) (c : Nat), vs = [.ref p, .int lo, .int hi] ∧ BoxAt H p c ∧ c < 90000 ∧ lo ≤ hi ∧ hi - lo < 100000000 ∧ ∀ (r : Int) H', lo ≤ r → r ≤ hi → BoxAt H' p (c + 2) → Bar p H H' → Q (.int r) H'
section
variable {P : Program} {w : World} {K : PySem.W.Frag} {mg : Str → Option Value} {base : Heap}
theorem ok_cell {f : Addr} {fd : FuncData} (F : Fun K "_law_cell" "_law_cell" s__law_cell f fd) (B : Blt mg) : FnOk P w K mg base CX0 1 f fd ["_law_script", "_law_k"] (spCell K) := by
  refine F.ok sc__law_cell (fun vs H Q E h => ?_) (fun cdv A outer s H vs Q E hr h => ?_)
  · obtain ⟨a, ns, k, rfl, _⟩ := h
    rfl
  · obtain ⟨a, ns, k, rfl, hS, hl, q⟩ := h
    refine ⟨_, (pss_cons (ps_if (pt_cmpR op_lt (pv 1) (pe_callB call_len_seq (by rfl) B.len PySem.boot_len (pa_cons (pv 0) pa_nil)) (nomark _)) (pss_one (ps_ret (pe_ix ix_list (pv 0) (pv 1) (fun _ _ => rfl)))) pss_nil)
      (pss_one (ps_ret (pe_op op_add (pe_op op_mul pe_int (pv 1)) pe_int)))), ?_⟩
    refine ⟨_, rfl, _, rfl, a, _, rfl, .inl hS, _, _, rfl, rfl, _, rfl, ?_⟩
    rw [List.length_map]
    refine ite2 (fun hk => ?_) (fun _ => ?_)
    · have hk' : k < ns.length := by simpa using hk
      exact ⟨_, rfl, _, rfl, a, _, _, .int ns[k], rfl, rfl, hS, (by rw [atI_nat] <;> simp [hk']), q _⟩
    · exact ⟨_, rfl, _, _, rfl, rfl, .inl (by decide), _, _, rfl, rfl, q _⟩
theorem ok_box {f : Addr} {fd : FuncData} (F : Fun K "_law_box" "_law_box" s__law_box f fd) (B : Blt mg) : FnOk P w K mg base CX0 1 f fd ["_law_cell_here"] spBox := by
  refine F.ok sc__law_box (fun vs H Q E h => ?_) (fun cdv A outer s H vs Q E hr h => ?_)
  · obtain ⟨n, rfl, _⟩ := h
    rfl
  · obtain ⟨n, rfl, q⟩ := h
    refine ⟨_, (pss_one (ps_ret (pe_lst (pa_cons (pe_callB (call_max2 rfl) (by rfl) B.max (by decide +kernel) (pa_cons pe_int (pa_cons (pe_op op_sub (pv 0) (pe_op op_pow pe_int pe_int)) pa_nil))) (pa_cons (pe_op op_mod (pv 0) pe_int) (pa_cons pe_int pa_nil)))))), ?_⟩
    refine ⟨_, rfl, _, _, rfl, rfl, ⟨by decide, by decide, by decide⟩, _, _, rfl, rfl, _, _, rfl, _, rfl, _, _, rfl, rfl, (by show (0 : Int) < 2147483629; decide), Nat.le_of_ble_eq_true rfl, fun p hp => ?_⟩
    refine q p _ hp ⟨_, _, _, upd_same, ?_, ?_, by decide, by decide⟩ (same_new hp)
    · show 0 ≤ n % 2147483629
      omega
    · show n % 2147483629 < 2147483648
      omega
theorem at0 (a b c : V) : atI [a, b, c] 0 = some a := rfl
theorem at1 (a b c : V) : atI [a, b, c] 1 = some b := rfl
theorem at2 (a b c : V) : atI [a, b, c] 2 = some c := rfl
theorem ok_take {f : Addr} {fd : FuncData} (F : Fun K "_law_take" "_law_take" s__law_take f fd) : FnOk P w K mg base CX0 1 f fd ["_law_box_here", "_law_many"] spTake := by
  refine F.ok sc__law_take (fun vs H Q E h => ?_) (fun cdv A outer s H vs Q E hr h => ?_)
  · obtain ⟨p, m, c, rfl, _⟩ := h
    rfl
  · obtain ⟨p, m, c, rfl, ⟨a, b, d, hp, b0, b1, d0, d1⟩, hc, m0, m1, q⟩ := h
    refine ⟨_, (pss_cons (ps_if (pt_cmpR op_gt (pe_ix ix_list (pv 0) pe_int (fun _ _ => rfl)) pe_int (nomark _)) (pss_cons (ps_set (i := 2) sc__law_take.nd rfl (.inl rfl) (pe_op op_mod (pe_ix ix_list (pv 0) pe_int (fun _ _ => rfl)) (pv 1)))
      (pss_cons (ps_asg (pe_op op_fdivW (pe_ix ix_list (pv 0) pe_int (fun _ _ => rfl)) (pv 1)) (pg_sub (pv 0) pe_int set_list))
      (pss_one (ps_ret (pv 2))))) pss_nil)
      (pss_cons (ps_asg (pe_op op_add (pe_ix ix_list (pv 0) pe_int (fun _ _ => rfl)) pe_int) (pg_sub (pv 0) pe_int set_list))
      (pss_cons (ps_set (i := 3) sc__law_take.nd rfl (.inl rfl) (pe_op op_mod (pe_op op_pow (pe_op op_add (pe_op op_add (pe_ix ix_list (pv 0) pe_int (fun _ _ => rfl)) (pe_op op_mul pe_int (pe_ix ix_list (pv 0) pe_int (fun _ _ => rfl)))) pe_int) pe_int) pe_int))
      (pss_cons (ps_set (i := 4) sc__law_take.nd rfl (.inl rfl) (pe_op op_mod (pe_op op_pow (pe_op op_add (pe_op op_add (pe_op op_fdiv (pv 3) pe_int) (pe_op op_mul pe_int (pe_ix ix_list (pv 0) pe_int (fun _ _ => rfl)))) pe_int) pe_int) pe_int))
      (pss_one (ps_ret (pe_op op_mod (pe_op op_add (pe_op op_fdiv (pv 3) pe_int) (pe_op op_mul pe_int (pe_op op_fdiv (pv 4) pe_int))) (pv 1)))))))), ?_⟩
    refine ⟨_, rfl, p, _, _, _, rfl, rfl, SqL.of hp, at0 _ _ _, _, _, rfl, rfl, _, rfl, ?_⟩
    refine ite2 (fun ha => ?_) (fun ha => ?_)
    · have ha' : 0 < a := by simpa using ha
      refine ⟨_, rfl, p, _, _, _, rfl, rfl, SqL.of hp, at0 _ _ _, _, rfl, _, _, rfl, rfl, m0, ?_⟩
      refine ⟨_, rfl, p, _, _, _, rfl, rfl, SqL.of hp, at0 _ _ _, _, rfl, _, _, rfl, rfl, wide_div m0 (b := 30) (by omega) (by decide) (by decide), _, rfl, p, _, _, 0, rfl, rfl, hp, rfl, _, rfl, ?_⟩
      refine q _ _ ?_ ?_ ⟨_, b, d, upd_same, b0, b1, d0, by omega⟩ Bar.at_
      · exact Int.emod_nonneg _ (by omega)
      · exact Int.emod_lt_of_pos _ m0
    · refine ⟨_, rfl, p, _, _, _, rfl, rfl, SqL.of hp, at2 _ _ _, _, _, rfl, rfl, _, rfl, p, _, _, 2, rfl, rfl, hp, rfl, ?_⟩
      have hp2 : upd H p (.lst [.int a, .int b, .int (d + 1)]) p = some (.lst [.int a, .int b, .int (d + 1)]) := upd_same
      show tSeq _ _ _ _ (upd H p (.lst [.int a, .int b, .int (d + 1)]))
      generalize hH2 : upd H p (.lst [.int a, .int b, .int (d + 1)]) = H2 at hp2 ⊢
      have small1 : (b + 7919 * (d + 1) + 75).natAbs < 2 ^ 64 := by omega
      refine ⟨_, rfl, p, _, _, _, rfl, rfl, SqL.of hp2, at1 _ _ _, _, rfl, p, _, _, _, rfl, rfl, SqL.of hp2, at2 _ _ _, _, _, rfl, rfl, .inl (by decide), _, _, rfl, rfl, _, _, rfl, rfl, _, _, rfl, rfl, ⟨by decide, by decide, small1⟩, _, _, rfl, rfl, (by show (0 : Int) < 2147483647; decide), ?_⟩
      have n1 : 0 ≤ (b + 7919 * (d + 1) + 75) ^ (5 : Int).toNat % 2147483647 := Int.emod_nonneg _ (by decide)
      have n2 : (b + 7919 * (d + 1) + 75) ^ (5 : Int).toNat % 2147483647 < 2147483647 := Int.emod_lt_of_pos _ (by decide)
      dsimp only
      generalize (b + 7919 * (d + 1) + 75) ^ (5 : Int).toNat % 2147483647 = one at n1 n2 ⊢
      have q1 : 0 ≤ one / 8 ∧ one / 8 < 2147483647 := by omega
      have q2 : 0 ≤ 104729 * (d + 1) ∧ 104729 * (d + 1) ≤ 104729 * 100000 := by omega
      have small2 : (one / 8 + 104729 * (d + 1) + 3).natAbs < 2 ^ 64 := by omega
      refine ⟨_, rfl, _, _, rfl, rfl, ⟨by decide, by decide⟩, _, rfl, p, _, _, _, rfl, rfl, SqL.of hp2, at2 _ _ _, _, _, rfl, rfl, .inl (by decide), _, _, rfl, rfl, _, _, rfl, rfl, _, _, rfl, rfl, ⟨by decide, by decide, small2⟩, _, _, rfl, rfl, (by show (0 : Int) < 2147483629; decide), ?_⟩
      dsimp only
      generalize (one / 8 + 104729 * (d + 1) + 3) ^ (3 : Int).toNat % 2147483629 = other
      refine ⟨_, rfl, _, _, rfl, rfl, ⟨by decide, by decide⟩, _, rfl, _, _, rfl, rfl, ⟨by decide, by decide⟩, _, _, rfl, rfl, .inl (by decide), _, _, rfl, rfl, _, rfl, _, _, rfl, rfl, m0, ?_⟩
      refine q _ _ ?_ ?_ ⟨a, b, d + 1, hp2, b0, b1, by omega, by omega⟩ (by rw [← hH2]; exact Bar.at_)
      · exact Int.emod_nonneg _ (by omega)
      · exact Int.emod_lt_of_pos _ m0
theorem ok_number {f : Addr} {fd : FuncData} (F : Fun K "_law_number" "_law_number" s__law_number f fd) (DT : Dn P w K mg base CX0 1 "_law_take" ["_law_box_here", "_law_many"] spTake) : FnOk P w K mg base CX0 2 f fd ["_law_box_here", "_law_low", "_law_high"] spNumber := by
  refine F.ok sc__law_number (fun vs H Q E h => ?_) (fun cdv A outer s H vs Q E hr h => ?_)
  · obtain ⟨p, lo, hi, c, rfl, _⟩ := h
    rfl
  · obtain ⟨p, lo, hi, c, rfl, hp, hc, h1, h2, q⟩ := h
    refine ⟨_, (pss_cons (ps_set (i := 3) sc__law_number.nd rfl (.inl rfl) (pe_d DT (hr.mono (by decide)) (by rfl) pass0 (pa_cons (pv 0) (pa_cons pe_int pa_nil))))
      (pss_cons (ps_set (i := 4) sc__law_number.nd rfl (.inl rfl) (pe_op op_add (pv 1) (pe_d DT (hr.mono (by decide)) (by rfl) pass0 (pa_cons (pv 0) (pa_cons (pe_op op_add (pe_op op_sub (pv 2) (pv 1)) pe_int) pa_nil)))))
      (pss_one (ps_ret (pe_ix ix_list (pe_lst (pa_cons (pv 1) (pa_cons (pv 2) (pa_cons (pv 4) (pa_cons (pv 4) (pa_cons (pe_op op_add (pv 1) (pe_op op_mod (pe_op op_mod (pe_op op_sub (pv 4) (pv 1)) pe_int) (pe_op op_add (pe_op op_sub (pv 2) (pv 1)) pe_int))) pa_nil)))))) (pv 3) (fun _ _ => rfl)))))), ?_⟩
    refine ⟨_, rfl, p, 5, c, rfl, hp, by omega, by decide, by decide, fun r H1 r0 r1 hp1 b1 => ?_⟩
    refine ⟨_, rfl, _, rfl, _, rfl, _, rfl, _, _, rfl, rfl, _, _, rfl, rfl, p, _, _, rfl, hp1, by omega, by omega, by omega, fun m H2 m0 m1 hp2 b2 => ?_⟩
    refine ⟨_, _, rfl, rfl, ?_⟩
    refine ⟨_, rfl, _, rfl, _, rfl, _, rfl, _, rfl, _, rfl, _, rfl, _, _, rfl, rfl, _, _, rfl, rfl, (by show (0 : Int) < 20; decide), _, rfl, _, rfl, _, _, rfl, rfl, _, _, rfl, rfl, _, _, rfl, rfl, (by show 0 < hi - lo + 1; omega), _, _, rfl, rfl, ?_⟩
    refine ⟨Nat.le_of_ble_eq_true rfl, fun l hl => ?_⟩
    generalize hXq : upd _ l _ = H3
    have s3 := laid_same hXq hl
    have e3 := laid_at hXq
    clear hXq
    obtain ⟨x, hx, hm⟩ := at_drawn (xs := [V.int lo, V.int hi, V.int (lo + m), V.int (lo + m), V.int (lo + (lo + m - lo) % 20 % (hi - lo + 1))]) r0 r1
    refine ⟨_, rfl, l, _, r, x, rfl, rfl, SqL.of e3, hx, ?_⟩
    have key : ∃ n : Int, x = .int n ∧ lo ≤ n ∧ n ≤ hi := by
      have z1 := Int.emod_nonneg ((lo + m - lo) % 20) (show hi - lo + 1 ≠ 0 by omega)
      have z2 := Int.emod_lt_of_pos ((lo + m - lo) % 20) (show 0 < hi - lo + 1 by omega)
      simp only [List.mem_cons, List.not_mem_nil, or_false] at hm
      rcases hm with rfl | rfl | rfl | rfl | rfl
      · exact ⟨_, rfl, by omega, by omega⟩
      · exact ⟨_, rfl, by omega, by omega⟩
      · exact ⟨_, rfl, by omega, by omega⟩
      · exact ⟨_, rfl, by omega, by omega⟩
      · exact ⟨_, rfl, by omega, by omega⟩
    obtain ⟨n, rfl, k1, k2⟩ := key
    exact q n H3 k1 k2 (hp2.same s3) (b1.trans (b2.trans (Bar.same s3)))
end
end Law
end
section
set_option Elab.async false
set_option linter.all false
set_option maxRecDepth 100000
set_option maxHeartbeats 4000000
namespace Law
open PySem PySem.Spec PyProof.Rows L2 IK SX
theorem BoxAt.hide {H : Hp} {p D : Addr} {c : Nat} (h : BoxAt H p c) (n : p ≠ D) : BoxAt (hide D H) p c := by
  obtain ⟨a, b, d, h1, h2⟩ := h
  exact ⟨a, b, d, by rw [hide_ne n]; exact h1, h2⟩
theorem Bar.hide {H H' : Hp} {p D : Addr} (h : Bar p H H') : Bar p (hide D H) (hide D H') := fun b o n e => by
  by_cases z : b = D
  · simp [Law.hide, z] at e
  · rw [hide_ne z] at e ⊢
    exact h b o n e
/-- a comprehension that draws k times for each -/
theorem lc_walkB {J : It} {n : Nat} {G : Hp → Prop} {it : Nat → V → Prop} (w : Walk J n G (fun i H x H' => H' = H ∧ it i x)) {g : TG} {te : TE} {vs : List Nat} {σ : L2.St} {H1 : Hp} {Qd : Addr → Hp → Prop} {p : Addr} {c : Nat} (k : Nat) (F : Nat → V → Hp → Prop)
    (hp : BoxAt H1 p c) (hn : n < sizeLine) (hG : ∀ H, Nb H1 H → G H) (hM : ∀ i y H H', Nb H H' → F i y H → F i y H') (hF : ∀ i y H D l, H D = some (.lst l) → F i y H → F i y (hide D H))
    (hs : ∀ i x H (kont : V → Hp → Prop), i < n → it i x → Bar p H1 H → BoxAt H p (c + k * i) → (∀ y H4, Bar p H H4 → BoxAt H4 p (c + k * i + k) → F i y H4 → kont y H4) → g x (wipe σ vs) H fun σ2 H2 => wipe σ2 vs = wipe σ vs ∧ te σ2 H2 kont)
    (hd : ∀ D ys H, H1 D = none → Bar p H1 H → BoxAt H p (c + k * n) → H D = some (.lst ys) → ys.length = n → (∀ (i : Nat) (y : V), ys[i]? = some y → F i y H) → Qd D H) :
    ∀ D, H1 D = none → ∃ W : Nat → Nat → Hp → Prop, (∃ m, W 0 m (upd H1 D (.lst []))) ∧ ∀ i m H, W i m H →
      (J.stop i H ∧ Qd D H) ∨ (J.go i H ∧ ∃ Nx : Hp → Prop, (∀ H', Nx H' → ∃ m', m' < m ∧ W (i + 1) m' H') ∧ ∀ x H', J.yld i H x H' → g x (wipe σ vs) H' fun σ2 H2 => wipe σ2 vs = wipe σ vs ∧ tYes σ2 H2 fun b H3 =>
        if b = true then te σ2 H3 fun y H4 => ∃ acc, H4 D = some (.lst acc) ∧ acc.length < sizeLine ∧ Nx (upd H4 D (.lst (acc ++ [y]))) else Nx H3) := by
  intro D hD
  have pD : p ≠ D := fun z => hp.some (by rw [z]; exact hD)
  have outD : ∀ {H : Hp} {o : HO}, Bar p H1 H → Bar p H1 (upd H D o) := fun b x o n e => by
    rw [upd_ne (ne_of_none e hD)]
    exact b x o n e
  refine lc_it w (fun i H => Bar p H1 H ∧ i ≤ n ∧ BoxAt H p (c + k * i) ∧ ∃ acc, H D = some (.lst acc) ∧ acc.length = i ∧ ∀ (j : Nat) (y : V), acc[j]? = some y → F j y (hide D H)) ?_ ?_ ?_ ?_
  · exact ⟨Bar.new hD, Nat.zero_le _, hp.same (same_new hD), [], upd_same, rfl, fun j y h => by simp at h⟩
  · rintro i H _ ⟨b, _⟩
    exact hG H (hp.nb b)
  · rintro i x H H' hi ⟨b, _, hb, acc, hA, ha, hf⟩ ⟨rfl, hx⟩
    have z := hs i x H' (fun y H4 => ∃ acc, H4 D = some (.lst acc) ∧ acc.length < sizeLine ∧ (Bar p H1 (upd H4 D (.lst (acc ++ [y]))) ∧ i + 1 ≤ n ∧ BoxAt (upd H4 D (.lst (acc ++ [y]))) p (c + k * (i + 1)) ∧ ∃ acc', upd H4 D (.lst (acc ++ [y])) D = some (.lst acc') ∧ acc'.length = i + 1 ∧
      ∀ (j : Nat) (y' : V), acc'[j]? = some y' → F j y' (Law.hide D (upd H4 D (.lst (acc ++ [y])))))) hi hx b hb fun y H4 b4 hb4 f4 => by
        have hA4 := b4 _ _ pD.symm hA
        refine ⟨acc, hA4, by omega, outD (b.trans b4), hi, ?_, acc ++ [y], upd_same, by simp [ha], fun j y' hy' => ?_⟩
        · obtain ⟨u, v, x, h1, h2, h3, h4, h5⟩ := hb4
          exact ⟨u, v, x, by rw [upd_ne pD]; exact h1, h2, h3, h4, by rw [Nat.mul_succ, ← Nat.add_assoc]; exact h5⟩
        · rw [hide_upd]
          by_cases hj : j < acc.length
          · rw [List.getElem?_append_left hj] at hy'
            exact hM _ _ _ _ ((hb.hide pD).nb b4.hide) (hf j y' hy')
          · rw [List.getElem?_append_right (by omega)] at hy'
            have e2 : j - acc.length = 0 := by
              have := (List.getElem?_eq_some_iff.mp hy').1
              simp at this
              omega
            have e3 : j = i := by omega
            rw [e2] at hy'
            have e4 : y = y' := by simpa using hy'
            subst e3 e4
            exact hF _ _ _ _ _ hA4 f4
    exact z
  · rintro H ⟨b, _, hb, acc, hA, ha, hf⟩
    exact hd D acc H hD b hb hA ha fun i y h => hM _ _ _ _ (Nb.same hide_le) (hf i y h)
end Law
end
section
set_option Elab.async false
set_option linter.all false
set_option maxRecDepth 100000
set_option maxHeartbeats 4000000
namespace Law
open PySem PySem.Spec PyProof.Rows L2 IK SX
/-! ### the names that are drawn: unlike, each a name -/
theorem nodup_range {α : Type} {f : Nat → α} {n : Nat} (h : ∀ i j, i < j → j < n → f i ≠ f j) : ((List.range n).map f).Nodup := by
  unfold List.Nodup
  rw [List.pairwise_map]
  refine List.Pairwise.imp_of_mem (R := (· < ·)) (fun ha hb hab => h _ _ hab (List.mem_range.mp hb)) List.pairwise_lt_range
def wl13 : List Str := ["begin", "ports", "channel", "breaker", "ship", "a", "ab", "abc", "none", "port", "train", "hour", "ice"]
theorem wl13_eq : Txt.split "begin ports channel breaker ship a ab abc none port train hour ice" " " = wl13 := by decide +kernel
theorem wl13_names : ∀ x ∈ wl13, isName x.cps.toList = true := by decide +kernel
theorem wl13_nd : (wl13.map fun x => x.cps.toList).Nodup := by decide +kernel
def steps : List Nat := [1, 3, 5, 7, 9, 11]
def nm0 (f s i : Nat) : List Nat := ((wl13[(f + s * i) % 13]?).getD "").cps.toList
theorem nm0_name (f s i : Nat) : isName (nm0 f s i) = true := by
  unfold nm0
  have h : (f + s * i) % 13 < wl13.length := Nat.mod_lt _ (by decide)
  rw [List.getElem?_eq_getElem h]
  exact wl13_names _ (List.getElem_mem h)
theorem nm0_nd {f s n : Nat} (hs : s ∈ steps) (hn : n ≤ 13) : ((List.range n).map (nm0 f s)).Nodup := nodup_range fun i j hij hj z => by
  unfold nm0 at z
  have h1 : (f + s * i) % 13 < wl13.length := Nat.mod_lt _ (by decide)
  have h2 : (f + s * j) % 13 < wl13.length := Nat.mod_lt _ (by decide)
  rw [List.getElem?_eq_getElem h1, List.getElem?_eq_getElem h2] at z
  have e : (wl13.map fun x => x.cps.toList)[(f + s * i) % 13]? = (wl13.map fun x => x.cps.toList)[(f + s * j) % 13]? := by
    rw [List.getElem?_map, List.getElem?_map, List.getElem?_eq_getElem h1, List.getElem?_eq_getElem h2]
    exact congrArg some z
  have k := (List.getElem?_inj (by rw [List.length_map]; exact h1) wl13_nd).mp e
  simp only [steps, List.mem_cons, List.not_mem_nil, or_false] at hs
  rcases hs with rfl | rfl | rfl | rfl | rfl | rfl <;> omega
def lt (c : Nat) : Nat := 97 + c % 26
theorem lt_ok (c : Nat) : letter (lt c) = true := by
  unfold letter lt
  simp only [Bool.and_eq_true, decide_eq_true_eq]
  omega
theorem isName_of {l : List Nat} (h1 : 1 ≤ l.length) (h2 : l.length ≤ 8) (h3 : ∀ c ∈ l, letter c = true) : isName l = true := by
  unfold isName
  simp only [Bool.and_eq_true, decide_eq_true_eq, List.all_eq_true]
  exact ⟨⟨h1, h2⟩, h3⟩
def nm1 (st : List Nat) (f i : Nat) : List Nat := lt (f + i / 8) :: st.take (i % 8)
theorem nm1_name {st : List Nat} (hl : st.length = 7) (ha : ∀ c ∈ st, letter c = true) (f i : Nat) : isName (nm1 st f i) = true := by
  refine isName_of (by simp [nm1]) (by simp [nm1]; omega) fun c hc => ?_
  rcases List.mem_cons.mp hc with rfl | hc
  · exact lt_ok _
  · exact ha c (List.mem_of_mem_take hc)
theorem nm1_nd {st : List Nat} {f n : Nat} (hl : st.length = 7) (hn : n ≤ 13) : ((List.range n).map (nm1 st f)).Nodup := nodup_range fun i j hij hj z => by
  unfold nm1 lt at z
  injection z with z1 z2
  have z3 := congrArg List.length z2
  rw [List.length_take, List.length_take, hl] at z3
  omega
def nm2 (st : List Nat) (a b f s i : Nat) : List Nat := st.take a ++ lt (f + s * i) :: (st.drop a).take (b - a)
theorem nm2_name {st : List Nat} (hl : st.length = 7) (ha : ∀ c ∈ st, letter c = true) {a b : Nat} (h1 : a ≤ 7) (h2 : b ≤ 7) (f s i : Nat) : isName (nm2 st a b f s i) = true := by
  refine isName_of (by simp [nm2]; omega) (by simp [nm2]; omega) fun c hc => ?_
  rcases List.mem_append.mp hc with hc | hc
  · exact ha c (List.mem_of_mem_take hc)
  rcases List.mem_cons.mp hc with rfl | hc
  · exact lt_ok _
  · exact ha c (List.mem_of_mem_drop (List.mem_of_mem_take hc))
theorem nm2_nd {st : List Nat} {a b f s n : Nat} (hs : s ∈ steps) (hn : n ≤ 13) : ((List.range n).map (nm2 st a b f s)).Nodup := nodup_range fun i j hij hj z => by
  unfold nm2 lt at z
  have z1 := List.append_cancel_left z
  injection z1 with z2 _
  simp only [steps, List.mem_cons, List.not_mem_nil, or_false] at hs
  rcases hs with rfl | rfl | rfl | rfl | rfl | rfl <;> omega
theorem turn_nd {ws : List (List Nat)} (h : ws.Nodup) (a : Nat) : (ws.drop a ++ (ws.take a).reverse).Nodup := by
  have p : (ws.drop a ++ (ws.take a).reverse).Perm ws := by
    have h1 : (ws.drop a ++ (ws.take a).reverse).Perm (ws.drop a ++ ws.take a) := List.Perm.append_left _ (List.reverse_perm _)
    have h2 : (ws.drop a ++ ws.take a).Perm (ws.take a ++ ws.drop a) := List.perm_append_comm
    have h3 := h1.trans h2
    rwa [List.take_append_drop] at h3
  exact p.nodup_iff.mpr h
theorem turn_mem {α : Type} {ws : List α} {a : Nat} {x : α} (h : x ∈ ws.drop a ++ (ws.take a).reverse) : x ∈ ws := by
  rcases List.mem_append.mp h with h | h
  · exact List.mem_of_mem_drop h
  · exact List.mem_of_mem_take (List.mem_reverse.mp h)
theorem turn_len {α : Type} {ws : List α} {a : Nat} : (ws.drop a ++ (ws.take a).reverse).length = ws.length := by
  rw [List.length_append, List.length_reverse, List.length_drop, List.length_take]
  omega
/-- the letter at a place -/
theorem letter_at {r : Int} {n : Nat} (h : r = ((n % 26 : Nat) : Int)) : atI (("abcdefghijklmnopqrstuvwxyz" : Str)).cps.toList r = some (lt n) := by
  rw [letters_list, h, atI_nat (j := n % 26) (v := lt n)]
  rw [List.getElem?_map, List.getElem?_range (Nat.mod_lt _ (by decide))]
  simp [lt, Nat.add_comm]
end Law
end
section
set_option Elab.async false
set_option linter.all false
set_option maxRecDepth 100000
set_option maxHeartbeats 4000000
namespace Law
open PySem PySem.Spec PyProof.Rows L2 IK SX
theorem cut_S {l : List Nat} {i j : Nat} (h : i ≤ j) : cutS (S l) (some (i : Int)) (some (j : Int)) = S ((l.drop i).take (j - i)) := by
  unfold cutS
  rw [HT.sIx_nat, HT.sIx_nat, S_len]
  have e : (S l).cps.toList = l := rfl
  rw [e]
  congr 1
  have e2 : (l.drop (min i l.length)).take (min j l.length - min i l.length) = (l.drop i).take (j - i) := by
    by_cases hi : i ≤ l.length
    · rw [Nat.min_eq_left hi]
      by_cases hj : j ≤ l.length
      · rw [Nat.min_eq_left hj]
      · rw [Nat.min_eq_right (show l.length ≤ j by omega), List.take_of_length_le (by rw [List.length_drop]; exact Nat.le_refl _), List.take_of_length_le (by rw [List.length_drop]; omega)]
    · rw [Nat.min_eq_right (show l.length ≤ i by omega), List.drop_length, List.drop_eq_nil_of_le (show l.length ≤ i by omega)]
      simp
  rw [e2]
theorem cut_S_from {l : List Nat} {i : Nat} : cutS (S l) (some (i : Int)) none = S (l.drop i) := by
  unfold cutS
  rw [HT.sIx_nat, HT.sIx_none, S_len]
  have e : (S l).cps.toList = l := rfl
  rw [e]
  congr 1
  by_cases hi : i ≤ l.length
  · rw [Nat.min_eq_left hi, List.take_of_length_le (by rw [List.length_drop]; exact Nat.le_refl _)]
  · rw [Nat.min_eq_right (show l.length ≤ i by omega), List.drop_length, List.drop_eq_nil_of_le (show l.length ≤ i by omega)]
    simp
theorem cut_S_to {l : List Nat} {j : Nat} : cutS (S l) none (some (j : Int)) = S (l.take j) := by
  unfold cutS
  rw [HT.sIx_nat, HT.sIx_none, S_len]
  have e : (S l).cps.toList = l := rfl
  rw [e]
  congr 1
  rw [List.drop_zero, Nat.sub_zero]
  by_cases hj : j ≤ l.length
  · rw [Nat.min_eq_left hj]
  · rw [Nat.min_eq_right (show l.length ≤ j by omega), List.take_of_length_le (Nat.le_refl _), List.take_of_length_le (show l.length ≤ j by omega)]
theorem cutV_from {l : List V} {i : Nat} (h : i ≤ l.length) : cutV l (some (i : Int)) none = l.drop i := by
  unfold cutV
  rw [HT.sIx_nat, HT.sIx_none, Nat.min_eq_left h, List.take_of_length_le (by rw [List.length_drop]; exact Nat.le_refl _)]
theorem cutV_to {l : List V} {i : Nat} (h : i ≤ l.length) : cutV l none (some (i : Int)) = l.take i := by
  unfold cutV
  rw [HT.sIx_none, HT.sIx_nat, Nat.min_eq_left h, List.drop_zero, Nat.sub_zero]
theorem empty_S : ("" : Str) = S [] := by decide +kernel
theorem S_of (x : Str) : x = S x.cps.toList := rfl
theorem join_ones : ∀ cs : List Nat, TL.joinL [] (cs.map fun c => [c]) = cs
  | [] => rfl
  | [c] => rfl
  | c :: e :: r => by
    show [c] ++ ([] ++ TL.joinL [] ((e :: r).map fun c => [c])) = _
    rw [join_ones (e :: r)]
    rfl
theorem walk_rng {n : Nat} : Walk (Itr 0 n) n (fun _ => True) (fun i H x H' => H' = H ∧ x = .int (0 + (i : Nat))) := walk_range
/-- texts that are told by their place -/
theorem txts_of {n : Nat} {f : Nat → List Nat} {ys : List V} (hl : ys.length = n) (h : ∀ (i : Nat) (y : V), ys[i]? = some y → y = .str (S (f i))) : ys = txts ((List.range n).map f) := by
  refine List.ext_getElem? fun i => ?_
  by_cases hi : i < n
  · have e : ys[i]? = some ys[i] := List.getElem?_eq_getElem (by omega)
    rw [e, h i _ e, List.getElem?_map, List.getElem?_map, List.getElem?_range hi]
    rfl
  · rw [List.getElem?_eq_none_iff.mpr (by omega), List.getElem?_eq_none_iff.mpr (by simp; omega)]
theorem ones_of : ∀ {ys : List V}, (∀ (i : Nat) (y : V), ys[i]? = some y → ∃ c, letter c = true ∧ y = .str (S [c])) → ∃ cs : List Nat, cs.length = ys.length ∧ (∀ c ∈ cs, letter c = true) ∧ ys = (cs.map fun c => V.str (S [c]))
  | [], _ => ⟨[], rfl, (fun _ h => by cases h), rfl⟩
  | y :: ys, h => by
    obtain ⟨c, h1, rfl⟩ := h 0 y rfl
    obtain ⟨cs, h2, h3, h4⟩ := ones_of (ys := ys) fun i y e => h (i + 1) y (by simpa using e)
    refine ⟨c :: cs, by simp [h2], fun x hx => ?_, by simp [← h4]⟩
    rcases List.mem_cons.mp hx with rfl | hx
    · exact h1
    · exact h3 x hx
theorem bb_none {H H' : Hp} {p d : Addr} {c : Nat} (b : Bar p H H') (hp' : BoxAt H' p c) (h : H' d = none) : H d = none := by
  cases e : H d with
  | none => rfl
  | some o =>
    by_cases z : d = p
    · rw [z] at h
      exact absurd h hp'.some
    · rw [b d o z e] at h
      cases h
def spNames : Sp := fun vs H Q _ => ∃ (p : Addr) (m c : Nat), vs = [.ref p, .int m] ∧ BoxAt H p c ∧ c < 90000 ∧ m ≤ 12 ∧ ∀ d (ws : List (List Nat)) H', H d = none → H' d = some (.lst (txts ws)) → ws.length = m → ws.Nodup → (∀ w ∈ ws, isName w = true) → BoxAt H' p (c + 12) → Bar p H H' → Q (.ref d) H'
section
variable {P : Program} {w : World} {K : PySem.W.Frag} {mg : Str → Option Value} {base : Heap}
theorem ok_names {f : Addr} {fd : FuncData} (F : Fun K "_law_names" "_law_names" s__law_names f fd) (B : Blt mg) (DT : Dn P w K mg base CX0 1 "_law_take" ["_law_box_here", "_law_many"] spTake) : FnOk P w K mg base CX0 2 f fd ["_law_box_here", "_law_many"] spNames := by
  refine F.ok sc__law_names (fun vs H Q E h => ?_) (fun cdv A outer s H vs Q E hr h => ?_)
  · obtain ⟨p, m, c, rfl, _⟩ := h
    rfl
  · obtain ⟨p, m, c, rfl, hp, hc, hm, q⟩ := h
    refine ⟨_, (pss_cons (ps_set (i := 2) sc__law_names.nd rfl (.inr rfl) pe_str)
      (pss_cons (ps_set (i := 3) sc__law_names.nd rfl (.inl rfl) (pe_d DT (hr.mono (by decide)) (by rfl) pass0 (pa_cons (pv 0) (pa_cons pe_int pa_nil))))
      (pss_cons (ps_set (i := 4) sc__law_names.nd rfl (.inr rfl) (pe_d DT (hr.mono (by decide)) (by rfl) pass0 (pa_cons (pv 0) (pa_cons pe_int pa_nil))))
      (pss_cons (ps_set (i := 5) sc__law_names.nd rfl (.inr rfl) (pe_ix ix_list (pe_lst (pa_cons pe_int (pa_cons pe_int (pa_cons pe_int (pa_cons pe_int (pa_cons pe_int (pa_cons pe_int pa_nil))))))) (pe_d DT (hr.mono (by decide)) (by rfl) pass0 (pa_cons (pv 0) (pa_cons pe_int pa_nil))) (fun _ _ => rfl)))
      (pss_cons (ps_if (pt_cmpR op_eq (pv 3) pe_int (nomark _)) (pss_cons (ps_set (i := 6) sc__law_names.nd rfl (.inr rfl) (pe_split pe_str pe_str))
      (pss_one (ps_ret (pe_lc (own := [("_law_k", 11)]) (g := gName 11) (tt := tYes) rfl sc__law_names.nd (pi_range1 (by rfl) B.range (pa_cons (pv 1) pa_nil)) (blkOk_by (N := ["_law_box_here", "_law_many", "_law_letters", "_law_way", "_law_first", "_law_step", "_law_words", "_law_stem", "_law_found", "_law_at", "_law_long", "_law_k"]) (sc := defScope s__law_names) (by decide +kernel)) (fun _ _ _ _ _ => pg_name (i := 11) sc__law_names.nd rfl (Or.inl rfl)) (fun _ _ _ _ _ => pts_nil) (fun _ _ _ _ _ => (pe_ix (show IxR _ (rIxL K) from ix_list) (pv 6) (pe_op op_mod (pe_op op_add (pv 4) (pe_op op_mul (pv 5) (pv 11))) pe_int) (fun _ _ => rfl))))))) pss_nil)
      (pss_cons (ps_set (i := 7) sc__law_names.nd rfl (.inr rfl) (pe_join pe_str (pe_lc (own := [("_law_k", 11)]) (g := gName 11) (tt := tYes) rfl sc__law_names.nd (pi_range1 (by rfl) B.range (pa_cons pe_int pa_nil)) (blkOk_by (N := ["_law_box_here", "_law_many", "_law_letters", "_law_way", "_law_first", "_law_step", "_law_words", "_law_stem", "_law_found", "_law_at", "_law_long", "_law_k"]) (sc := defScope s__law_names) (by decide +kernel)) (fun _ _ _ _ _ => pg_name (i := 11) sc__law_names.nd rfl (Or.inl rfl)) (fun _ _ _ _ _ => pts_nil) (fun _ _ _ _ _ => (pe_ix ix_str (pv 2) (pe_d DT (hr.mono (by decide)) (by rfl) pass0 (pa_cons (pv 0) (pa_cons pe_int pa_nil))) (fun _ _ => rfl))))))
      (pss_cons (ps_if (pt_cmpR op_eq (pv 3) pe_int (nomark _)) (pss_cons (ps_setLc (i := 8) (own := [("_law_k", 11)]) (g := gName 11) (tt := tYes) rfl sc__law_names.nd rfl rfl (by rfl) (pi_range1 (by rfl) B.range (pa_cons (pv 1) pa_nil)) (blkOk_by (N := ["_law_box_here", "_law_many", "_law_letters", "_law_way", "_law_first", "_law_step", "_law_words", "_law_stem", "_law_found", "_law_at", "_law_long", "_law_k"]) (sc := defScope s__law_names) (by decide +kernel)) (fun _ _ _ _ _ => pg_name (i := 11) sc__law_names.nd rfl (Or.inl rfl)) (fun _ _ _ _ _ => pts_nil) (fun _ _ _ _ _ => (pe_op op_add_str (pe_ix ix_str (pv 2) (pe_op op_mod (pe_op op_add (pv 4) (pe_op op_fdiv (pv 11) pe_int)) pe_int) (fun _ _ => rfl)) (pe_slice sl_str (pv 7) po_none (po_some (pe_op op_mod (pv 11) pe_int))))))
      (pss_cons (ps_set (i := 9) sc__law_names.nd rfl (.inr rfl) (pe_d DT (hr.mono (by decide)) (by rfl) pass0 (pa_cons (pv 0) (pa_cons (pe_op op_add (pv 1) pe_int) pa_nil))))
      (pss_one (ps_ret (pe_op op_cat (pe_slice sl_list (pv 8) (po_some (pv 9)) po_none) (pe_revL (pe_slice sl_list (pv 8) po_none (po_some (pv 9))))))))) pss_nil)
      (pss_cons (ps_set (i := 9) sc__law_names.nd rfl (.inr rfl) (pe_d DT (hr.mono (by decide)) (by rfl) pass0 (pa_cons (pv 0) (pa_cons pe_int pa_nil))))
      (pss_cons (ps_set (i := 10) sc__law_names.nd rfl (.inr rfl) (pe_callB (call_max2 rfl) (by rfl) B.max (by decide +kernel) (pa_cons (pv 9) (pa_cons (pe_d DT (hr.mono (by decide)) (by rfl) pass0 (pa_cons (pv 0) (pa_cons pe_int pa_nil))) pa_nil))))
      (pss_one (ps_ret (pe_lc (own := [("_law_k", 11)]) (g := gName 11) (tt := tYes) rfl sc__law_names.nd (pi_range1 (by rfl) B.range (pa_cons (pv 1) pa_nil)) (blkOk_by (N := ["_law_box_here", "_law_many", "_law_letters", "_law_way", "_law_first", "_law_step", "_law_words", "_law_stem", "_law_found", "_law_at", "_law_long", "_law_k"]) (sc := defScope s__law_names) (by decide +kernel)) (fun _ _ _ _ _ => pg_name (i := 11) sc__law_names.nd rfl (Or.inl rfl)) (fun _ _ _ _ _ => pts_nil) (fun _ _ _ _ _ => (pe_op op_add_str (pe_op op_add_str (pe_slice sl_str (pv 7) po_none (po_some (pv 9))) (pe_ix ix_str (pv 2) (pe_op op_mod (pe_op op_add (pv 4) (pe_op op_mul (pv 5) (pv 11))) pe_int) (fun _ _ => rfl))) (pe_slice sl_str (pv 7) (po_some (pv 9)) (po_some (pv 10))))))))))))))))), ?_⟩
    refine ⟨_, rfl, p, 3, c, rfl, hp, by omega, by decide, by decide, fun way H1 w0 w1 hp1 b1 => ?_⟩
    refine ⟨_, rfl, p, 26, _, rfl, hp1, by omega, by decide, by decide, fun r H2 r0 r1 hp2 b2 => ?_⟩
    obtain ⟨f, rfl⟩ := Int.eq_ofNat_of_zero_le r0
    refine ⟨Nat.le_of_ble_eq_true rfl, fun l hl => ?_⟩
    generalize hXq : upd _ l _ = H3
    have s3 := laid_same hXq hl
    have e3 := laid_at hXq
    clear hXq
    have hp3 := hp2.same s3
    refine ⟨_, rfl, p, 6, _, rfl, hp3, by omega, by decide, by decide, fun r H4 t0 t1 hp4 b4 => ?_⟩
    obtain ⟨x, hx, hxm⟩ := at_drawn (xs := [V.int 1, V.int 3, V.int 5, V.int 7, V.int 9, V.int 11]) t0 t1
    have e4 : H4 l = some (.lst [V.int 1, V.int 3, V.int 5, V.int 7, V.int 9, V.int 11]) := hp3.nb b4 _ _ rfl e3
    obtain ⟨st, hst, rfl⟩ : ∃ st : Nat, st ∈ steps ∧ x = .int st := by
      simp only [List.mem_cons, List.not_mem_nil, or_false] at hxm
      rcases hxm with rfl | rfl | rfl | rfl | rfl | rfl
      · exact ⟨1, by decide, rfl⟩
      · exact ⟨3, by decide, rfl⟩
      · exact ⟨5, by decide, rfl⟩
      · exact ⟨7, by decide, rfl⟩
      · exact ⟨9, by decide, rfl⟩
      · exact ⟨11, by decide, rfl⟩
    have hst1 : st ≤ 11 := by
      simp only [steps, List.mem_cons, List.not_mem_nil, or_false] at hst
      omega
    have hst2 : -2 ^ 64 < (st : Int) ∧ (st : Int) < 2 ^ 64 := by omega
    refine ⟨l, _, r, _, rfl, rfl, SqL.of e4, hx, ?_⟩
    have bb := b1.trans (b2.trans ((Bar.same s3).trans b4))
    clear e3 e4 hx hxm
    have hp5 : BoxAt H4 p (c + 3) := hp4.mono (by omega)
    refine ⟨_, rfl, rfl, _, rfl, ?_⟩
    refine ite2 (fun hw => ?_) (fun hw => ?_)
    · refine ⟨⟨_, rfl⟩, _, _, rfl, rfl, by decide +kernel, by decide +kernel, fun a ha => ?_⟩
      rw [wl13_eq]
      generalize hXq : upd _ a _ = H5
      have s5 := laid_same hXq ha
      have e5 := laid_at hXq
      clear hXq
      have hp6 := hp5.same s5
      refine ⟨_, rfl, (m : Int), rfl, by omega, by omega, lc_walkB walk_rng 0 (fun i y _ => y = .str (S (nm0 f st i))) hp6 (by rw [Int.toNat_natCast]; exact Nat.lt_of_le_of_lt hm (by decide)) (fun _ _ => trivial) (fun _ _ _ _ _ e => e) (fun _ _ _ _ _ _ e => e) ?_ ?_⟩
      · rintro i x H kk hi rfl b hb kq
        refine ⟨rfl, _, rfl, _, rfl, _, rfl, _, rfl, _, _, rfl, rfl, .inl hst2, _, _, rfl, rfl, _, _, rfl, rfl, (by show (0 : Int) < 13; decide), ?_⟩
        have hh : (f + st * i) % 13 < wl13.length := Nat.mod_lt _ (by decide)
        refine ⟨a, _, _, .str (S (nm0 f st i)), rfl, rfl, SqL.of (hp6.nb b _ _ (by rfl) e5), ?_, ?_⟩
        · have e : ((f : Int) + st * (0 + (i : Int))) % 13 = (((f + st * i) % 13 : Nat) : Int) := by
            rw [Int.zero_add]
            norm_cast
          rw [e]
          refine atI_nat ?_
          rw [List.getElem?_map, List.getElem?_eq_getElem hh]
          unfold nm0
          rw [List.getElem?_eq_getElem hh]
          rfl
        · exact kq _ _ Bar.refl (hb.mono (by omega)) rfl
      · intro D ys H6 hD b hb hy hl hf
        rw [Int.toNat_natCast] at hl
        have e := txts_of hl hf
        rw [e] at hy
        refine q D _ H6 (bb_none bb hp5 (none_back s5 hD)) hy (by simp) (nm0_nd hst (by omega)) (fun x hx => ?_) (hb.mono (by omega)) (bb.trans ((Bar.same s5).trans b))
        obtain ⟨i, _, rfl⟩ := List.mem_map.mp hx
        exact nm0_name _ _ _
    refine ⟨⟨_, rfl⟩, 7, rfl, by decide, by decide, lc_walkB walk_rng 1 (fun i y _ => ∃ c, letter c = true ∧ y = .str (S [c])) hp5 (by decide) (fun _ _ => trivial) (fun _ _ _ _ _ e => e) (fun _ _ _ _ _ _ e => e) ?_ ?_⟩
    · rintro i x H kk hi rfl b hb kq
      have hi7 : i < 7 := hi
      refine ⟨rfl, _, rfl, _, rfl, p, 26, _, rfl, hb, by omega, by decide, by decide, fun r H7 q0 q1 hb7 b7 => ?_⟩
      obtain ⟨ch, hc1, hc2⟩ := at_drawn (xs := (("abcdefghijklmnopqrstuvwxyz" : Str)).cps.toList) q0 (by rw [letters_list]; exact q1)
      refine ⟨_, _, ch, rfl, rfl, by decide +kernel, hc1, ?_⟩
      refine kq _ _ b7 hb7 ⟨ch, ?_, rfl⟩
      rw [← in_letters]
      exact decide_eq_true hc2
    intro D ys H5 hD b5 hb5 hy hl hf
    obtain ⟨cs, hcl, hca, rfl⟩ := ones_of hf
    have hl7 : cs.length = 7 := by rw [hcl, hl]; rfl
    refine ⟨_, D, (cs.map fun c => [c]).map S, rfl, rfl, .inl (.inl (.inl (by rw [hy, List.map_map, List.map_map]; rfl))), ?_, ?_⟩
    · rw [List.map_map, List.map_map, List.length_map, List.length_map]
      have e : (cs.map ((fun x : Str => x.length) ∘ S ∘ fun c => [c])).sum = cs.length := by
        clear hcl hca hl hy hf hl7
        induction cs with
        | nil => rfl
        | cons c cs ih =>
          rw [List.map_cons, List.sum_cons, ih, List.length_cons]
          show (S [c]).length + _ = _
          rw [S_len]
          simp [Nat.add_comm]
      rw [show ("" : Str).length = 0 by decide +kernel]
      first
        | (rw [e, hl7]; decide)
        | (simp only [Function.comp_def] at e ⊢; rw [e, hl7]; decide)
    rw [empty_S, join_S, join_ones]
    have bb5 := bb.trans b5
    have hb5 : BoxAt H5 p (c + 10) := hb5.mono (by omega)
    clear hcl hy hl hf
    refine ⟨_, rfl, rfl, _, rfl, ?_⟩
    refine ite2 (fun hw1 => ?_) (fun hw1 => ?_)
    · refine ⟨_, rfl, (m : Int), rfl, by omega, by omega, lc_walkB walk_rng 0 (fun i y _ => y = .str (S (nm1 cs f i))) hb5 (by rw [Int.toNat_natCast]; exact Nat.lt_of_le_of_lt hm (by decide)) (fun _ _ => trivial) (fun _ _ _ _ _ e => e) (fun _ _ _ _ _ _ e => e) ?_ ?_⟩
      · rintro i x H kk hi rfl b hb kq
        have hi' : i < m := by rwa [Int.toNat_natCast] at hi
        refine ⟨rfl, _, rfl, _, rfl, _, rfl, _, _, rfl, rfl, ⟨by decide, by decide⟩, _, _, rfl, rfl, _, _, rfl, rfl, (by show (0 : Int) < 26; decide), ?_⟩
        refine ⟨_, _, lt (f + i / 8), rfl, rfl, by decide +kernel, letter_at (by rw [Int.zero_add]; norm_cast), ?_⟩
        refine ⟨_, rfl, _, rfl, _, _, rfl, rfl, (by show (0 : Int) < 8; decide), _, rfl, S cs, rfl, (by rw [S_len, hl7]; decide), ?_⟩
        have e : cutS (S cs) none (some ((0 + (i : Int)) % 8)) = S (cs.take (i % 8)) := by
          rw [Int.zero_add, show ((i : Int) % 8) = ((i % 8 : Nat) : Int) by norm_cast, cut_S_to]
        rw [e]
        refine ⟨_, _, rfl, rfl, Nat.le_trans (show _ ≤ 10 by rw [S_len]; show 1 + (S (cs.take (i % 8))).length ≤ 10; rw [S_len, List.length_take]; omega) (by decide), ?_⟩
        refine kq _ _ Bar.refl (hb.mono (by omega)) ?_
        show V.str (S [lt (f + i / 8)] ++ S (cs.take (i % 8))) = _
        rw [S_cat]
        rfl
      intro D2 ys H6 hD2 b6 hb6 hy hl hf
      rw [Int.toNat_natCast] at hl
      have e := txts_of hl hf
      rw [e] at hy
      have hnd := nm1_nd (st := cs) (f := f) hl7 (show m ≤ 13 by omega)
      have hnn : ∀ w ∈ (List.range m).map (nm1 cs f), isName w = true := fun x hx => by
        obtain ⟨i, _, rfl⟩ := List.mem_map.mp hx
        exact nm1_name hl7 hca _ _
      have hlen : ((List.range m).map (nm1 cs f)).length = m := by simp
      generalize (List.range m).map (nm1 cs f) = ws at hy hnd hnn hlen
      have bb6 := bb5.trans b6
      have hb6 : BoxAt H6 p (c + 10) := hb6.mono (by omega)
      clear e hf hl
      refine ⟨_, rfl, _, rfl, _, _, rfl, rfl, p, _, _, rfl, hb6, by omega, by omega, by omega, fun r H7 q0 q1 hb7 b7 => ?_⟩
      obtain ⟨a, rfl⟩ := Int.eq_ofNat_of_zero_le q0
      have hy7 := hb6.nb b7 _ _ nb_txts hy
      refine ⟨_, rfl, _, rfl, _, rfl, D2, _, rfl, .inl (.inl hy7), fun l1 hl1 => ?_⟩
      generalize hXq : upd _ l1 _ = H8
      have s1 := laid_same hXq hl1
      have e1 := laid_at hXq
      clear hXq
      refine ⟨_, rfl, _, rfl, _, rfl, D2, _, rfl, .inl (.inl (s1 _ _ hy7)), fun l2 hl2 => ?_⟩
      generalize hXq : upd _ l2 _ = H9
      have s2 := laid_same hXq hl2
      have e2 := laid_at hXq
      clear hXq
      refine ⟨l2, _, rfl, .inl (.inl e2), fun l3 hl3 => ?_⟩
      generalize hXq : upd _ l3 _ = H10
      have s3 := laid_same hXq hl3
      have e3 := laid_at hXq
      clear hXq
      have ca : a ≤ (txts ws).length := by rw [List.length_map]; omega
      rw [cutV_from ca] at e1
      rw [cutV_to ca] at e3
      refine ⟨l1, l3, _, _, rfl, rfl, s3 _ _ (s2 _ _ e1), e3, Nat.le_trans (show _ ≤ 100 by simp; omega) (by decide), fun l4 hl4 => ?_⟩
      generalize hXq : upd _ l4 _ = H11
      have s4 := laid_same hXq hl4
      have e4 := laid_at hXq
      clear hXq
      have sm := s1.trans (s2.trans (s3.trans s4))
      have e5 : H11 l4 = some (.lst (txts (ws.drop a ++ (ws.take a).reverse))) := by
        rw [e4]
        simp only [txts, List.map_append, List.map_drop, List.map_reverse, List.map_take]
      exact q l4 _ H11 (bb_none (bb6.trans b7) hb7 (none_back (s1.trans (s2.trans s3)) hl4)) e5 (by rw [turn_len, hlen]) (turn_nd hnd a) (fun x hx => hnn x (turn_mem hx)) ((hb7.same sm).mono (by omega)) (bb6.trans (b7.trans (Bar.same sm)))
    · refine ⟨_, rfl, p, 8, _, rfl, hb5, by omega, by decide, by decide, fun r H6 q0 q1 hb6 b6 => ?_⟩
      obtain ⟨a, rfl⟩ := Int.eq_ofNat_of_zero_le q0
      refine ⟨_, rfl, _, rfl, p, 8, _, rfl, hb6, by omega, by decide, by decide, fun r H7 u0 u1 hb7 b7 => ?_⟩
      obtain ⟨b, rfl⟩ := Int.eq_ofNat_of_zero_le u0
      refine ⟨_, _, rfl, ?_⟩
      have emax : (if (b : Int) > (a : Int) then (b : Int) else (a : Int)) = ((max a b : Nat) : Int) := by
        split <;> omega
      rw [emax]
      have bb7 := bb5.trans (b6.trans b7)
      have hb7 : BoxAt H7 p (c + 12) := hb7.mono (by omega)
      have mx : max a b ≤ 7 ∧ a ≤ max a b := by omega
      generalize max a b = g at mx ⊢
      refine ⟨_, rfl, (m : Int), rfl, by omega, by omega, lc_walkB walk_rng 0 (fun i y _ => y = .str (S (nm2 cs a g f st i))) hb7 (by rw [Int.toNat_natCast]; exact Nat.lt_of_le_of_lt hm (by decide)) (fun _ _ => trivial) (fun _ _ _ _ _ e => e) (fun _ _ _ _ _ _ e => e) ?_ ?_⟩
      · rintro i x H kk hi rfl b hb kq
        refine ⟨rfl, _, rfl, _, rfl, _, rfl, S cs, rfl, (by rw [S_len, hl7]; decide), ?_⟩
        refine ⟨_, rfl, _, rfl, _, rfl, _, rfl, _, _, rfl, rfl, .inl hst2, _, _, rfl, rfl, _, _, rfl, rfl, (by show (0 : Int) < 26; decide), ?_⟩
        refine ⟨_, _, lt (f + st * i), rfl, rfl, by decide +kernel, letter_at (by rw [Int.zero_add]; norm_cast), ?_⟩
        rw [cut_S_to]
        refine ⟨_, _, rfl, rfl, Nat.le_trans (show _ ≤ 10 by rw [S_len, List.length_take]; show _ + 1 ≤ 10; omega) (by decide), ?_⟩
        refine ⟨_, rfl, _, rfl, _, rfl, _, rfl, _, rfl, S cs, rfl, (by rw [S_len, hl7]; decide), ?_⟩
        rw [cut_S mx.2]
        have es : S (cs.take a) ++ (⟨#[lt (f + st * i)]⟩ : Str) = S (cs.take a ++ [lt (f + st * i)]) := S_cat (cs.take a) [lt (f + st * i)]
        rw [es]
        refine ⟨_, _, rfl, rfl, Nat.le_trans (show _ ≤ 20 by rw [S_len, S_len]; simp; omega) (by decide), ?_⟩
        refine kq _ _ Bar.refl (hb.mono (by omega)) ?_
        rw [S_cat, nm2, List.append_assoc]
        rfl
      intro D2 ys H8 hD2 b8 hb8 hy hl hf
      rw [Int.toNat_natCast] at hl
      have e := txts_of hl hf
      rw [e] at hy
      refine q D2 _ H8 (bb_none bb7 hb7 hD2) hy (by simp) (nm2_nd hst (by omega)) (fun x hx => ?_) (hb8.mono (by omega)) (bb7.trans b8)
      obtain ⟨i, _, rfl⟩ := List.mem_map.mp hx
      exact nm2_name hl7 hca (by omega) mx.1 _ _ _
end
end Law
end
section
set_option Elab.async false
set_option linter.all false
set_option maxRecDepth 100000
set_option maxHeartbeats 4000000
namespace Law
open PySem PySem.Spec PyProof.Rows L2 IK SX
/-! ### the worlds that are drawn -/
def spLChan : Sp := fun vs H Q _ => ∃ (p a : Addr) (nm : List Nat) (ps : List (List Nat)) (c : Nat), vs = [.ref p, .str (S nm), .ref a] ∧ BoxAt H p c ∧ c < 80000 ∧ H a = some (.lst (txts ps)) ∧ 2 ≤ ps.length ∧ ps.length ≤ 8 ∧ ps.Nodup ∧ (∀ w ∈ ps, isName w = true) ∧ isName nm = true ∧
  ∀ t (x : Chan) H', H t = none → x.name = nm → x.Good → x.one ∈ ps → x.other ∈ ps → H' t = some (.tup x.vals) → BoxAt H' p (c + 12) → Bar p H H' → Q (.ref t) H'
def spLBrk : Sp := fun vs H Q _ => ∃ (p a : Addr) (nm : List Nat) (ps : List (List Nat)) (c : Nat), vs = [.ref p, .str (S nm), .ref a] ∧ BoxAt H p c ∧ c < 80000 ∧ H a = some (.lst (txts ps)) ∧ 1 ≤ ps.length ∧ ps.length ≤ 8 ∧ (∀ w ∈ ps, isName w = true) ∧ isName nm = true ∧
  ∀ t (x : Brk) H', H t = none → x.name = nm → x.Good → x.port ∈ ps → H' t = some (.tup x.vals) → BoxAt H' p (c + 12) → Bar p H H' → Q (.ref t) H'
def spLShp : Sp := fun vs H Q _ => ∃ (p a : Addr) (nm : List Nat) (ps : List (List Nat)) (c : Nat), vs = [.ref p, .str (S nm), .ref a] ∧ BoxAt H p c ∧ c < 80000 ∧ H a = some (.lst (txts ps)) ∧ 1 ≤ ps.length ∧ ps.length ≤ 8 ∧ (∀ w ∈ ps, isName w = true) ∧ isName nm = true ∧
  ∀ t (x : Shp) H', H t = none → x.name = nm → x.Good → x.port ∈ ps → x.goal ∈ ps → H' t = some (.tup x.row) → BoxAt H' p (c + 12) → Bar p H H' → Q (.ref t) H'
def spFew : Sp := fun vs H Q _ => ∃ (p : Addr) (c : Nat), vs = [.ref p] ∧ BoxAt H p c ∧ c < 80000 ∧ ∀ (l : Addr) (z1 z2 z3 z4 : Nat) H', 1 ≤ z1 ∧ z1 ≤ 8 → z2 ≤ 12 → z3 ≤ 4 → z4 ≤ 6 → H' l = some (.lst [.int (z1 : Int), .int (z2 : Int), .int (z3 : Int), .int (z4 : Int)]) → BoxAt H' p (c + 5) → Bar p H H' → Q (.ref l) H'
theorem other_ne {i j n : Nat} (hi : i < n) (hj : j + 1 < n) : (i + 1 + j) % n < n ∧ (i + 1 + j) % n ≠ i := by
  refine ⟨Nat.mod_lt _ (by omega), ?_⟩
  by_cases h : i + 1 + j < n
  · rw [Nat.mod_eq_of_lt h]
    omega
  · rw [Nat.mod_eq_sub_mod (by omega), Nat.mod_eq_of_lt (by omega)]
    omega
theorem port_at {ps : List (List Nat)} {i : Nat} (h : i < ps.length) : atI (txts ps) (i : Int) = some (.str (S ps[i])) := atI_nat (by rw [List.getElem?_map, List.getElem?_eq_getElem h]; rfl)
section
variable {P : Program} {w : World} {K : PySem.W.Frag} {mg : Str → Option Value} {base : Heap}
theorem ok_lchan {f : Addr} {fd : FuncData} (F : Fun K "_law_channel" "_law_channel" s__law_channel f fd) (B : Blt mg) (DT : Dn P w K mg base CX0 1 "_law_take" ["_law_box_here", "_law_many"] spTake) (DN : Dn P w K mg base CX0 2 "_law_number" ["_law_box_here", "_law_low", "_law_high"] spNumber) :
    FnOk P w K mg base CX0 3 f fd ["_law_box_here", "_law_name", "_law_ports"] spLChan := by
  refine F.ok sc__law_channel (fun vs H Q E h => ?_) (fun cdv A outer s H vs Q E hr h => ?_)
  · obtain ⟨p, a, nm, ps, c, rfl, _⟩ := h
    rfl
  · obtain ⟨p, a, nm, ps, c, rfl, hp, hc, ha, l1, l2, nd, hps, hnm, q⟩ := h
    refine ⟨_, (pss_cons (ps_set (i := 3) sc__law_channel.nd rfl (.inl rfl) (pe_d DT (hr.mono (by decide)) (by rfl) pass0 (pa_cons (pv 0) (pa_cons (pe_callB call_len_seq (by rfl) B.len PySem.boot_len (pa_cons (pv 2) pa_nil)) pa_nil))))
      (pss_cons (ps_set (i := 4) sc__law_channel.nd rfl (.inl rfl) (pe_op op_mod (pe_op op_add (pe_op op_add (pv 3) pe_int) (pe_d DT (hr.mono (by decide)) (by rfl) pass0 (pa_cons (pv 0) (pa_cons (pe_op op_sub (pe_callB call_len_seq (by rfl) B.len PySem.boot_len (pa_cons (pv 2) pa_nil)) pe_int) pa_nil)))) (pe_callB call_len_seq (by rfl) B.len PySem.boot_len (pa_cons (pv 2) pa_nil))))
      (pss_cons (ps_set (i := 5) sc__law_channel.nd rfl (.inl rfl) (pe_d DN (hr.mono (by decide)) (by rfl) pass0 (pa_cons (pv 0) (pa_cons pe_int (pa_cons (pe_op op_pow pe_int pe_int) pa_nil)))))
      (pss_cons (ps_set (i := 6) sc__law_channel.nd rfl (.inl rfl) (pe_tup (pa_cons (pv 1) (pa_cons (pe_ix ix_list (pv 2) (pv 3) (fun _ _ => rfl)) (pa_cons (pe_ix ix_list (pv 2) (pv 4) (fun _ _ => rfl)) (pa_cons (pe_d DN (hr.mono (by decide)) (by rfl) pass0 (pa_cons (pv 0) (pa_cons pe_int (pa_cons pe_int pa_nil)))) (pa_cons (pe_d DN (hr.mono (by decide)) (by rfl) pass0 (pa_cons (pv 0) (pa_cons pe_int (pa_cons pe_int pa_nil)))) (pa_cons (pv 5) pa_nil))))))))
      (pss_one (ps_ret (pe_op op_catT (pv 6) (pe_tup (pa_cons (pe_d DN (hr.mono (by decide)) (by rfl) pass0 (pa_cons (pv 0) (pa_cons pe_int (pa_cons pe_int pa_nil)))) (pa_cons (pe_d DN (hr.mono (by decide)) (by rfl) pass0 (pa_cons (pv 0) (pa_cons (pv 5) (pa_cons (pe_op op_pow pe_int pe_int) pa_nil)))) pa_nil)))))))))), ?_⟩
    have len : (txts ps).length = ps.length := List.length_map _
    refine ⟨_, rfl, _, rfl, a, _, rfl, SqA.l ha, p, _, c, rfl, hp, by omega, by rw [len]; omega, by rw [len]; omega, fun r H1 r0 r1 hp1 b1 => ?_⟩
    obtain ⟨i, rfl⟩ := Int.eq_ofNat_of_zero_le r0
    have hi : i < ps.length := by rw [len] at r1; omega
    have ha1 := hp.nb b1 _ _ nb_txts ha
    refine ⟨_, rfl, _, _, rfl, rfl, _, rfl, _, rfl, a, _, rfl, SqA.l ha1, _, _, rfl, rfl, p, _, _, rfl, hp1, by omega, by rw [len]; omega, by rw [len]; omega, fun r H2 q0 q1 hp2 b2 => ?_⟩
    obtain ⟨j, rfl⟩ := Int.eq_ofNat_of_zero_le q0
    have hj : j + 1 < ps.length := by rw [len] at q1; omega
    have ha2 := hp1.nb b2 _ _ nb_txts ha1
    refine ⟨_, _, rfl, rfl, _, rfl, a, _, rfl, SqA.l ha2, _, _, rfl, rfl, (by show (0 : Int) < ((txts ps).length : Int); rw [len]; omega), ?_⟩
    obtain ⟨k1, k2⟩ := other_ne hi hj
    have eo : ((i : Int) + 1 + (j : Int)) % ((txts ps).length : Int) = (((i + 1 + j) % ps.length : Nat) : Int) := by
      rw [len]
      norm_cast
    dsimp only
    rw [eo]
    generalize (i + 1 + j) % ps.length = o at k1 k2 ⊢
    refine ⟨_, rfl, _, _, rfl, rfl, ⟨by decide, by decide, by decide⟩, p, 0, 1000000, _, rfl, hp2, by omega, by decide, by decide, fun fi H3 f0 f1 hp3 b3 => ?_⟩
    have ha3 := hp2.nb b3 _ _ nb_txts ha2
    refine ⟨_, rfl, _, rfl, _, rfl, a, _, _, _, rfl, rfl, SqL.of ha3, port_at hi, _, rfl, _, rfl, a, _, _, _, rfl, rfl, SqL.of ha3, port_at k1, ?_⟩
    refine ⟨_, rfl, p, 1, 1000, _, rfl, hp3, by omega, by decide, by decide, fun n1 H4 n10 n11 hp4 b4 => ?_⟩
    refine ⟨_, rfl, p, 0, 1000, _, rfl, hp4, by omega, by decide, by decide, fun n2 H5 n20 n21 hp5 b5 => ?_⟩
    refine ⟨_, rfl, ?_⟩
    refine ⟨Nat.le_of_ble_eq_true rfl, fun t ht => ?_⟩
    generalize hXq : upd _ t _ = H6
    have s6 := laid_same hXq ht
    have e6 := laid_at hXq
    clear hXq
    have hp6 := hp5.same s6
    refine ⟨_, rfl, _, rfl, p, 0, 1000, _, rfl, hp6, by omega, by decide, by decide, fun n3 H7 n30 n31 hp7 b7 => ?_⟩
    refine ⟨_, rfl, _, rfl, _, _, rfl, rfl, ⟨by decide, by decide, by decide⟩, p, fi, 1000000, _, rfl, hp7, by omega, f1, by omega, fun n4 H8 n40 n41 hp8 b8 => ?_⟩
    refine ⟨Nat.le_of_ble_eq_true rfl, fun u hu => ?_⟩
    generalize hXq : upd _ u _ = H9
    have s9 := laid_same hXq hu
    have e9 := laid_at hXq
    clear hXq
    have hp9 := hp8.same s9
    have e6' := s9 _ _ (hp7.nb b8 _ _ rfl (hp6.nb b7 _ _ rfl e6))
    refine ⟨t, u, _, _, rfl, rfl, .inl (.inl e6'), .inl (.inl e9), (by intro z; cases z), Nat.le_of_ble_eq_true rfl, (fun z => by cases z), fun _ d hd => ?_⟩
    generalize hXq : upd _ d _ = H10
    have s10 := laid_same hXq hd
    have e10 := laid_at hXq
    clear hXq
    have bb := b1.trans (b2.trans (b3.trans (b4.trans (b5.trans ((Bar.same s6).trans (b7.trans (b8.trans (Bar.same s9))))))))
    have ne : ps[i] ≠ ps[o] := fun z => k2 ((List.getElem_inj nd).mp z).symm
    exact q d ⟨nm, ps[i], ps[o], n1, n2, fi, n3, n4⟩ H10 (bb_none bb hp9 hd) rfl ⟨hnm, hps _ (List.getElem_mem _), hps _ (List.getElem_mem _), ne, ⟨n10, n11⟩, ⟨n20, n21⟩, ⟨f0, f1⟩, ⟨n30, n31⟩, ⟨n40, n41⟩⟩ (List.getElem_mem _) (List.getElem_mem _) e10 ((hp9.same s10).mono (by omega)) (bb.trans (Bar.same s10))
theorem ok_lbrk {f : Addr} {fd : FuncData} (F : Fun K "_law_breaker" "_law_breaker" s__law_breaker f fd) (B : Blt mg) (DT : Dn P w K mg base CX0 1 "_law_take" ["_law_box_here", "_law_many"] spTake) (DN : Dn P w K mg base CX0 2 "_law_number" ["_law_box_here", "_law_low", "_law_high"] spNumber) :
    FnOk P w K mg base CX0 3 f fd ["_law_box_here", "_law_name", "_law_ports"] spLBrk := by
  refine F.ok sc__law_breaker (fun vs H Q E h => ?_) (fun cdv A outer s H vs Q E hr h => ?_)
  · obtain ⟨p, a, nm, ps, c, rfl, _⟩ := h
    rfl
  · obtain ⟨p, a, nm, ps, c, rfl, hp, hc, ha, l1, l2, hps, hnm, q⟩ := h
    refine ⟨_, (pss_cons (ps_set (i := 3) sc__law_breaker.nd rfl (.inl rfl) (pe_tup (pa_cons (pv 1) (pa_cons (pe_ix ix_list (pv 2) (pe_d DT (hr.mono (by decide)) (by rfl) pass0 (pa_cons (pv 0) (pa_cons (pe_callB call_len_seq (by rfl) B.len PySem.boot_len (pa_cons (pv 2) pa_nil)) pa_nil))) (fun _ _ => rfl)) (pa_cons (pe_d DN (hr.mono (by decide)) (by rfl) pass0 (pa_cons (pv 0) (pa_cons pe_int (pa_cons (pe_op op_pow pe_int pe_int) pa_nil)))) (pa_cons (pe_d DN (hr.mono (by decide)) (by rfl) pass0 (pa_cons (pv 0) (pa_cons pe_int (pa_cons (pe_op op_pow pe_int pe_int) pa_nil)))) pa_nil))))))
      (pss_one (ps_ret (pe_op op_catT (pv 3) (pe_tup (pa_cons (pe_d DN (hr.mono (by decide)) (by rfl) pass0 (pa_cons (pv 0) (pa_cons pe_int (pa_cons pe_int pa_nil)))) (pa_cons (pe_d DN (hr.mono (by decide)) (by rfl) pass0 (pa_cons (pv 0) (pa_cons pe_int (pa_cons (pe_op op_pow pe_int pe_int) pa_nil)))) pa_nil))))))), ?_⟩
    have len : (txts ps).length = ps.length := List.length_map _
    refine ⟨_, rfl, _, rfl, _, rfl, _, rfl, a, _, rfl, SqA.l ha, p, _, c, rfl, hp, by omega, by rw [len]; omega, by rw [len]; omega, fun r H1 r0 r1 hp1 b1 => ?_⟩
    obtain ⟨i, rfl⟩ := Int.eq_ofNat_of_zero_le r0
    have hi : i < ps.length := by rw [len] at r1; omega
    have ha1 := hp.nb b1 _ _ nb_txts ha
    refine ⟨a, _, _, _, rfl, rfl, SqL.of ha1, port_at hi, ?_⟩
    refine ⟨_, rfl, _, _, rfl, rfl, ⟨by decide, by decide, by decide⟩, p, 0, 1000000, _, rfl, hp1, by omega, by decide, by decide, fun n1 H2 n10 n11 hp2 b2 => ?_⟩
    refine ⟨_, rfl, _, _, rfl, rfl, ⟨by decide, by decide, by decide⟩, p, 0, 1000000, _, rfl, hp2, by omega, by decide, by decide, fun n2 H3 n20 n21 hp3 b3 => ?_⟩
    refine ⟨Nat.le_of_ble_eq_true rfl, fun t ht => ?_⟩
    generalize hXq : upd _ t _ = H6
    have s6 := laid_same hXq ht
    have e6 := laid_at hXq
    clear hXq
    have hp6 := hp3.same s6
    refine ⟨_, rfl, _, rfl, p, 0, 1000, _, rfl, hp6, by omega, by decide, by decide, fun n3 H7 n30 n31 hp7 b7 => ?_⟩
    refine ⟨_, rfl, _, _, rfl, rfl, ⟨by decide, by decide, by decide⟩, p, 1, 1000000, _, rfl, hp7, by omega, by decide, by decide, fun n4 H8 n40 n41 hp8 b8 => ?_⟩
    refine ⟨Nat.le_of_ble_eq_true rfl, fun u hu => ?_⟩
    generalize hXq : upd _ u _ = H9
    have s9 := laid_same hXq hu
    have e9 := laid_at hXq
    clear hXq
    have hp9 := hp8.same s9
    have e6' := s9 _ _ (hp7.nb b8 _ _ rfl (hp6.nb b7 _ _ rfl e6))
    refine ⟨t, u, _, _, rfl, rfl, .inl (.inl e6'), .inl (.inl e9), (by intro z; cases z), Nat.le_of_ble_eq_true rfl, (fun z => by cases z), fun _ d hd => ?_⟩
    generalize hXq : upd _ d _ = H10
    have s10 := laid_same hXq hd
    have e10 := laid_at hXq
    clear hXq
    have bb := b1.trans (b2.trans (b3.trans ((Bar.same s6).trans (b7.trans (b8.trans (Bar.same s9))))))
    exact q d ⟨⟨nm, ps[i], n1, n2, n3⟩, n4⟩ H10 (bb_none bb hp9 hd) rfl ⟨⟨hnm, hps _ (List.getElem_mem _), ⟨n10, n11⟩, ⟨n20, n21⟩, ⟨n30, n31⟩⟩, ⟨n40, n41⟩⟩ (List.getElem_mem _) e10 ((hp9.same s10).mono (by omega)) (bb.trans (Bar.same s10))
theorem ok_lshp {f : Addr} {fd : FuncData} (F : Fun K "_law_ship" "_law_ship" s__law_ship f fd) (B : Blt mg) (DT : Dn P w K mg base CX0 1 "_law_take" ["_law_box_here", "_law_many"] spTake) (DN : Dn P w K mg base CX0 2 "_law_number" ["_law_box_here", "_law_low", "_law_high"] spNumber) :
    FnOk P w K mg base CX0 3 f fd ["_law_box_here", "_law_name", "_law_ports"] spLShp := by
  refine F.ok sc__law_ship (fun vs H Q E h => ?_) (fun cdv A outer s H vs Q E hr h => ?_)
  · obtain ⟨p, a, nm, ps, c, rfl, _⟩ := h
    rfl
  · obtain ⟨p, a, nm, ps, c, rfl, hp, hc, ha, l1, l2, hps, hnm, q⟩ := h
    refine ⟨_, (pss_cons (ps_set (i := 3) sc__law_ship.nd rfl (.inl rfl) (pe_tup (pa_cons (pv 1) (pa_cons (pe_ix ix_list (pv 2) (pe_d DT (hr.mono (by decide)) (by rfl) pass0 (pa_cons (pv 0) (pa_cons (pe_callB call_len_seq (by rfl) B.len PySem.boot_len (pa_cons (pv 2) pa_nil)) pa_nil))) (fun _ _ => rfl)) (pa_cons (pe_ix ix_list (pv 2) (pe_d DT (hr.mono (by decide)) (by rfl) pass0 (pa_cons (pv 0) (pa_cons (pe_callB call_len_seq (by rfl) B.len PySem.boot_len (pa_cons (pv 2) pa_nil)) pa_nil))) (fun _ _ => rfl)) pa_nil)))))
      (pss_cons (ps_set (i := 3) sc__law_ship.nd rfl (.inl rfl) (pe_op op_catT (pv 3) (pe_tup (pa_cons (pe_d DN (hr.mono (by decide)) (by rfl) pass0 (pa_cons (pv 0) (pa_cons pe_int (pa_cons (pe_op op_pow pe_int pe_int) pa_nil)))) (pa_cons (pe_d DN (hr.mono (by decide)) (by rfl) pass0 (pa_cons (pv 0) (pa_cons pe_int (pa_cons (pe_op op_pow pe_int pe_int) pa_nil)))) pa_nil)))))
      (pss_one (ps_ret (pe_op op_catT (pv 3) (pe_tup (pa_cons (pe_d DN (hr.mono (by decide)) (by rfl) pass0 (pa_cons (pv 0) (pa_cons pe_int (pa_cons pe_int pa_nil)))) pa_nil))))))), ?_⟩
    have len : (txts ps).length = ps.length := List.length_map _
    refine ⟨_, rfl, _, rfl, _, rfl, _, rfl, a, _, rfl, SqA.l ha, p, _, c, rfl, hp, by omega, by rw [len]; omega, by rw [len]; omega, fun r H1 r0 r1 hp1 b1 => ?_⟩
    obtain ⟨i, rfl⟩ := Int.eq_ofNat_of_zero_le r0
    have hi : i < ps.length := by rw [len] at r1; omega
    have ha1 := hp.nb b1 _ _ nb_txts ha
    refine ⟨a, _, _, _, rfl, rfl, SqL.of ha1, port_at hi, ?_⟩
    refine ⟨_, rfl, _, rfl, _, rfl, a, _, rfl, SqA.l ha1, p, _, _, rfl, hp1, by omega, by rw [len]; omega, by rw [len]; omega, fun r H2 q0 q1 hp2 b2 => ?_⟩
    obtain ⟨j, rfl⟩ := Int.eq_ofNat_of_zero_le q0
    have hj : j < ps.length := by rw [len] at q1; omega
    have ha2 := hp1.nb b2 _ _ nb_txts ha1
    refine ⟨a, _, _, _, rfl, rfl, SqL.of ha2, port_at hj, ?_⟩
    refine ⟨Nat.le_of_ble_eq_true rfl, fun t ht => ?_⟩
    generalize hXq : upd _ t _ = H3
    have s3 := laid_same hXq ht
    have e3 := laid_at hXq
    clear hXq
    have hp3 := hp2.same s3
    refine ⟨_, rfl, _, rfl, _, _, rfl, rfl, ⟨by decide, by decide, by decide⟩, p, 0, 1000000, _, rfl, hp3, by omega, by decide, by decide, fun n1 H4 n10 n11 hp4 b4 => ?_⟩
    refine ⟨_, rfl, _, _, rfl, rfl, ⟨by decide, by decide, by decide⟩, p, 0, 1000000, _, rfl, hp4, by omega, by decide, by decide, fun n2 H5 n20 n21 hp5 b5 => ?_⟩
    refine ⟨Nat.le_of_ble_eq_true rfl, fun u hu => ?_⟩
    generalize hXq : upd _ u _ = H6
    have s6 := laid_same hXq hu
    have e6 := laid_at hXq
    clear hXq
    have hp6 := hp5.same s6
    have e3' := s6 _ _ (hp4.nb b5 _ _ rfl (hp3.nb b4 _ _ rfl e3))
    refine ⟨t, u, _, _, rfl, rfl, .inl (.inl e3'), .inl (.inl e6), (by intro z; cases z), Nat.le_of_ble_eq_true rfl, (fun z => by cases z), fun _ t2 ht2 => ?_⟩
    generalize hXq : upd _ t2 _ = H7
    have s7 := laid_same hXq ht2
    have e7 := laid_at hXq
    clear hXq
    have hp7 := hp6.same s7
    refine ⟨_, rfl, _, rfl, p, 0, 1000, _, rfl, hp7, by omega, by decide, by decide, fun n3 H8 n30 n31 hp8 b8 => ?_⟩
    refine ⟨Nat.le_of_ble_eq_true rfl, fun u2 hu2 => ?_⟩
    generalize hXq : upd _ u2 _ = H9
    have s9 := laid_same hXq hu2
    have e9 := laid_at hXq
    clear hXq
    have hp9 := hp8.same s9
    have e7' := s9 _ _ (hp7.nb b8 _ _ rfl e7)
    refine ⟨t2, u2, _, _, rfl, rfl, .inl (.inl e7'), .inl (.inl e9), (by intro z; cases z), Nat.le_of_ble_eq_true rfl, (fun z => by cases z), fun _ d hd => ?_⟩
    generalize hXq : upd _ d _ = H10
    have s10 := laid_same hXq hd
    have e10 := laid_at hXq
    clear hXq
    have bb := b1.trans (b2.trans ((Bar.same s3).trans (b4.trans (b5.trans ((Bar.same s6).trans ((Bar.same s7).trans (b8.trans (Bar.same s9))))))))
    exact q d ⟨⟨nm, ps[i], n1, n2, n3⟩, ps[j]⟩ H10 (bb_none bb hp9 hd) rfl ⟨⟨hnm, hps _ (List.getElem_mem _), ⟨n10, n11⟩, ⟨n20, n21⟩, ⟨n30, n31⟩⟩, hps _ (List.getElem_mem _)⟩ (List.getElem_mem _) (List.getElem_mem _) e10 ((hp9.same s10).mono (by omega)) (bb.trans (Bar.same s10))
theorem ok_few {f : Addr} {fd : FuncData} (F : Fun K "_law_few" "_law_few" s__law_few f fd) (DT : Dn P w K mg base CX0 1 "_law_take" ["_law_box_here", "_law_many"] spTake) : FnOk P w K mg base CX0 2 f fd ["_law_box_here"] spFew := by
  refine F.ok sc__law_few (fun vs H Q E h => ?_) (fun cdv A outer s H vs Q E hr h => ?_)
  · obtain ⟨p, c, rfl, _⟩ := h
    rfl
  · obtain ⟨p, c, rfl, hp, hc, q⟩ := h
    refine ⟨_, (pss_cons (ps_set (i := 1) sc__law_few.nd rfl (.inl rfl) (pe_d DT (hr.mono (by decide)) (by rfl) pass0 (pa_cons (pv 0) (pa_cons pe_int pa_nil))))
      (pss_cons (ps_set (i := 2) sc__law_few.nd rfl (.inl rfl) (pe_lst (pa_cons (pe_op op_add pe_int (pe_d DT (hr.mono (by decide)) (by rfl) pass0 (pa_cons (pv 0) (pa_cons pe_int pa_nil)))) (pa_cons (pe_d DT (hr.mono (by decide)) (by rfl) pass0 (pa_cons (pv 0) (pa_cons pe_int pa_nil))) (pa_cons (pe_d DT (hr.mono (by decide)) (by rfl) pass0 (pa_cons (pv 0) (pa_cons pe_int pa_nil))) (pa_cons (pe_d DT (hr.mono (by decide)) (by rfl) pass0 (pa_cons (pv 0) (pa_cons pe_int pa_nil))) pa_nil))))))
      (pss_one (ps_ret (pe_ix ix_list (pe_lst (pa_cons (pe_lst (pa_cons pe_int (pa_cons pe_int (pa_cons pe_int (pa_cons pe_int pa_nil))))) (pa_cons (pe_lst (pa_cons pe_int (pa_cons pe_int (pa_cons pe_int (pa_cons pe_int pa_nil))))) (pa_cons (pv 2) (pa_cons (pv 2) (pa_cons (pv 2) (pa_cons (pv 2) pa_nil))))))) (pv 1) (fun _ _ => rfl)))))), ?_⟩
    refine ⟨_, rfl, p, 6, c, rfl, hp, by omega, by decide, by decide, fun r H1 r0 r1 hp1 b1 => ?_⟩
    refine ⟨_, rfl, p, 8, _, rfl, hp1, by omega, by decide, by decide, fun n1 H2 n10 n11 hp2 b2 => ?_⟩
    refine ⟨_, _, rfl, rfl, ?_⟩
    refine ⟨_, rfl, p, 13, _, rfl, hp2, by omega, by decide, by decide, fun n2 H3 n20 n21 hp3 b3 => ?_⟩
    refine ⟨_, rfl, p, 5, _, rfl, hp3, by omega, by decide, by decide, fun n3 H4 n30 n31 hp4 b4 => ?_⟩
    refine ⟨_, rfl, p, 7, _, rfl, hp4, by omega, by decide, by decide, fun n4 H5 n40 n41 hp5 b5 => ?_⟩
    refine ⟨Nat.le_of_ble_eq_true rfl, fun l hl => ?_⟩
    generalize hXq : upd _ l _ = H6
    have s6 := laid_same hXq hl
    have e6 := laid_at hXq
    clear hXq
    refine ⟨Nat.le_of_ble_eq_true rfl, fun l1 hl1 => ?_⟩
    generalize hXq : upd _ l1 _ = H7
    have s7 := laid_same hXq hl1
    have e7 := laid_at hXq
    clear hXq
    refine ⟨Nat.le_of_ble_eq_true rfl, fun l2 hl2 => ?_⟩
    generalize hXq : upd _ l2 _ = H8
    have s8 := laid_same hXq hl2
    have e8 := laid_at hXq
    clear hXq
    refine ⟨_, rfl, _, rfl, _, rfl, _, rfl, ?_⟩
    refine ⟨Nat.le_of_ble_eq_true rfl, fun l3 hl3 => ?_⟩
    generalize hXq : upd _ l3 _ = H9
    have s9 := laid_same hXq hl3
    have e9 := laid_at hXq
    clear hXq
    have e6 := s9 _ _ (s8 _ _ (s7 _ _ e6))
    have e7 := s9 _ _ (s8 _ _ e7)
    have e8 := s9 _ _ e8
    obtain ⟨x, hx, hm⟩ := at_drawn (xs := [V.ref l1, V.ref l2, V.ref l, V.ref l, V.ref l, V.ref l]) r0 r1
    refine ⟨_, rfl, l3, _, _, x, rfl, rfl, SqL.of e9, hx, ?_⟩
    have sm := s6.trans (s7.trans (s8.trans s9))
    have hb := (hp5.same sm).mono (show c + 1 + 1 + 1 + 1 + 1 ≤ c + 5 by omega)
    have bb := b1.trans (b2.trans (b3.trans (b4.trans (b5.trans (Bar.same sm)))))
    simp only [List.mem_cons, List.not_mem_nil, or_false] at hm
    rcases hm with rfl | rfl | rfl | rfl | rfl | rfl
    · exact q l1 8 12 4 6 H9 (by decide) (by decide) (by decide) (by decide) e7 hb bb
    · exact q l2 1 0 4 6 H9 (by decide) (by decide) (by decide) (by decide) e8 hb bb
    all_goals
      obtain ⟨m1, rfl⟩ := Int.eq_ofNat_of_zero_le n10
      obtain ⟨m2, rfl⟩ := Int.eq_ofNat_of_zero_le n20
      obtain ⟨m3, rfl⟩ := Int.eq_ofNat_of_zero_le n30
      obtain ⟨m4, rfl⟩ := Int.eq_ofNat_of_zero_le n40
      refine q _ (1 + m1) m2 m3 m4 H9 (by omega) (by omega) (by omega) (by omega) ?_ hb bb
      rw [e6]
      norm_cast
end
end Law
end
section
set_option Elab.async false
set_option linter.all false
set_option maxRecDepth 100000
set_option maxHeartbeats 4000000
namespace Law
open PySem PySem.Spec PyProof.Rows L2 IK SX
theorem collect {α : Type} {H : Hp} {row : α → List V} : ∀ {ys : List V} {Pr : Nat → α → Prop}, (∀ (i : Nat) (y : V), ys[i]? = some y → ∃ x, Pr i x ∧ ∃ t, y = .ref t ∧ H t = some (.tup (row x))) →
    ∃ l : List α, RowsIs H ys (l.map row) ∧ (∀ (i : Nat) (x : α), l[i]? = some x → Pr i x) ∧ l.length = ys.length
  | [], Pr, _ => ⟨[], ⟨rfl, fun i y r h _ => by simp at h⟩, fun i x h => by simp at h, rfl⟩
  | y :: ys, Pr, h => by
    obtain ⟨x, h1, t, h2, h3⟩ := h 0 y rfl
    obtain ⟨l, k1, k2, k3⟩ := collect (ys := ys) (Pr := fun i => Pr (i + 1)) fun i y e => h (i + 1) y (by simpa using e)
    refine ⟨x :: l, ⟨by simp [k3], fun i z r e1 e2 => ?_⟩, fun i z e => ?_, by simp [k3]⟩
    · cases i with
      | zero =>
        obtain rfl : y = z := by simpa using e1
        obtain rfl : row x = r := by simpa using e2
        exact ⟨t, h2, h3⟩
      | succ i => exact k1.2 i z r (by simpa using e1) (by simpa using e2)
    · cases i with
      | zero =>
        obtain rfl : x = z := by simpa using e
        exact h1
      | succ i => exact k2 i z (by simpa using e)
theorem map_of {α : Type} {l : List α} {f : α → List Nat} {ws : List (List Nat)} (hl : l.length = ws.length) (h : ∀ (i : Nat) (x : α), l[i]? = some x → ws[i]? = some (f x)) : l.map f = ws := by
  refine List.ext_getElem? fun i => ?_
  rw [List.getElem?_map]
  cases e : l[i]? with
  | none =>
    have e2 : l.length ≤ i := List.getElem?_eq_none_iff.mp e
    rw [List.getElem?_eq_none_iff.mpr (by omega)]
    rfl
  | some a => rw [h i a e]; rfl
def spMade (k : KA) : Sp := fun vs H Q _ => ∃ (a : Addr) (W : Wld), vs = [.ref a] ∧ ToldAt H a W ∧ W.Good ∧ ∀ p H', H p = none → Same H H' → WldAt k H' p W → (∀ d l, H d = some (.lst l) → WldAt k (hide d H') p W) → Q (.ref p) H'
def spLWorld : Sp := fun vs H Q _ => ∃ (p z : Addr) (z1 z2 z3 z4 c : Nat), vs = [.ref p, .ref z] ∧ BoxAt H p c ∧ c < 70000 ∧ H z = some (.lst [.int (z1 : Int), .int (z2 : Int), .int (z3 : Int), .int (z4 : Int)]) ∧ (1 ≤ z1 ∧ z1 ≤ 8) ∧ z2 ≤ 12 ∧ z3 ≤ 4 ∧ z4 ≤ 6 ∧
  ∀ a (W : Wld) H', W.Good → ToldAt H' a W → BoxAt H' p (c + 310) → Bar p H H' → Q (.ref a) H'
theorem walk_lst {K : PySem.W.Frag} {a : Addr} {xs : List V} : Walk (Itl K a) xs.length (fun H => SqL K H a xs) (fun i H x H' => H' = H ∧ xs[i]? = some x) := walk_list
section
variable {P : Program} {w : World} {K : PySem.W.Frag} {mg : Str → Option Value} {base : Heap}
theorem ok_made {k : KA} {f : Addr} {fd : FuncData} (F : Fun K "_law_made" "_law_made" s__law_made f fd) (B : Blt mg) (DC : Ma P w K mg base CX0 4 "Channel" k.C ["self", "name", "one", "other", "hours", "depth", "first", "growth", "most"] (spChanMk k.C))
    (DB : Ma P w K mg base CX0 5 "Breaker" k.B ["self", "name", "port", "hour", "strength", "draught", "cut"] (spBrkMk k.B)) (DS : Ma P w K mg base CX0 5 "Ship" k.S ["self", "name", "port", "goal", "hour", "strength", "draught"] (spShpMk k.S))
    (DW : Ma P w K mg base CX0 3 "World" k.W ["self", "begin", "ports", "channels", "breakers", "ships"] (spWldMk K k)) : FnOk P w K mg base CX0 7 f fd ["_law_world_here"] (spMade k) := by
  refine F.ok sc__law_made (fun vs H Q E h => ?_) (fun cdv A outer s H vs Q E hr h => ?_)
  · obtain ⟨a, W, rfl, _⟩ := h
    rfl
  · obtain ⟨a, W, rfl, hT, g, q⟩ := h
    refine ⟨_, (pss_cons (ps_setLc (i := 1) (own := [("_law_a", 4), ("_law_b", 5), ("_law_c", 6), ("_law_d", 7), ("_law_e", 8), ("_law_f", 9), ("_law_g", 10), ("_law_h", 11)]) (g := gTup K 8 (gCons (gName 4) (gCons (gName 5) (gCons (gName 6) (gCons (gName 7) (gCons (gName 8) (gCons (gName 9) (gCons (gName 10) (gCons (gName 11) gNil))))))))) (tt := tYes) rfl sc__law_made.nd rfl rfl (by rfl) (pi_seq (pe_ix ix_tup (pv 0) pe_int (fun _ _ => rfl))) (blkOk_by (N := ["_law_world_here", "_law_channels", "_law_breakers", "_law_ships", "_law_a", "_law_b", "_law_c", "_law_d", "_law_e", "_law_f", "_law_g", "_law_h"]) (sc := defScope s__law_made) (by decide +kernel)) (fun _ _ _ _ _ => pg_tup rfl (pgs_cons (pg_name (i := 4) sc__law_made.nd rfl (Or.inl rfl)) (pgs_cons (pg_name (i := 5) sc__law_made.nd rfl (Or.inl rfl)) (pgs_cons (pg_name (i := 6) sc__law_made.nd rfl (Or.inl rfl)) (pgs_cons (pg_name (i := 7) sc__law_made.nd rfl (Or.inl rfl)) (pgs_cons (pg_name (i := 8) sc__law_made.nd rfl (Or.inl rfl)) (pgs_cons (pg_name (i := 9) sc__law_made.nd rfl (Or.inl rfl)) (pgs_cons (pg_name (i := 10) sc__law_made.nd rfl (Or.inl rfl)) (pgs_cons (pg_name (i := 11) sc__law_made.nd rfl (Or.inl rfl)) pgs_nil))))))))) (fun _ _ _ _ _ => pts_nil) (fun _ _ _ _ _ => (pe_ma DC (hr.mono (by decide)) (by rfl) pass0 (pa_cons (pv 4) (pa_cons (pv 5) (pa_cons (pv 6) (pa_cons (pv 7) (pa_cons (pv 8) (pa_cons (pv 9) (pa_cons (pv 10) (pa_cons (pv 11) pa_nil)))))))))))
      (pss_cons (ps_set (i := 2) sc__law_made.nd rfl (.inl rfl) (pe_callTy call_tuple_of (by rfl) B.tuple (by decide +kernel) (pa_cons (pe_lc (own := [("_law_a", 4), ("_law_b", 5), ("_law_c", 6), ("_law_d", 7), ("_law_e", 8), ("_law_f", 9)]) (g := gTup K 6 (gCons (gName 4) (gCons (gName 5) (gCons (gName 6) (gCons (gName 7) (gCons (gName 8) (gCons (gName 9) gNil))))))) (tt := tYes) rfl sc__law_made.nd (pi_seq (pe_ix ix_tup (pv 0) pe_int (fun _ _ => rfl))) (blkOk_by (N := ["_law_world_here", "_law_channels", "_law_breakers", "_law_ships", "_law_a", "_law_b", "_law_c", "_law_d", "_law_e", "_law_f", "_law_g", "_law_h"]) (sc := defScope s__law_made) (by decide +kernel)) (fun _ _ _ _ _ => pg_tup rfl (pgs_cons (pg_name (i := 4) sc__law_made.nd rfl (Or.inl rfl)) (pgs_cons (pg_name (i := 5) sc__law_made.nd rfl (Or.inl rfl)) (pgs_cons (pg_name (i := 6) sc__law_made.nd rfl (Or.inl rfl)) (pgs_cons (pg_name (i := 7) sc__law_made.nd rfl (Or.inl rfl)) (pgs_cons (pg_name (i := 8) sc__law_made.nd rfl (Or.inl rfl)) (pgs_cons (pg_name (i := 9) sc__law_made.nd rfl (Or.inl rfl)) pgs_nil))))))) (fun _ _ _ _ _ => pts_nil) (fun _ _ _ _ _ => (pe_ma DB (hr.mono (by decide)) (by rfl) pass0 (pa_cons (pv 4) (pa_cons (pv 5) (pa_cons (pv 6) (pa_cons (pv 7) (pa_cons (pv 8) (pa_cons (pv 9) pa_nil))))))))) pa_nil)))
      (pss_cons (ps_setLc (i := 3) (own := [("_law_a", 4), ("_law_b", 5), ("_law_c", 6), ("_law_d", 7), ("_law_e", 8), ("_law_f", 9)]) (g := gTup K 6 (gCons (gName 4) (gCons (gName 5) (gCons (gName 6) (gCons (gName 7) (gCons (gName 8) (gCons (gName 9) gNil))))))) (tt := tYes) rfl sc__law_made.nd rfl rfl (by rfl) (pi_seq (pe_ix ix_tup (pv 0) pe_int (fun _ _ => rfl))) (blkOk_by (N := ["_law_world_here", "_law_channels", "_law_breakers", "_law_ships", "_law_a", "_law_b", "_law_c", "_law_d", "_law_e", "_law_f", "_law_g", "_law_h"]) (sc := defScope s__law_made) (by decide +kernel)) (fun _ _ _ _ _ => pg_tup rfl (pgs_cons (pg_name (i := 4) sc__law_made.nd rfl (Or.inl rfl)) (pgs_cons (pg_name (i := 5) sc__law_made.nd rfl (Or.inl rfl)) (pgs_cons (pg_name (i := 6) sc__law_made.nd rfl (Or.inl rfl)) (pgs_cons (pg_name (i := 7) sc__law_made.nd rfl (Or.inl rfl)) (pgs_cons (pg_name (i := 8) sc__law_made.nd rfl (Or.inl rfl)) (pgs_cons (pg_name (i := 9) sc__law_made.nd rfl (Or.inl rfl)) pgs_nil))))))) (fun _ _ _ _ _ => pts_nil) (fun _ _ _ _ _ => (pe_ma DS (hr.mono (by decide)) (by rfl) pass0 (pa_cons (pv 4) (pa_cons (pv 5) (pa_cons (pv 6) (pa_cons (pv 7) (pa_cons (pv 8) (pa_cons (pv 9) pa_nil)))))))))
      (pss_one (ps_ret (pe_ma DW (hr.mono (by decide)) (by rfl) pass0 (pa_cons (pe_ix ix_tup (pv 0) pe_int (fun _ _ => rfl)) (pa_cons (pe_callTy call_list_of (by rfl) B.list (by decide +kernel) (pa_cons (pe_ix ix_tup (pv 0) pe_int (fun _ _ => rfl)) pa_nil)) (pa_cons (pv 1) (pa_cons (pv 2) (pa_cons (pv 3) pa_nil))))))))))), ?_⟩
    obtain ⟨ap, ac, ab, as, yc, yb, ys, t1, t2, t3, rc, t5, rb, t7, rs⟩ := id hT
    have lc1 : yc.length ≤ 12 := by rw [rc.1, List.length_map]; exact g.chans
    have lb1 : yb.length ≤ 4 := by rw [rb.1, List.length_map]; exact g.brks
    have ls1 : ys.length ≤ 6 := by rw [rs.1, List.length_map]; exact g.shps
    have sm := Same.refl H
    refine ⟨_, rfl, a, _, 2, _, rfl, rfl, .inl (.inl t1), rfl, ac, rfl, lc_map (fun x y H' => ∃ p b, x = .ref p ∧ H p = some (.tup (Chan.vals b)) ∧ ∃ a, y = .ref a ∧ ObjAt k.C H' a chanK (Chan.vals b)) (.t (sm _ _ t3)) (Nat.lt_of_le_of_lt lc1 (by decide)) (fun x y H H' s ⟨p, b, e, o, a, e2, h⟩ => ⟨p, b, e, o, a, e2, h.same s⟩)
      (fun x y H D l hD ⟨p, b, e, o, a, e2, dx, h⟩ => ⟨p, b, e, o, a, e2, dx, hide_of hD (fun _ z => by cases z) h⟩) ?_ ?_⟩
    · intro x J0 kk hx s0 kq
      obtain ⟨o, b, rfl, hm, e⟩ := rc.mem hx
      refine ⟨o, _, rfl, .inl (.inl (s0 _ _ (sm _ _ e))), rfl, ?_⟩
      refine ⟨_, _, rfl, ?_⟩
      refine ⟨_, _, rfl, ?_⟩
      refine ⟨_, _, rfl, ?_⟩
      refine ⟨_, _, rfl, ?_⟩
      refine ⟨_, _, rfl, ?_⟩
      refine ⟨_, _, rfl, ?_⟩
      refine ⟨_, _, rfl, ?_⟩
      refine ⟨_, _, rfl, ?_⟩
      refine ⟨rfl, ?_⟩
      simp only [gName, wipe, L2.start, List.map_cons, List.map_nil, List.length_cons, List.length_nil, List.set_cons_zero, List.set_cons_succ, List.replicate_succ, List.replicate_zero, List.cons_append, List.nil_append, Nat.reduceAdd, Nat.reduceSub, Nat.zero_add, true_and]
      refine ⟨_, rfl, ?_⟩
      refine ⟨_, rfl, ?_⟩
      refine ⟨_, rfl, ?_⟩
      refine ⟨_, rfl, ?_⟩
      refine ⟨_, rfl, ?_⟩
      refine ⟨_, rfl, ?_⟩
      refine ⟨_, rfl, ?_⟩
      refine ⟨_, rfl, ?_⟩
      refine fun x dx hx hd _ => ?_
      exact ⟨x, b, rfl, g.good b hm, Makes.use (Q := kk) (fun p H' _ s4 h4 => kq _ _ s4 ⟨o, b, rfl, e, p, rfl, h4⟩) hx hd⟩
    intro D1 xc H1 hD1 s1 hy1 e1
    have oc := objs_of (fun _ _ e => e) rc e1
    have sm := sm.trans s1
    refine ⟨_, rfl, a, _, 3, _, rfl, rfl, .inl (.inl (sm _ _ t1)), rfl, ab, rfl, lc_map (fun x y H' => ∃ p b, x = .ref p ∧ H p = some (.tup (Brk.vals b)) ∧ ∃ a, y = .ref a ∧ ObjAt k.B H' a brkK (Brk.vals b)) (.t (sm _ _ t5)) (Nat.lt_of_le_of_lt lb1 (by decide)) (fun x y H H' s ⟨p, b, e, o, a, e2, h⟩ => ⟨p, b, e, o, a, e2, h.same s⟩)
      (fun x y H D l hD ⟨p, b, e, o, a, e2, dx, h⟩ => ⟨p, b, e, o, a, e2, dx, hide_of hD (fun _ z => by cases z) h⟩) ?_ ?_⟩
    · intro x J0 kk hx s0 kq
      obtain ⟨o, b, rfl, hm, e⟩ := rb.mem hx
      refine ⟨o, _, rfl, .inl (.inl (s0 _ _ (sm _ _ e))), rfl, ?_⟩
      refine ⟨_, _, rfl, ?_⟩
      refine ⟨_, _, rfl, ?_⟩
      refine ⟨_, _, rfl, ?_⟩
      refine ⟨_, _, rfl, ?_⟩
      refine ⟨_, _, rfl, ?_⟩
      refine ⟨_, _, rfl, ?_⟩
      refine ⟨rfl, ?_⟩
      simp only [gName, wipe, L2.start, List.map_cons, List.map_nil, List.length_cons, List.length_nil, List.set_cons_zero, List.set_cons_succ, List.replicate_succ, List.replicate_zero, List.cons_append, List.nil_append, Nat.reduceAdd, Nat.reduceSub, Nat.zero_add, true_and]
      refine ⟨_, rfl, ?_⟩
      refine ⟨_, rfl, ?_⟩
      refine ⟨_, rfl, ?_⟩
      refine ⟨_, rfl, ?_⟩
      refine ⟨_, rfl, ?_⟩
      refine ⟨_, rfl, ?_⟩
      refine fun x dx hx hd _ => ?_
      exact ⟨x, b, rfl, g.bgood b hm, Makes.use (Q := kk) (fun p H' _ s4 h4 => kq _ _ s4 ⟨o, b, rfl, e, p, rfl, h4⟩) hx hd⟩
    intro D2 xb H2 hD2 s2 hy2 e2
    have ob := objs_of (fun _ _ e => e) rb e2
    have sm := sm.trans s2
    refine ⟨D2, _, rfl, .inl ⟨.inl (.inl hy2), fun tb htb => ?_⟩⟩
    generalize hXq : upd _ tb _ = H2'
    have s2' := laid_same hXq htb
    have e2' := laid_at hXq
    clear hXq
    have sm := sm.trans s2'
    refine ⟨_, rfl, a, _, 4, _, rfl, rfl, .inl (.inl (sm _ _ t1)), rfl, as, rfl, lc_map (fun x y H' => ∃ p b, x = .ref p ∧ H p = some (.tup (Shp.row b)) ∧ ∃ a, y = .ref a ∧ ObjAt k.S H' a shpK (Shp.vals b)) (.t (sm _ _ t7)) (Nat.lt_of_le_of_lt ls1 (by decide)) (fun x y H H' s ⟨p, b, e, o, a, e2, h⟩ => ⟨p, b, e, o, a, e2, h.same s⟩)
      (fun x y H D l hD ⟨p, b, e, o, a, e2, dx, h⟩ => ⟨p, b, e, o, a, e2, dx, hide_of hD (fun _ z => by cases z) h⟩) ?_ ?_⟩
    · intro x J0 kk hx s0 kq
      obtain ⟨o, b, rfl, hm, e⟩ := rs.mem hx
      refine ⟨o, _, rfl, .inl (.inl (s0 _ _ (sm _ _ e))), rfl, ?_⟩
      refine ⟨_, _, rfl, ?_⟩
      refine ⟨_, _, rfl, ?_⟩
      refine ⟨_, _, rfl, ?_⟩
      refine ⟨_, _, rfl, ?_⟩
      refine ⟨_, _, rfl, ?_⟩
      refine ⟨_, _, rfl, ?_⟩
      refine ⟨rfl, ?_⟩
      simp only [gName, wipe, L2.start, List.map_cons, List.map_nil, List.length_cons, List.length_nil, List.set_cons_zero, List.set_cons_succ, List.replicate_succ, List.replicate_zero, List.cons_append, List.nil_append, Nat.reduceAdd, Nat.reduceSub, Nat.zero_add, true_and]
      refine ⟨_, rfl, ?_⟩
      refine ⟨_, rfl, ?_⟩
      refine ⟨_, rfl, ?_⟩
      refine ⟨_, rfl, ?_⟩
      refine ⟨_, rfl, ?_⟩
      refine ⟨_, rfl, ?_⟩
      refine fun x dx hx hd _ => ?_
      exact ⟨x, b, rfl, g.sgood b hm, Makes.use (Q := kk) (fun p H' _ s4 h4 => kq _ _ s4 ⟨o, b, rfl, e, p, rfl, h4⟩) hx hd⟩
    intro D3 xs H3 hD3 s3 hy3 e3
    have os := objs_of shp_vals rs e3
    have sm := sm.trans s3
    refine ⟨_, rfl, a, _, 0, _, rfl, rfl, .inl (.inl (sm _ _ t1)), rfl, ?_⟩
    refine ⟨_, rfl, a, _, 1, _, rfl, rfl, .inl (.inl (sm _ _ t1)), rfl, ap, _, rfl, SqA.t (sm _ _ t2), fun lp hlp => ?_⟩
    generalize hXq : upd _ lp _ = H4
    have s4 := laid_same hXq hlp
    have e4 := laid_at hXq
    clear hXq
    have sm := sm.trans s4
    refine ⟨_, rfl, _, rfl, _, rfl, fun x dx hx hd hne => ?_⟩
    have sx : Same H4 (upd (upd H4 dx (.own x)) x (.ins k.W dx [])) := fun b o e => by
      rw [upd_ne (ne_of_none e hx), upd_ne (ne_of_none e hd)]
      exact e
    have c1 := s2.trans (s2'.trans (s3.trans s4))
    have c2 := s2'.trans (s3.trans s4)
    refine ⟨x, W, lp, D1, tb, D3, xc, xb, xs, rfl, g, ⟨.l (sx _ _ e4), .l (sx _ _ (c1 _ _ hy1)), oc.same (c1.trans sx), .t (sx _ _ (s4 _ _ (s3 _ _ e2'))), ob.same (c2.trans sx), .l (sx _ _ (s4 _ _ hy3)), os.same (s4.trans sx)⟩, ⟨dx, upd_same⟩, fun H5 b5 f5 => ⟨rfl, ?_⟩⟩
    have s5 : Same H4 H5 := fun b o e => b5 b o (ne_of_none e hx) (sx _ _ e)
    have all : WldAt k H5 x W := ⟨xc, xb, xs, f5.f, oc.same (c1.trans s5), ob.same (c2.trans s5), os.same (s4.trans s5)⟩
    refine q x H5 (none_back sm hx) (sm.trans s5) all fun d l hd => ?_
    have hd5 := (sm.trans s5) _ _ hd
    obtain ⟨dx', l1, l2, l3, l4, g1, g2, g3, g4, g5, n1, n2, n3, n4⟩ := f5
    have nd : ∀ {y : Addr}, upd (upd H4 dx (.own x)) x (.ins k.W dx []) y = none → y ≠ d := fun hy z => by
      rw [z, sx _ _ (sm _ _ hd)] at hy
      cases hy
    have ho : ∀ {C : Addr} {ks : List Str} {ys : List V} {vss : List (List V)}, Objs C H5 ks ys vss → Objs C (hide d H5) ks ys vss := fun h => ⟨h.1, fun i x vs h1 h2 => by
      obtain ⟨q, e, dy, o⟩ := h.2 i x vs h1 h2
      exact ⟨q, e, dy, hide_of hd5 (fun _ z => by cases z) o⟩⟩
    exact ⟨xc, xb, xs, ⟨dx', l1, l2, l3, l4, hide_of hd5 (fun _ z => by cases z) g1, by rw [hide_ne (nd n1)]; exact g2, by rw [hide_ne (nd n2)]; exact g3, by rw [hide_ne (nd n3)]; exact g4, by rw [hide_ne (nd n4)]; exact g5⟩, ho (oc.same (c1.trans s5)), ho (ob.same (c2.trans s5)), ho (os.same (s4.trans s5))⟩
theorem ok_lworld {f : Addr} {fd : FuncData} (F : Fun K "_law_world" "_law_world" s__law_world f fd) (B : Blt mg) (DM : Dn P w K mg base CX0 2 "_law_names" ["_law_box_here", "_law_many"] spNames) (DN : Dn P w K mg base CX0 2 "_law_number" ["_law_box_here", "_law_low", "_law_high"] spNumber)
    (DC : Dn P w K mg base CX0 3 "_law_channel" ["_law_box_here", "_law_name", "_law_ports"] spLChan) (DB : Dn P w K mg base CX0 3 "_law_breaker" ["_law_box_here", "_law_name", "_law_ports"] spLBrk) (DS : Dn P w K mg base CX0 3 "_law_ship" ["_law_box_here", "_law_name", "_law_ports"] spLShp) :
    FnOk P w K mg base CX0 4 f fd ["_law_box_here", "_law_sizes"] spLWorld := by
  refine F.ok sc__law_world (fun vs H Q E h => ?_) (fun cdv A outer s H vs Q E hr h => ?_)
  · obtain ⟨p, z, z1, z2, z3, z4, c, rfl, _⟩ := h
    rfl
  · obtain ⟨p, z, z1, z2, z3, z4, c, rfl, hp, hc, hz, k1, k2, k3, k4, q⟩ := h
    refine ⟨_, (pss_cons (ps_set (i := 2) sc__law_world.nd rfl (.inr rfl) (pe_d DM (hr.mono (by decide)) (by rfl) pass0 (pa_cons (pv 0) (pa_cons (pe_ix ix_list (pv 1) pe_int (fun _ _ => rfl)) pa_nil))))
      (pss_cons (ps_set (i := 3) sc__law_world.nd rfl (.inl rfl) (pe_d DM (hr.mono (by decide)) (by rfl) pass0 (pa_cons (pv 0) (pa_cons (pe_op op_mul (pe_ix ix_list (pv 1) pe_int (fun _ _ => rfl)) (pe_callTy call_int1 (by rfl) B.int (by decide +kernel) (pa_cons (pe_cmpR op_gt (pe_ix ix_list (pv 1) pe_int (fun _ _ => rfl)) pe_int (nomark _)) pa_nil))) pa_nil))))
      (pss_cons (ps_set (i := 4) sc__law_world.nd rfl (.inl rfl) (pe_d DM (hr.mono (by decide)) (by rfl) pass0 (pa_cons (pv 0) (pa_cons (pe_op op_add (pe_ix ix_list (pv 1) pe_int (fun _ _ => rfl)) (pe_ix ix_list (pv 1) pe_int (fun _ _ => rfl))) pa_nil))))
      (pss_cons (ps_set (i := 5) sc__law_world.nd rfl (.inl rfl) (pe_callTy call_tuple_of (by rfl) B.tuple (by decide +kernel) (pa_cons (pe_lc (own := [("_law_name", 8)]) (g := gName 8) (tt := tYes) rfl sc__law_world.nd (pi_list (pv 3)) (blkOk_by (N := ["_law_box_here", "_law_sizes", "_law_ports", "_law_channels", "_law_vessels", "_law_rows", "_law_breakers", "_law_ships", "_law_name"]) (sc := defScope s__law_world) (by decide +kernel)) (fun _ _ _ _ _ => pg_name (i := 8) sc__law_world.nd rfl (Or.inl rfl)) (fun _ _ _ _ _ => pts_nil) (fun _ _ _ _ _ => (pe_d DC (hr.mono (by decide)) (by rfl) pass0 (pa_cons (pv 0) (pa_cons (pv 8) (pa_cons (pv 2) pa_nil)))))) pa_nil)))
      (pss_cons (ps_set (i := 6) sc__law_world.nd rfl (.inl rfl) (pe_callTy call_tuple_of (by rfl) B.tuple (by decide +kernel) (pa_cons (pe_lc (own := [("_law_name", 8)]) (g := gName 8) (tt := tYes) rfl sc__law_world.nd (pi_list (pe_slice sl_list (pv 4) po_none (po_some (pe_ix ix_list (pv 1) pe_int (fun _ _ => rfl))))) (blkOk_by (N := ["_law_box_here", "_law_sizes", "_law_ports", "_law_channels", "_law_vessels", "_law_rows", "_law_breakers", "_law_ships", "_law_name"]) (sc := defScope s__law_world) (by decide +kernel)) (fun _ _ _ _ _ => pg_name (i := 8) sc__law_world.nd rfl (Or.inl rfl)) (fun _ _ _ _ _ => pts_nil) (fun _ _ _ _ _ => (pe_d DB (hr.mono (by decide)) (by rfl) pass0 (pa_cons (pv 0) (pa_cons (pv 8) (pa_cons (pv 2) pa_nil)))))) pa_nil)))
      (pss_cons (ps_set (i := 7) sc__law_world.nd rfl (.inl rfl) (pe_callTy call_tuple_of (by rfl) B.tuple (by decide +kernel) (pa_cons (pe_lc (own := [("_law_name", 8)]) (g := gName 8) (tt := tYes) rfl sc__law_world.nd (pi_list (pe_slice sl_list (pv 4) (po_some (pe_ix ix_list (pv 1) pe_int (fun _ _ => rfl))) po_none)) (blkOk_by (N := ["_law_box_here", "_law_sizes", "_law_ports", "_law_channels", "_law_vessels", "_law_rows", "_law_breakers", "_law_ships", "_law_name"]) (sc := defScope s__law_world) (by decide +kernel)) (fun _ _ _ _ _ => pg_name (i := 8) sc__law_world.nd rfl (Or.inl rfl)) (fun _ _ _ _ _ => pts_nil) (fun _ _ _ _ _ => (pe_d DS (hr.mono (by decide)) (by rfl) pass0 (pa_cons (pv 0) (pa_cons (pv 8) (pa_cons (pv 2) pa_nil)))))) pa_nil)))
      (pss_one (ps_ret (pe_tup (pa_cons (pe_d DN (hr.mono (by decide)) (by rfl) pass0 (pa_cons (pv 0) (pa_cons pe_int (pa_cons (pe_op op_pow pe_int pe_int) pa_nil)))) (pa_cons (pe_callTy call_tuple_of (by rfl) B.tuple (by decide +kernel) (pa_cons (pv 2) pa_nil)) (pa_cons (pv 5) (pa_cons (pv 6) (pa_cons (pv 7) pa_nil)))))))))))))), ?_⟩
    have nbz : nb (.lst [V.int (z1 : Int), V.int (z2 : Int), V.int (z3 : Int), V.int (z4 : Int)]) = true := rfl
    refine ⟨_, rfl, _, rfl, z, _, 0, _, rfl, rfl, SqL.of hz, rfl, p, z1, c, rfl, hp, by omega, by omega, fun d1 ws1 H1 hd1 e1 n1 nd1 nm1 hp1 b1 => ?_⟩
    have hz1 := hp.nb b1 _ _ nbz hz
    have hm2 : ∃ m2 : Nat, ((z2 : Int) * (if decide ((1 : Int) < (z1 : Int)) = true then (1 : Int) else 0) = (m2 : Int)) ∧ m2 ≤ 12 ∧ (0 < m2 → 2 ≤ z1) := by
      by_cases y : (1 : Int) < (z1 : Int)
      · rw [decide_eq_true y, if_pos rfl]
        exact ⟨z2, by omega, k2, by omega⟩
      · rw [decide_eq_false y]
        exact ⟨0, by simp, by omega, by omega⟩
    obtain ⟨m2, em2, m21, m22⟩ := hm2
    refine ⟨_, rfl, _, rfl, z, _, 1, _, rfl, rfl, SqL.of hz1, rfl, _, rfl, z, _, 0, _, rfl, rfl, SqL.of hz1, rfl, _, _, rfl, rfl, .inr ⟨_, rfl, _, _, rfl, rfl, .inr (by split <;> decide), ?_⟩⟩
    refine ⟨p, m2, _, congrArg (fun i : Int => [V.ref p, V.int i]) em2, hp1, by omega, m21, fun d2 ws2 H2 hd2 e2 n2 nd2 nm2 hp2 b2 => ?_⟩
    have hz2 := hp1.nb b2 _ _ nbz hz1
    have e1 := hp1.nb b2 _ _ nb_txts e1
    have ez : (z3 : Int) + (z4 : Int) = ((z3 + z4 : Nat) : Int) := by norm_cast
    refine ⟨_, rfl, _, rfl, z, _, 2, _, rfl, rfl, SqL.of hz2, rfl, _, rfl, z, _, 3, _, rfl, rfl, SqL.of hz2, rfl, _, _, rfl, rfl, ?_⟩
    refine ⟨p, z3 + z4, _, congrArg (fun i : Int => [V.ref p, V.int i]) ez, hp2, by omega, by omega, fun d3 ws3 H3 hd3 e3 n3 nd3 nm3 hp3 b3 => ?_⟩
    have hz3 := hp2.nb b3 _ _ nbz hz2
    have e1 := hp2.nb b3 _ _ nb_txts e1
    have e2 := hp2.nb b3 _ _ nb_txts e2
    have bb := b1.trans (b2.trans b3)
    have hp3 : BoxAt H3 p (c + 36) := hp3.mono (by omega)
    refine ⟨_, rfl, d2, rfl, ⟨_, SqL.of e2⟩, lc_walkB walk_lst 12 (fun i y H => ∃ x : Chan, (ws2[i]? = some x.name ∧ x.Good ∧ x.one ∈ ws1 ∧ x.other ∈ ws1) ∧ ∃ t, y = .ref t ∧ H t = some (.tup x.vals)) hp3 (by rw [List.length_map]; exact Nat.lt_of_le_of_lt (show ws2.length ≤ 12 by omega) (by decide)) (fun H' s' => SqL.of (s' _ _ nb_txts e2))
      (fun i y H H' s' ⟨x, h1, t, h2, h3⟩ => ⟨x, h1, t, h2, s' _ _ rfl h3⟩) (fun i y H D l hD ⟨x, h1, t, h2, h3⟩ => ⟨x, h1, t, h2, hide_of hD (fun _ z => by cases z) h3⟩) ?_ ?_⟩
    · rintro i y H' kk hi hy b' hb' kq
      rw [List.length_map] at hi
      rw [List.getElem?_map, List.getElem?_eq_getElem hi] at hy
      obtain rfl := (Option.some.inj hy).symm
      refine ⟨rfl, _, rfl, _, rfl, _, rfl, p, d1, ws2[i], ws1, _, rfl, hb', by omega, hp3.nb b' _ _ nb_txts e1, by omega, by omega, nd1, nm1, nm2 _ (List.getElem_mem _), fun t x H4 ht h1 h2 h3 h4 h5 h6 h7 => ?_⟩
      exact kq _ _ h7 h6 ⟨x, ⟨by rw [List.getElem?_eq_getElem hi, h1], h2, h3, h4⟩, t, rfl, h5⟩
    intro D4 ys4 H4 hD4 b4 hp4 hy4 l4 f4
    obtain ⟨cs, rc, fc, lc⟩ := collect f4
    rw [List.length_map] at hp4 l4
    have hc2 : cs.map Chan.name = ws2 := map_of (by omega) fun i x h => (fc i x h).1
    have hp4 : BoxAt H4 p (c + 180) := hp4.mono (by omega)
    refine ⟨D4, _, rfl, .inl ⟨.inl (.inl hy4), fun t4 ht4 => ?_⟩⟩
    generalize hXq : upd _ t4 _ = K4
    have s4 := laid_same hXq ht4
    have e4 := laid_at hXq
    clear hXq
    have hpK := hp4.same s4
    have rc := rc.same s4
    have N4 := (hp3.nb b4).trans (Nb.same s4)
    have e1 := N4 _ _ nb_txts e1
    have e3 := N4 _ _ nb_txts e3
    have hz4 := N4 _ _ nbz hz3
    have bb := bb.trans (b4.trans (Bar.same s4))
    have cut3 : cutV (txts ws3) none (some (z3 : Int)) = txts (ws3.take z3) := by
      rw [cutV_to (by rw [List.length_map]; omega)]
      simp only [txts, List.map_take]
    have cut4 : cutV (txts ws3) (some (z3 : Int)) none = txts (ws3.drop z3) := by
      rw [cutV_from (by rw [List.length_map]; omega)]
      simp only [txts, List.map_drop]
    refine ⟨_, rfl, _, rfl, z, _, 2, _, rfl, rfl, SqL.of hz4, rfl, _, rfl, d3, _, rfl, SqL.of e3, fun l5 hl5 => ?_⟩
    rw [cut3]
    generalize hXq : upd _ l5 _ = K5
    have s5 := laid_same hXq hl5
    have e5 := laid_at hXq
    clear hXq
    have hp5 := hpK.same s5
    have e1 := s5 _ _ e1
    have e3 := s5 _ _ e3
    have hz5 := s5 _ _ hz4
    have rc := rc.same s5
    have e4 := s5 _ _ e4
    have bb := bb.trans (Bar.same s5)
    have lt3 : (ws3.take z3).length = z3 := by rw [List.length_take]; omega
    have lt4 : (ws3.drop z3).length = z4 := by rw [List.length_drop]; omega
    refine ⟨l5, rfl, ⟨_, SqL.of e5⟩, lc_walkB walk_lst 12 (fun i y H => ∃ x : Brk, ((ws3.take z3)[i]? = some x.name ∧ x.Good ∧ x.port ∈ ws1) ∧ ∃ t, y = .ref t ∧ H t = some (.tup x.vals)) hp5 (by rw [List.length_map, lt3]; exact Nat.lt_of_le_of_lt k3 (by decide)) (fun H' s' => SqL.of (s' _ _ nb_txts e5))
      (fun i y H H' s' ⟨x, h1, t, h2, h3⟩ => ⟨x, h1, t, h2, s' _ _ rfl h3⟩) (fun i y H D l hD ⟨x, h1, t, h2, h3⟩ => ⟨x, h1, t, h2, hide_of hD (fun _ z => by cases z) h3⟩) ?_ ?_⟩
    · rintro i y H' kk hi hy b' hb' kq
      rw [List.length_map] at hi
      rw [List.getElem?_map, List.getElem?_eq_getElem hi] at hy
      obtain rfl := (Option.some.inj hy).symm
      refine ⟨rfl, _, rfl, _, rfl, _, rfl, p, d1, (ws3.take z3)[i], ws1, _, rfl, hb', by omega, hp5.nb b' _ _ nb_txts e1, by omega, by omega, nm1, nm3 _ (List.mem_of_mem_take (List.getElem_mem _)), fun t x H4 ht h1 h2 h3 h5 h6 h7 => ?_⟩
      exact kq _ _ h7 h6 ⟨x, ⟨by rw [List.getElem?_eq_getElem hi, h1], h2, h3⟩, t, rfl, h5⟩
    intro D6 ys6 H6 hD6 b6 hp6 hy6 l6 f6
    obtain ⟨bs, rb, fb, lb⟩ := collect f6
    rw [List.length_map, lt3] at hp6 l6
    have hb2 : bs.map (fun b => b.name) = ws3.take z3 := map_of (by omega) fun i x h => (fb i x h).1
    have hp6 : BoxAt H6 p (c + 230) := hp6.mono (by omega)
    refine ⟨D6, _, rfl, .inl ⟨.inl (.inl hy6), fun t6 ht6 => ?_⟩⟩
    generalize hXq : upd _ t6 _ = K6
    have s6 := laid_same hXq ht6
    have e6 := laid_at hXq
    clear hXq
    have hpK6 := hp6.same s6
    have rb := rb.same s6
    have N6 := (hp5.nb b6).trans (Nb.same s6)
    have e1 := N6 _ _ nb_txts e1
    have e3 := N6 _ _ nb_txts e3
    have hz6 := N6 _ _ nbz hz5
    have rc := rc.nb N6
    have e4 := N6 _ _ rfl e4
    have bb := bb.trans (b6.trans (Bar.same s6))
    refine ⟨_, rfl, _, rfl, z, _, 2, _, rfl, rfl, SqL.of hz6, rfl, _, rfl, d3, _, rfl, SqL.of e3, fun l7 hl7 => ?_⟩
    rw [cut4]
    generalize hXq : upd _ l7 _ = K7
    have s7 := laid_same hXq hl7
    have e7 := laid_at hXq
    clear hXq
    have hp7 := hpK6.same s7
    have e1 := s7 _ _ e1
    have rc := rc.same s7
    have rb := rb.same s7
    have e4 := s7 _ _ e4
    have e6 := s7 _ _ e6
    have bb := bb.trans (Bar.same s7)
    refine ⟨l7, rfl, ⟨_, SqL.of e7⟩, lc_walkB walk_lst 12 (fun i y H => ∃ x : Shp, ((ws3.drop z3)[i]? = some x.name ∧ x.Good ∧ x.port ∈ ws1 ∧ x.goal ∈ ws1) ∧ ∃ t, y = .ref t ∧ H t = some (.tup x.row)) hp7 (by rw [List.length_map, lt4]; exact Nat.lt_of_le_of_lt k4 (by decide)) (fun H' s' => SqL.of (s' _ _ nb_txts e7))
      (fun i y H H' s' ⟨x, h1, t, h2, h3⟩ => ⟨x, h1, t, h2, s' _ _ rfl h3⟩) (fun i y H D l hD ⟨x, h1, t, h2, h3⟩ => ⟨x, h1, t, h2, hide_of hD (fun _ z => by cases z) h3⟩) ?_ ?_⟩
    · rintro i y H' kk hi hy b' hb' kq
      rw [List.length_map] at hi
      rw [List.getElem?_map, List.getElem?_eq_getElem hi] at hy
      obtain rfl := (Option.some.inj hy).symm
      refine ⟨rfl, _, rfl, _, rfl, _, rfl, p, d1, (ws3.drop z3)[i], ws1, _, rfl, hb', by omega, hp7.nb b' _ _ nb_txts e1, by omega, by omega, nm1, nm3 _ (List.mem_of_mem_drop (List.getElem_mem _)), fun t x H4 ht h1 h2 h3 h4 h5 h6 h7 => ?_⟩
      exact kq _ _ h7 h6 ⟨x, ⟨by rw [List.getElem?_eq_getElem hi, h1], h2, h3, h4⟩, t, rfl, h5⟩
    intro D8 ys8 H8 hD8 b8 hp8 hy8 l8 f8
    obtain ⟨ss, rs, fs, ls⟩ := collect f8
    rw [List.length_map, lt4] at hp8 l8
    have hs2 : ss.map (fun b => b.name) = ws3.drop z3 := map_of (by omega) fun i x h => (fs i x h).1
    have hp8 : BoxAt H8 p (c + 305) := hp8.mono (by omega)
    refine ⟨D8, _, rfl, .inl ⟨.inl (.inl hy8), fun t8 ht8 => ?_⟩⟩
    generalize hXq : upd _ t8 _ = K8
    have s8 := laid_same hXq ht8
    have e8 := laid_at hXq
    clear hXq
    have hpK8 := hp8.same s8
    have rs := rs.same s8
    have N8 := (hp7.nb b8).trans (Nb.same s8)
    have e1 := N8 _ _ nb_txts e1
    have rc := rc.nb N8
    have rb := rb.nb N8
    have e4 := N8 _ _ rfl e4
    have e6 := N8 _ _ rfl e6
    have bb := bb.trans (b8.trans (Bar.same s8))
    refine ⟨_, rfl, _, _, rfl, rfl, ⟨by decide, by decide, by decide⟩, p, 0, 1000000, _, rfl, hpK8, by omega, by decide, by decide, fun bg H9 g0 g1 hp9 b9 => ?_⟩
    have N9 := hpK8.nb b9
    refine ⟨_, rfl, d1, _, rfl, .inl ⟨.inl (.inl (N9 _ _ nb_txts e1)), fun t9 ht9 => ?_⟩⟩
    generalize hXq : upd _ t9 _ = K9
    have s9 := laid_same hXq ht9
    have e9 := laid_at hXq
    clear hXq
    refine ⟨_, rfl, _, rfl, _, rfl, ?_⟩
    refine ⟨Nat.le_of_ble_eq_true rfl, fun t10 ht10 => ?_⟩
    generalize hXq : upd _ t10 _ = K10
    have s10 := laid_same hXq ht10
    have e10 := laid_at hXq
    clear hXq
    have Nz := N9.trans (Nb.same (s9.trans s10))
    have g : Wld.Good ⟨bg, ws1, cs, bs, ss⟩ := by
      have mc : ∀ x ∈ cs, x.Good ∧ x.one ∈ ws1 ∧ x.other ∈ ws1 := fun x hx => by
        obtain ⟨i, hi⟩ := List.getElem?_of_mem hx
        exact (fc i x hi).2
      have mb : ∀ x ∈ bs, x.Good ∧ x.port ∈ ws1 := fun x hx => by
        obtain ⟨i, hi⟩ := List.getElem?_of_mem hx
        exact (fb i x hi).2
      have ms : ∀ x ∈ ss, x.Good ∧ x.port ∈ ws1 ∧ x.goal ∈ ws1 := fun x hx => by
        obtain ⟨i, hi⟩ := List.getElem?_of_mem hx
        exact (fs i x hi).2
      refine ⟨⟨g0, g1⟩, ⟨by show 1 ≤ ws1.length; omega, by show ws1.length ≤ 8; omega⟩, nm1, nd1, ?_, fun x hx => (mc x hx).1, by rw [hc2]; exact nd2, fun x hx => (mc x hx).2, ?_, fun x hx => (mb x hx).1, fun x hx => (mb x hx).2, ?_, fun x hx => (ms x hx).1, fun x hx => (ms x hx).2, ?_⟩
      · show cs.length ≤ 12
        omega
      · show bs.length ≤ 4
        omega
      · show ss.length ≤ 6
        omega
      · show (bs.map (fun b => b.name) ++ ss.map (fun b => b.name)).Nodup
        rw [hb2, hs2, List.take_append_drop]
        exact nd3
    refine q t10 ⟨bg, ws1, cs, bs, ss⟩ K10 g ⟨t9, t4, t6, t8, ys4, ys6, ys8, e10, s10 _ _ e9, Nz _ _ rfl e4, rc.nb Nz, Nz _ _ rfl e6, rb.nb Nz, Nz _ _ rfl e8, rs.nb Nz⟩ ((hp9.same (s9.trans s10)).mono (by omega)) (bb.trans (b9.trans (Bar.same (s9.trans s10))))
end
end Law
end
section
set_option Elab.async false
set_option linter.all false
set_option maxRecDepth 100000
set_option maxHeartbeats 4000000
namespace Law
open PySem PySem.Spec PyProof.Rows L2 IK SX
/-! ### the tables that are drawn -/
theorem catA_use {K : PySem.W.Frag} {H : Hp} {a b : Addr} {xs ys : List V} {Q : VK} (ha : H a = some (.tup xs)) (hb : H b = some (.tup ys)) (hl : xs.length + ys.length ≤ 100) (q : ∀ r H', Same H H' → H' r = some (.tup (xs ++ ys)) → Q (.ref r) H') : rCatA K (.ref a) (.ref b) H Q := by
  refine ⟨a, b, xs, ys, rfl, rfl, .inl (.inl ha), .inl (.inl hb), Nat.le_trans hl (by decide), fun z => ?_, fun _ z => ?_, fun _ _ p hp => ?_⟩
  · subst z
    exact q b H (Same.refl H) hb
  · subst z
    exact q a H (Same.refl H) (by rw [List.append_nil]; exact ha)
  · exact q p _ (same_new hp) upd_same
theorem row_at {H : Hp} {yb ys : List V} {W : Wld} (rb : RowsIs H yb (W.brks.map Brk.vals)) (rs : RowsIs H ys (W.shps.map Shp.row)) {i : Nat} {x : V} (hx : (yb ++ ys)[i]? = some x) : ∃ n t r, W.vnames[i]? = some n ∧ x = .ref t ∧ H t = some (.tup (.str (S n) :: r)) := by
  have l1 : yb.length = W.brks.length := by rw [rb.1, List.length_map]
  have l2 : ys.length = W.shps.length := by rw [rs.1, List.length_map]
  by_cases hi : i < W.brks.length
  · rw [List.getElem?_append_left (by omega)] at hx
    obtain ⟨o, e, h⟩ := rb.2 i x (W.brks[i]).vals hx (by rw [List.getElem?_map, List.getElem?_eq_getElem hi]; rfl)
    refine ⟨(W.brks[i]).name, o, _, ?_, e, h⟩
    unfold Wld.vnames
    rw [List.getElem?_append_left (by rw [List.length_map]; exact hi), List.getElem?_map, List.getElem?_eq_getElem hi]
    rfl
  · rw [List.getElem?_append_right (by omega)] at hx
    have hj : i - yb.length < W.shps.length := by
      have := (List.getElem?_eq_some_iff.mp hx).1
      omega
    obtain ⟨o, e, h⟩ := rs.2 _ x (W.shps[i - yb.length]).row hx (by rw [List.getElem?_map, List.getElem?_eq_getElem hj]; rfl)
    refine ⟨(W.shps[i - yb.length]).name, o, _, ?_, e, h⟩
    unfold Wld.vnames
    rw [List.getElem?_append_right (by rw [List.length_map]; omega), List.length_map, List.getElem?_map, ← l1, List.getElem?_eq_getElem hj]
    rfl
theorem vnames_len {W : Wld} (g : W.Good) : W.vnames.length ≤ 10 := by
  unfold Wld.vnames
  rw [List.length_append, List.length_map, List.length_map]
  have := g.brks
  have := g.shps
  omega
theorem Rise.snoc {chs : List (List Nat)} : ∀ {es : List Ent} {lo h : Int} {c : List Nat}, Rise chs lo es → (∀ e ∈ es, e.1 < h) → lo ≤ h → h ≤ 100000000 → c ∈ chs → Rise chs lo (es ++ [(h, c)])
  | [], _, _, _, _, _, h1, h2, h3 => ⟨h1, h2, h3, trivial⟩
  | e :: es, _, _, _, ⟨k1, k2, k3, k4⟩, hlt, _, h2, h3 => ⟨k1, k2, k3, k4.snoc (fun x hx => hlt x (List.mem_cons_of_mem _ hx)) (by have := hlt e List.mem_cons_self; omega) h2 h3⟩
theorem RowsIs.snoc {H : Hp} {ys : List V} {rows : List (List V)} {t : Addr} {r : List V} (h : RowsIs H ys rows) (ht : H t = some (.tup r)) : RowsIs H (ys ++ [.ref t]) (rows ++ [r]) := by
  refine ⟨by simp [h.1], fun i y z e1 e2 => ?_⟩
  by_cases hi : i < rows.length
  · rw [List.getElem?_append_left (by rw [h.1]; exact hi)] at e1
    rw [List.getElem?_append_left hi] at e2
    exact h.2 i y z e1 e2
  · rw [List.getElem?_append_right (by rw [h.1]; omega), h.1] at e1
    rw [List.getElem?_append_right (by omega)] at e2
    have e0 : i - rows.length = 0 := by
      have := (List.getElem?_eq_some_iff.mp e2).1
      simp at this
      omega
    rw [e0] at e1 e2
    obtain rfl : V.ref t = y := by simpa using e1
    obtain rfl : r = z := by simpa using e2
    exact ⟨t, rfl, ht⟩
/-- rows at list l may change, no tuple does -/
theorem RowsIs.barL {d : Addr} {l : List V} {H H' : Hp} {ys : List V} {rows : List (List V)} (h : RowsIs H ys rows) (b : Bar d H H') (hd : H d = some (.lst l)) : RowsIs H' ys rows := ⟨h.1, fun j y r h3 h4 => by
  obtain ⟨q, e4, e5⟩ := h.2 j y r h3 h4
  exact ⟨q, e4, b _ _ (fun z => by rw [z, hd] at e5; cases e5) e5⟩⟩
theorem EntsAt.snoc {K : PySem.W.Frag} {H : Hp} {vs : List V} {T : Tab} {l : Addr} {ys : List V} {n : List Nat} {es : List Ent} (h : EntsAt K H vs T) (hl : SqA K H l ys) (hr : RowsIs H ys (es.map entV)) : EntsAt K H (vs ++ [.ref l]) (T ++ [(n, es)]) := by
  refine ⟨by rw [List.length_append, List.length_append, h.1]; rfl, fun i v e e1 e2 => ?_⟩
  by_cases hi : i < T.length
  · rw [List.getElem?_append_left (by rw [h.1]; exact hi)] at e1
    rw [List.getElem?_append_left hi] at e2
    exact h.2 i v e e1 e2
  · rw [List.getElem?_append_right (by rw [h.1]; omega), h.1] at e1
    rw [List.getElem?_append_right (by omega)] at e2
    have e0 : i - T.length = 0 := by
      have := (List.getElem?_eq_some_iff.mp e2).1
      simp at this
      omega
    rw [e0] at e1 e2
    obtain rfl : V.ref l = v := by simpa using e1
    obtain rfl : (n, es) = e := by simpa using e2
    exact ⟨l, ys, rfl, hl, hr⟩
/-- entries of a written table -/
structure TFew (T : Tab) : Prop where
  len : T.length ≤ 10
  few : ∀ e ∈ T, e.2.length ≤ 12
  hrs : ∀ e ∈ T, ∀ x ∈ e.2, x.1 ≤ 1002000
/-- pairs of a dict taken in another order -/
theorem mergeK_new : ∀ (more kvs : List (Key × V)), ((kvs ++ more).map (·.1)).Nodup → mergeK kvs more = kvs ++ more
  | [], kvs, _ => by simp [mergeK]
  | p :: r, kvs, h => by
    have h1 : valV kvs p.1 = none := by
      unfold valV
      rw [List.find?_eq_none.mpr]
      · rfl
      · intro q hq
        simp only [decide_eq_true_eq]
        intro z
        rw [List.map_append, List.nodup_append] at h
        exact h.2.2 q.1 (List.mem_map_of_mem hq) p.1 (by simp) z
    show mergeK (putK kvs p.1 p.2) r = _
    rw [putK_new _ h1]
    rw [mergeK_new r (kvs ++ [(p.1, p.2)]) (by rw [List.append_assoc]; exact h), List.append_assoc]
    rfl
theorem zip_drop' {α β : Type} : ∀ (a : List α) (b : List β) (n : Nat), (a.zip b).drop n = (a.drop n).zip (b.drop n)
  | a, b, 0 => rfl
  | [], b, n + 1 => by simp
  | x :: a, [], n + 1 => by simp
  | x :: a, y :: b, n + 1 => by simpa using zip_drop' a b n
theorem zip_take' {α β : Type} : ∀ (a : List α) (b : List β) (n : Nat), (a.zip b).take n = (a.take n).zip (b.take n)
  | a, b, 0 => by simp
  | [], b, n + 1 => by simp
  | x :: a, [], n + 1 => by simp
  | x :: a, y :: b, n + 1 => by simpa using zip_take' a b n
theorem zip_rev' {α β : Type} : ∀ (a : List α) (b : List β), a.length = b.length → (a.zip b).reverse = a.reverse.zip b.reverse
  | [], [], _ => rfl
  | [], y :: b, h => by simp at h
  | x :: a, [], h => by simp at h
  | x :: a, y :: b, h => by
    have h' : a.length = b.length := by simpa using h
    rw [List.zip_cons_cons, List.reverse_cons, List.reverse_cons, List.reverse_cons, List.zip_append (by simp [h']), zip_rev' a b h']
    rfl
theorem kvs_turn {T : Tab} {vs : List V} (a : Nat) (hl : vs.length = T.length) : (kvsOf T vs).drop a ++ ((kvsOf T vs).take a).reverse = kvsOf (T.drop a ++ (T.take a).reverse) (vs.drop a ++ (vs.take a).reverse) := by
  unfold kvsOf
  rw [List.map_append, List.zip_append (by simp [hl]), List.map_drop, List.map_reverse, List.map_take, ← zip_drop', ← zip_rev' _ _ (by simp [hl]), ← zip_take']
theorem EntsAt.turn {K : PySem.W.Frag} {H : Hp} {vs : List V} {T : Tab} (h : EntsAt K H vs T) (a : Nat) : EntsAt K H (vs.drop a ++ (vs.take a).reverse) (T.drop a ++ (T.take a).reverse) := by
  have key : ∀ (i : Nat) (v : V) (e : List Nat × List Ent), (vs.drop a ++ (vs.take a).reverse)[i]? = some v → (T.drop a ++ (T.take a).reverse)[i]? = some e → ∃ j : Nat, vs[j]? = some v ∧ T[j]? = some e := by
    intro i v e h1 h2
    have hl := h.1
    by_cases hi : i < (T.drop a).length
    · rw [List.getElem?_append_left (by rw [List.length_drop, hl, ← List.length_drop]; exact hi), List.getElem?_drop] at h1
      rw [List.getElem?_append_left hi, List.getElem?_drop] at h2
      exact ⟨_, h1, h2⟩
    · have e1 : (vs.drop a).length = (T.drop a).length := by rw [List.length_drop, List.length_drop, hl]
      rw [List.getElem?_append_right (by omega), e1] at h1
      rw [List.getElem?_append_right (by omega)] at h2
      have hj := (List.getElem?_eq_some_iff.mp h2).1
      rw [List.length_reverse] at hj
      have e2 : (vs.take a).length = (T.take a).length := by rw [List.length_take, List.length_take, hl]
      rw [List.getElem?_reverse (by omega), e2] at h1
      rw [List.getElem?_reverse hj] at h2
      rw [List.getElem?_take] at h1 h2
      split at h1
      · rename_i hh
        rw [if_pos hh] at h2
        exact ⟨_, h1, h2⟩
      · cases h1
  refine ⟨by rw [turn_len, turn_len, h.1], fun i v e h1 h2 => ?_⟩
  obtain ⟨j, k1, k2⟩ := key i v e h1 h2
  exact h.2 j v e k1 k2
theorem seq_hide {K : PySem.W.Frag} {H : Hp} {a d : Addr} {xs : List V} (n : a ≠ d) (h : SqA K H a xs) : SqA K (hide d H) a xs := by
  have z : ∀ {u : HO}, Rd H a u → Rd (hide d H) a u := fun h => by
    rcases h with h | ⟨o, h⟩
    · exact .inl (by rw [hide_ne n]; exact h)
    · exact .inr ⟨o, by rw [hide_ne n]; exact h⟩
  rcases h with (h | h) | (h | h)
  · exact .inl (.inl (z h))
  · exact .inl (.inr h)
  · exact .inr (.inl (z h))
  · exact .inr (.inr h)
theorem rows_hide {H : Hp} {d : Addr} {l : List V} {ys : List V} {rows : List (List V)} (hd : H d = some (.lst l)) (h : RowsIs H ys rows) : RowsIs (hide d H) ys rows := ⟨h.1, fun i y r h1 h2 => by
  obtain ⟨a, e, h⟩ := h.2 i y r h1 h2
  exact ⟨a, e, hide_of hd (fun _ z => by cases z) h⟩⟩
theorem ents_hide {K : PySem.W.Frag} {H0 H : Hp} {vs : List V} {T : Tab} {d : Addr} {l l' : List V} (h : EntsAt K H vs T) (f : ∀ v ∈ vs, ∃ b, v = .ref b ∧ H0 b = none) (h0 : H0 d = some (.lst l)) (hd : H d = some (.lst l')) : EntsAt K (hide d H) vs T := ⟨h.1, fun i v e h1 h2 => by
  obtain ⟨b, ys, e1, e2, e3⟩ := h.2 i v e h1 h2
  obtain ⟨b', e1', hb⟩ := f v (List.mem_of_getElem? h1)
  rw [e1] at e1'
  injection e1' with e1'
  subst e1'
  exact ⟨b, ys, e1, seq_hide (fun z => by rw [z, h0] at hb; cases hb) e2, rows_hide hd e3⟩⟩
theorem ToldAt.hide {H : Hp} {a d : Addr} {l : List V} {W : Wld} (h : ToldAt H a W) (hd : H d = some (.lst l)) : ToldAt (hide d H) a W := by
  obtain ⟨ap, ac, ab, as, yc, yb, ys, h1, h2, h3, h4, h5, h6, h7, h8⟩ := h
  have z : ∀ {b : Addr} {xs : List V}, H b = some (.tup xs) → Law.hide d H b = some (.tup xs) := fun e => hide_of hd (fun _ z => by cases z) e
  exact ⟨ap, ac, ab, as, yc, yb, ys, z h1, z h2, z h3, rows_hide hd h4, z h5, rows_hide hd h6, z h7, rows_hide hd h8⟩
def spLTable (K : PySem.W.Frag) : Sp := fun vs H Q _ => ∃ (p a : Addr) (W : Wld) (c : Nat), vs = [.ref p, .ref a] ∧ BoxAt H p c ∧ c < 60000 ∧ ToldAt H a W ∧ W.Good ∧ ∀ b (T : Tab) H', H b = none → TabAt K H' b T → TGood W T → TFew T → BoxAt H' p (c + 500) → Bar p H H' → (∀ d l, H d = some (.lst l) → d ≠ p → TabAt K (hide d H') b T) → Q (.ref b) H'
end Law
end
section
set_option Elab.async false
set_option linter.all false
set_option maxRecDepth 100000
set_option maxHeartbeats 4000000
namespace Law
open PySem PySem.Spec PyProof.Rows L2 IK SX
theorem paired_app {α β : Type} {F : α → β → Prop} : ∀ {a c : List α} {b d : List β}, Paired F a b → Paired F c d → Paired F (a ++ c) (b ++ d)
  | _, _, _, _, .nil, h => h
  | _, _, _, _, .cons x y, h => .cons x (paired_app y h)
theorem paired_rev {α β : Type} {F : α → β → Prop} : ∀ {a : List α} {b : List β}, Paired F a b → Paired F a.reverse b.reverse
  | _, _, .nil => .nil
  | _, _, .cons x y => by
    rw [List.reverse_cons, List.reverse_cons]
    exact paired_app (paired_rev y) (.cons x .nil)
theorem paired_drop {α β : Type} {F : α → β → Prop} : ∀ {a : List α} {b : List β}, Paired F a b → ∀ n, Paired F (a.drop n) (b.drop n)
  | _, _, h, 0 => h
  | _, _, .nil, n + 1 => .nil
  | _, _, .cons x y, n + 1 => paired_drop y n
theorem paired_take {α β : Type} {F : α → β → Prop} : ∀ {a : List α} {b : List β}, Paired F a b → ∀ n, Paired F (a.take n) (b.take n)
  | _, _, _, 0 => by simpa using Paired.nil
  | _, _, .nil, n + 1 => .nil
  | _, _, .cons x y, n + 1 => .cons x (paired_take y n)
theorem paired_turn {α β : Type} {F : α → β → Prop} {a : List α} {b : List β} (h : Paired F a b) (n : Nat) : Paired F (a.drop n ++ (a.take n).reverse) (b.drop n ++ (b.take n).reverse) := paired_app (paired_drop h n) (paired_rev (paired_take h n))
theorem inr_nd {l : List (List Nat)} (h : l.Nodup) : (l.map fun n => (Sum.inr (S n) : Key)).Nodup := by
  unfold List.Nodup at h ⊢
  rw [List.pairwise_map]
  exact h.imp fun hab z => hab (S_inj (by injection z))
theorem strs_shaped {ws : List (List Nat)} (h : ∀ w ∈ ws, PyData.strOk (S w) = true) : SeqAt.shaped (.list (ws.map fun w => PyData.str (S w))) = true := by
  have h1 : PyData.canLayAll0 (ws.map fun w => PyData.str (S w)) = true ∧ PyData.depthAll (ws.map fun w => PyData.str (S w)) ≤ 1 := by
    induction ws with
    | nil => exact ⟨rfl, by decide⟩
    | cons w ws ih =>
      obtain ⟨i1, i2⟩ := ih fun x hx => h x (List.mem_cons_of_mem _ hx)
      constructor
      · simp [PyData.canLayAll0, PyData.canLay0, h w List.mem_cons_self, i1]
      · simp only [List.map_cons, PyData.depthAll, PyData.depth]
        omega
  obtain ⟨h1, h2⟩ := h1
  have h3 : (PyData.list (ws.map fun w => PyData.str (S w))).depth ≤ 64 := by
    rw [PyData.depth]
    omega
  unfold SeqAt.shaped
  rw [PyData.canLay0, h1, Bool.true_and]
  exact decide_eq_true h3
theorem dp_strs {K : PySem.W.Frag} {H : Hp} : ∀ ws : List (List Nat), DpAll K H (txts ws) (ws.map fun w => PyData.str (S w))
  | [] => .nil
  | w :: ws => .cons (.str _) (dp_strs ws)
theorem strs_eqv (ws : List (List Nat)) : PyData.eqv (.list (ws.map fun w => PyData.str (S w))) (.list []) = ws.isEmpty := by
  cases ws with
  | nil => rfl
  | cons e es => rfl
section
variable {P : Program} {w : World} {K : PySem.W.Frag} {mg : Str → Option Value} {base : Heap}
theorem ok_ltable {f : Addr} {fd : FuncData} (F : Fun K "_law_table" "_law_table" s__law_table f fd) (B : Blt mg) (DT : Dn P w K mg base CX0 1 "_law_take" ["_law_box_here", "_law_many"] spTake) (DN : Dn P w K mg base CX0 2 "_law_number" ["_law_box_here", "_law_low", "_law_high"] spNumber) :
    FnOk P w K mg base CX0 3 f fd ["_law_box_here", "_law_world_here"] (spLTable K) := by
  refine F.ok sc__law_table (fun vs H Q E h => ?_) (fun cdv A outer s H vs Q E hr h => ?_)
  · obtain ⟨p, a, W, c, rfl, _⟩ := h
    rfl
  · obtain ⟨p, a, W, c, rfl, hp, hc, hT, g, q⟩ := h
    have hu := room_u1 hr
    have hu2 := hr.units
    refine ⟨_, (pss_cons (ps_setLc (i := 2) (own := [("_law_row", 11)]) (g := gName 11) rfl sc__law_table.nd rfl rfl (by rfl) (pi_seq (pe_op op_catA (pe_ix ix_tup (pv 1) pe_int (fun _ _ => rfl)) (pe_ix ix_tup (pv 1) pe_int (fun _ _ => rfl)))) (blkOk_by (N := ["_law_box_here", "_law_world_here", "_law_names_here", "_law_ways", "_law_found", "_law_name", "_law_hour", "_law_entries", "_law_turn", "_law_rows", "_law_at", "_law_row"]) (sc := defScope s__law_table) (by decide +kernel)) (fun _ _ _ _ _ => pg_name (i := 11) sc__law_table.nd rfl (Or.inl rfl)) (fun _ _ _ _ _ => pts_one (pt_cmpR op_gt (pe_d DT (hr.mono (by decide)) (by rfl) pass0 (pa_cons (pv 0) (pa_cons pe_int pa_nil))) pe_int (nomark _))) (fun _ _ _ _ _ => (pe_ix (show IxR _ (rIxT K) from ix_tup) (pv 11) pe_int (fun _ _ => rfl))))
      (pss_cons (ps_setLc (i := 3) (own := [("_law_row", 11)]) (g := gName 11) (tt := tYes) rfl sc__law_table.nd rfl rfl (by rfl) (pi_seq (pe_ix ix_tup (pv 1) pe_int (fun _ _ => rfl))) (blkOk_by (N := ["_law_box_here", "_law_world_here", "_law_names_here", "_law_ways", "_law_found", "_law_name", "_law_hour", "_law_entries", "_law_turn", "_law_rows", "_law_at", "_law_row"]) (sc := defScope s__law_table) (by decide +kernel)) (fun _ _ _ _ _ => pg_name (i := 11) sc__law_table.nd rfl (Or.inl rfl)) (fun _ _ _ _ _ => pts_nil) (fun _ _ _ _ _ => (pe_ix (show IxR _ (rIxT K) from ix_tup) (pv 11) pe_int (fun _ _ => rfl))))
      (pss_cons (ps_set (i := 4) sc__law_table.nd rfl (.inl rfl) pe_dnewK)
      (pss_cons (ps_for PassesOwn.never rfl (pi_list (pv 2)) (pg_name (i := 5) sc__law_table.nd rfl (.inl rfl))
      (pss_cons (ps_set (i := 6) sc__law_table.nd rfl (.inl rfl) (pe_ix ix_tup (pv 1) pe_int (fun _ _ => rfl)))
      (pss_cons (ps_set (i := 7) sc__law_table.nd rfl (.inl rfl) (pe_lst pa_nil))
      (pss_cons (ps_for PassesOwn.never rfl (pi_range1 (by rfl) B.range (pa_cons (pe_op op_mul (pe_d DT (hr.mono (by decide)) (by rfl) pass0 (pa_cons (pv 0) (pa_cons pe_int pa_nil))) (pe_callTy call_int1 (by rfl) B.int (by decide +kernel) (pa_cons (pe_cmpR (op_neD hu2) (pv 3) (pe_lst pa_nil) (nomark _)) pa_nil))) pa_nil)) (pg_name (i := 8) sc__law_table.nd rfl (.inl rfl))
      (pss_cons (ps_set (i := 6) sc__law_table.nd rfl (.inl rfl) (pe_op op_add (pe_op op_add (pv 6) (pe_d DN (hr.mono (by decide)) (by rfl) pass0 (pa_cons (pv 0) (pa_cons pe_int (pa_cons pe_int pa_nil))))) (pe_callTy call_int1 (by rfl) B.int (by decide +kernel) (pa_cons (pe_cmpR op_gt (pv 8) pe_int (nomark _)) pa_nil))))
      (pss_one (ps_expr (pe_bm PySem.F.plainAttrs_list PySem.F.slot_list_append PySem.F.type_list_append mt_append (pv 7) (pa_cons (pe_tup (pa_cons (pv 6) (pa_cons (pe_ix ix_list (pv 3) (pe_d DT (hr.mono (by decide)) (by rfl) pass0 (pa_cons (pv 0) (pa_cons (pe_callB call_len_seq (by rfl) B.len PySem.boot_len (pa_cons (pv 3) pa_nil)) pa_nil))) (fun _ _ => rfl)) pa_nil))) pa_nil))))))
      (pss_one (ps_dput hu (pv 4) (pv 5) (pe_ix ix_list (pe_lst (pa_cons (pv 7) (pa_cons (pe_callTy call_tuple_of (by rfl) B.tuple (by decide +kernel) (pa_cons (pv 7) pa_nil)) pa_nil))) (pe_d DT (hr.mono (by decide)) (by rfl) pass0 (pa_cons (pv 0) (pa_cons pe_int pa_nil))) (fun _ _ => rfl)) rfl))))))
      (pss_cons (ps_set (i := 9) sc__law_table.nd rfl (.inl rfl) (LiI.pe_listItems rfl (pv 4) (by rfl) B.list (by decide +kernel)))
      (pss_cons (ps_set (i := 10) sc__law_table.nd rfl (.inl rfl) (pe_d DT (hr.mono (by decide)) (by rfl) pass0 (pa_cons (pv 0) (pa_cons (pe_op op_add (pe_callB call_len_seq (by rfl) B.len PySem.boot_len (pa_cons (pv 9) pa_nil)) pe_int) pa_nil))))
      (pss_one (ps_ret (pe_callTy (call_dictP rfl) (by rfl) B.dict (by decide +kernel) (pa_cons (pe_op op_cat (pe_slice sl_list (pv 9) (po_some (pv 10)) po_none) (pe_revL (pe_slice sl_list (pv 9) po_none (po_some (pv 10))))) pa_nil)))))))))), ?_⟩
    obtain ⟨ap, ac, ab, as, yc, yb, ys, t1, t2, t3, rc, t5, rb, t7, rs⟩ := id hT
    have lc1 : yc.length ≤ 12 := by rw [rc.1, List.length_map]; exact g.chans
    have lb1 : yb.length ≤ 4 := by rw [rb.1, List.length_map]; exact g.brks
    have ls1 : ys.length ≤ 6 := by rw [rs.1, List.length_map]; exact g.shps
    have vl := vnames_len g
    have vnd : W.vnames.Nodup := g.vnd
    have vname : ∀ n ∈ W.vnames, isName n = true := fun n hn => by
      unfold Wld.vnames at hn
      rcases List.mem_append.mp hn with hn | hn
      · obtain ⟨b, hb, rfl⟩ := List.mem_map.mp hn
        exact (g.bgood b hb).ves.name
      · obtain ⟨b, hb, rfl⟩ := List.mem_map.mp hn
        exact (g.sgood b hb).ves.name
    have allLen : (yb ++ ys).length = W.vnames.length := by
      rw [List.length_append, rb.1, rs.1, Wld.vnames, List.length_append]
      simp
    refine ⟨_, rfl, a, _, 3, _, rfl, rfl, .inl (.inl t1), rfl, _, rfl, a, _, 4, _, rfl, rfl, .inl (.inl t1), rfl, ?_⟩
    refine catA_use t5 t7 (by omega) fun r H1 s1 hr1 => ?_
    have hp1 := hp.same s1
    refine ⟨r, rfl, lc_seq (.t hr1) (fun D i H' => Bar p H1 H' ∧ i ≤ (yb ++ ys).length ∧ BoxAt H' p (c + i) ∧ ∃ us : List (List Nat), H' D = some (.lst (txts us)) ∧ us.Sublist (W.vnames.take i)) fun D hD => ?_⟩
    have pD : p ≠ D := fun z => hp1.some (by rw [z]; exact hD)
    refine ⟨⟨Bar.new hD, Nat.zero_le _, (hp1.same (same_new hD)).mono (by omega), [], upd_same, by simp⟩, fun i H' ⟨b, _⟩ xs => ?_, ?_, ?_⟩
    · exact ⟨fun h => by
        rcases h with h | h
        · exact .inl (nb_rd (hp1.nb b) (by
            rcases h with h | ⟨o, h⟩
            · rw [hr1] at h; cases h
            · rw [hr1] at h; cases h) h)
        · exact .inr h, fun h => by
        rcases h with h | h
        · exact .inl (nb_rd (hp1.nb b) rfl h)
        · exact .inr h⟩
    · rintro i x H' hx ⟨b, hi, hb, us, hU, hsub⟩
      have hi' : i < (yb ++ ys).length := (List.getElem?_eq_some_iff.mp hx).1
      obtain ⟨n, t, rw', hn, rfl, ht⟩ := row_at (rb.same s1) (rs.same s1) hx
      have tk : W.vnames.take (i + 1) = W.vnames.take i ++ [n] := by rw [List.take_succ, hn]; rfl
      refine ⟨rfl, _, rfl, p, 3, _, rfl, hb, by omega, by decide, by decide, fun r3 H4 q0 q1 hb4 b4 => ?_⟩
      refine ⟨_, _, rfl, rfl, _, rfl, ?_⟩
      have hU4 := b4 _ _ pD.symm hU
      have hb4' : BoxAt H4 p (c + (i + 1)) := hb4.mono (by omega)
      refine ite2 (fun _ => ?_) (fun _ => ?_)
      · refine ⟨_, rfl, t, _, 0, _, rfl, rfl, .inl (.inl (hb.nb b4 _ _ rfl (hp1.nb b _ _ rfl ht))), atI_nat (j := 0) rfl, ?_⟩
        have hl : us.length ≤ 10 := by
          have := hsub.length_le
          rw [List.length_take] at this
          omega
        refine ⟨txts us, hU4, Nat.lt_of_le_of_lt (show (txts us).length ≤ 10 by rw [List.length_map]; exact hl) (by decide), fun b' o nb' e => ?_, hi', ?_, us ++ [n], ?_, ?_⟩
        · rw [upd_ne (ne_of_none e hD)]
          exact (b.trans b4) b' o nb' e
        · obtain ⟨u, v, x, h1, h2, h3, h4, h5⟩ := hb4'
          exact ⟨u, v, x, by rw [upd_ne pD]; exact h1, h2, h3, h4, h5⟩
        · rw [upd_same]
          simp [txts]
        · rw [tk]
          exact hsub.append (List.Sublist.refl _)
      · refine ⟨b.trans b4, hi', hb4', us, hU4, ?_⟩
        rw [tk]
        exact hsub.trans (List.sublist_append_left _ _)
    rintro H2 ⟨b2, _, hp2, us, hU, hsub⟩
    rw [allLen, List.take_length] at hsub
    rw [allLen] at hp2
    have N2 := (Nb.same s1).trans (hp1.nb b2)
    have bb := (Bar.same s1).trans b2
    have hp2 : BoxAt H2 p (c + 10) := hp2.mono (by omega)
    have rc2 := rc.nb N2
    refine ⟨_, rfl, a, _, 2, _, rfl, rfl, .inl (.inl (N2 _ _ rfl t1)), rfl, ac, rfl, lc_map (fun x y _ => ∃ p r, x = .ref p ∧ H2 p = some (.tup r) ∧ r[0]? = some y) (.t (N2 _ _ rfl t3)) (Nat.lt_of_le_of_lt lc1 (by decide)) (fun _ _ _ _ _ e => e) (fun _ _ _ _ _ _ e => e) ?_ ?_⟩
    · intro x H3 kk hx s3 kq
      obtain ⟨o, b, rfl, _, e⟩ := rc2.mem hx
      refine ⟨rfl, _, rfl, o, _, 0, _, rfl, rfl, .inl (.inl (s3 _ _ e)), rfl, ?_⟩
      exact kq _ _ (Same.refl _) ⟨o, _, rfl, e, rfl⟩
    intro D2 ds H3 hD2 s3 hy e
    obtain rfl := cells_of (j := 0) (f := fun b : Chan => V.str (S b.name)) (fun _ => rfl) rc2 e
    have hW : H3 D2 = some (.lst (txts W.cnames)) := by rw [hy, txts, Wld.cnames, List.map_map]; rfl
    have cname : ∀ n ∈ W.cnames, isName n = true := fun n hn => by
      obtain ⟨b, hb, rfl⟩ := List.mem_map.mp hn
      exact (g.good b hb).name
    have cl : W.cnames.length ≤ 12 := by unfold Wld.cnames; rw [List.length_map]; exact g.chans
    have hU3 := s3 _ _ hU
    have t1' := s3 _ _ (N2 _ _ rfl t1)
    have hp3 := hp2.same s3
    have bb := bb.trans (Bar.same s3)
    clear hy e rc2
    intro d hd
    generalize hXq : upd _ d _ = H4
    have s4 := laid_same hXq hd
    have e4 := laid_at hXq
    clear hXq
    have hp4 := hp3.same s4
    have hU4 := s4 _ _ hU3
    have hW4 := s4 _ _ hW
    have t14 := s4 _ _ t1'
    have bb4 := bb.trans (Bar.same s4)
    have usn : us.Nodup := hsub.nodup vnd
    have usl : us.length ≤ 10 := Nat.le_trans hsub.length_le vl
    have usm : ∀ n ∈ us, n ∈ W.vnames := fun n hn => hsub.subset hn
    have dN : d ≠ p := fun z => hp3.some (by rw [← z]; exact hd)
    have nDd : D ≠ d := fun z => by rw [z] at hU3; rw [hU3] at hd; cases hd
    have nap : a ≠ p := fun z => by
      obtain ⟨u, v, x, h1, _⟩ := hp
      rw [z, h1] at t1
      cases t1
    have nad : a ≠ d := fun z => by rw [z] at t1'; rw [t1'] at hd; cases hd
    have nwd : D2 ≠ d := fun z => by rw [z] at hW; rw [hW] at hd; cases hd
    have nwp : D2 ≠ p := fun z => hp2.some (by rw [← z]; exact hD2)
    refine ⟨_, rfl, D, rfl, ⟨_, SqL.of hU4⟩, for_it (walk_lst (xs := txts us)) (fun i σ H' => ∃ y1 y2 y3 y4 y5 y6 y7, σ = [some (.ref p), some (.ref a), some (.ref D), some (.ref D2), some (.ref d), y1, y2, y3, y4, y5, y6, y7] ∧ (∀ b o, b ≠ p → b ≠ d → H4 b = some o → H' b = some o) ∧ BoxAt H' p (c + 10 + 40 * i) ∧
      ∃ (T : Tab) (vs : List V), H' d = some (.dK (kvsOf T vs)) ∧ EntsAt K H' vs T ∧ T.map (·.1) = us.take i ∧ (∀ e ∈ T, Rise W.cnames W.begin e.2 ∧ e.2.length ≤ 12 ∧ ∀ x ∈ e.2, x.1 ≤ 1002000) ∧ ∀ v ∈ vs, ∃ b, v = .ref b ∧ H b = none) ⟨_, _, _, _, _, _, _, rfl, fun _ _ _ _ e => e, hp4.mono (by omega), [], [], e4, ⟨rfl, fun i v e h1 _ => by simp at h1⟩, rfl, (fun _ h => by cases h), fun _ h => by cases h⟩ ?_ ?_ ?_⟩
    · rintro i σ H' _ ⟨_, _, _, _, _, _, _, _, k, _⟩
      exact SqL.of (k _ _ pD.symm nDd hU4)
    · rintro i x σ H5 H' hi ⟨_, _, _, _, _, _, _, rfl, k, hb, T, vs, hd', hv, hTn, hTe, hfr⟩ ⟨rfl, hx⟩
      rw [List.length_map] at hi
      rw [List.getElem?_map, List.getElem?_eq_getElem hi] at hx
      obtain rfl := (Option.some.inj hx).symm
      have hi10 : i < 10 := by omega
      have hm : us[i] ∈ us := List.getElem_mem hi
      have back : ∀ z, H' z = none → H z = none := fun z hz => by
        have zp : z ≠ p := fun y => hb.some (by rw [← y]; exact hz)
        have zd : z ≠ d := fun y => by rw [y, hd'] at hz; cases hz
        have z3 : H4 z = none := by
          cases e : H4 z with
          | none => rfl
          | some o => rw [k z o zp zd e] at hz; cases hz
        exact bb_none bb4 hp4 z3
      have ta := k _ _ nap nad t14
      have tw := k _ _ nwp nwd hW4
      refine ⟨_, rfl, a, _, 0, _, rfl, rfl, .inl (.inl ta), rfl, ?_⟩
      refine ⟨Nat.le_of_ble_eq_true rfl, fun l hl => ?_⟩
      generalize hXq : upd _ l _ = H6
      have s6 := laid_same hXq hl
      have e6 := laid_at hXq
      clear hXq
      have hb6 := hb.same s6
      have tw6 := s6 _ _ tw
      refine ⟨_, rfl, p, 13, _, rfl, hb6, by omega, by decide, by decide, fun r H7 q0 q1 hb7 b7 => ?_⟩
      obtain ⟨r, rfl⟩ := Int.eq_ofNat_of_zero_le q0
      have N7 := hb6.nb b7
      have tw7 := N7 _ _ nb_txts tw6
      have e7 := N7 _ _ rfl e6
      refine ⟨_, rfl, ?_⟩
      refine ⟨Nat.le_of_ble_eq_true rfl, fun l0 hl0 => ?_⟩
      generalize hXq : upd _ l0 _ = H8
      have s8 := laid_same hXq hl0
      have e8 := laid_at hXq
      clear hXq
      have hb8 := hb7.same s8
      have tw8 := s8 _ _ tw7
      have e8l := s8 _ _ e7
      refine ⟨_, .list [], .lst (.inl (.inl tw8)) (dp_strs _), .lst (.inl (.inl e8)) .nil, strs_shaped (fun w hw => name_ok (cname w hw)), by decide, ?_⟩
      rw [strs_eqv]
      have hmm : ∃ m : Nat, ((r : Int) * (if (!W.cnames.isEmpty) = true then (1 : Int) else 0) = (m : Int)) ∧ m ≤ 12 ∧ (0 < m → 0 < W.cnames.length) := by
        cases hcn : W.cnames with
        | nil => exact ⟨0, by simp, by omega, by omega⟩
        | cons e es => exact ⟨r, by simp, by omega, by simp⟩
      obtain ⟨m, em, m12, mpos⟩ := hmm
      refine .inr ⟨_, rfl, _, _, rfl, rfl, .inr (by split <;> decide), (m : Int), congrArg (fun i : Int => [V.int i]) em, by omega, by omega, ?_⟩
      have emt : ((m : Nat) : Int).toNat = m := Int.toNat_natCast m
      rw [emt]
      have nlp : l ≠ p := fun z => hb.some (by rw [← z]; exact hl)
      have nld : l ≠ d := fun z => by rw [z, hd'] at hl; cases hl
      have hd8 : H8 d = some (.dK (kvsOf T vs)) := s8 _ _ (N7 _ _ rfl (s6 _ _ hd'))
      have N58 : Nb H' H8 := (Nb.same s6).trans (N7.trans (Nb.same s8))
      have hv8 := hv.nb N58
      refine for_it walk_rng (fun j σ H'' => ∃ (h : Int) (y9 y10 y11 y12 : Option V), σ = [some (.ref p), some (.ref a), some (.ref D), some (.ref D2), some (.ref d), some (.str (S us[i])), some (.int h), some (.ref l), y9, y10, y11, y12] ∧ (∀ b o, b ≠ p → b ≠ l → H8 b = some o → H'' b = some o) ∧ BoxAt H'' p (c + 10 + 40 * i + 1 + 3 * j) ∧
        ∃ (es : List Ent) (zs : List V), H'' l = some (.lst zs) ∧ RowsIs H'' zs (es.map entV) ∧ es.length = j ∧ Rise W.cnames W.begin es ∧ (∀ e ∈ es, e.1 ≤ h) ∧ W.begin ≤ h ∧ h ≤ 1000000 + 100 * j) ⟨W.begin, _, _, _, _, rfl, fun _ _ _ _ e => e, hb8.mono (by omega), [], [], e8l, ⟨rfl, fun i v e h1 _ => by simp at h1⟩, rfl, trivial, (fun _ h => by cases h), Int.le_refl _, by have := g.begin; omega⟩ (fun _ _ _ _ _ => trivial) ?_ ?_
      · rintro j x σ H'' H9 hj ⟨h, _, _, _, _, rfl, k2, hbj, es, zs, hz, hzr, hel, hri, hle, h0, h1⟩ ⟨rfl, rfl⟩
        have hcn : 0 < W.cnames.length := mpos (by omega)
        have tw9 := k2 _ _ nwp (fun z => by rw [z] at tw; rw [tw] at hl; cases hl) tw8
        refine ⟨_, rfl, _, rfl, p, 0, 99, _, rfl, hbj, by omega, by decide, by decide, fun n1 J1 n10 n11 hbJ1 bJ1 => ?_⟩
        have NJ1 := hbj.nb bJ1
        refine ⟨_, _, rfl, rfl, _, rfl, _, _, rfl, rfl, .inr ⟨_, rfl, _, _, rfl, rfl, ?_⟩⟩
        have ht : ∃ h' : Int, h + n1 + (if decide ((0 : Int) < 0 + (j : Int)) = true then (1 : Int) else 0) = h' ∧ h' ≤ h + 100 ∧ h ≤ h' ∧ (0 < j → h < h') := by
          by_cases y : (0 : Int) < 0 + (j : Int)
          · rw [decide_eq_true y, if_pos rfl]
            exact ⟨_, rfl, by omega, by omega, by omega⟩
          · rw [decide_eq_false y]
            exact ⟨_, rfl, by simp; omega, by simp; omega, by omega⟩
        obtain ⟨h', eh, k3, k4, k5⟩ := ht
        dsimp only
        rw [eh]
        have hzJ := NJ1 _ _ (nb_rows hzr) hz
        have hzrJ := hzr.nb NJ1
        have twJ := NJ1 _ _ nb_txts tw9
        refine ⟨_, rfl, .inl ⟨rfl, zs, .inl (.inl hzJ)⟩, _, rfl, _, rfl, _, rfl, _, rfl, D2, _, rfl, SqA.l twJ, p, _, _, rfl, hbJ1, by omega, by rw [List.length_map]; omega, by rw [List.length_map]; omega, fun r2 J2 r20 r21 hbJ2 bJ2 => ?_⟩
        obtain ⟨r2, rfl⟩ := Int.eq_ofNat_of_zero_le r20
        have hr2 : r2 < W.cnames.length := by rw [List.length_map] at r21; omega
        have NJ2 := hbJ1.nb bJ2
        have twJ2 := NJ2 _ _ nb_txts twJ
        refine ⟨D2, _, _, _, rfl, rfl, SqL.of twJ2, port_at hr2, ?_⟩
        refine ⟨Nat.le_of_ble_eq_true rfl, fun t ht' => ?_⟩
        generalize hXq : upd _ t _ = J3
        have sJ3 := laid_same hXq ht'
        have eJ3 := laid_at hXq
        clear hXq
        have hzJ3 := sJ3 _ _ (NJ2 _ _ (nb_rows hzrJ) hzJ)
        have hzr3 := (hzrJ.nb NJ2).same sJ3
        have hbJ3 := hbJ2.same sJ3
        have hzl : zs.length ≤ 12 := by rw [hzr.1, List.length_map]; omega
        refine ⟨l, zs, _, rfl, rfl, hzJ3, Nat.lt_of_le_of_lt hzl (by decide), ?_⟩
        refine ⟨h', _, _, _, _, rfl, fun b o n1' n2' e => ?_, ?_, es ++ [(h', W.cnames[r2])], zs ++ [.ref t], upd_same, ?_, ?_, ?_, ?_, ?_, ?_⟩
        · rw [upd_ne n2']
          exact sJ3 _ _ (bJ2 _ _ n1' (bJ1 _ _ n1' (k2 _ _ n1' n2' e)))
        · obtain ⟨u, v, x, h1, h2, h3, h4, h5⟩ := hbJ3
          exact ⟨u, v, x, by rw [upd_ne (Ne.symm nlp)]; exact h1, h2, h3, h4, by omega⟩
        · rw [List.map_append]
          exact (hzr3.snoc eJ3).barL Bar.at_ hzJ3
        · simp [hel]
        · refine hri.snoc (fun e he => ?_) (by omega) (by omega) (List.getElem_mem hr2)
          have hjp : 0 < j := by
            cases es with
            | nil => cases he
            | cons x xs => simp at hel; omega
          have := hle e he
          have := k5 hjp
          omega
        · intro e he
          rcases List.mem_append.mp he with he | he
          · have := hle e he
            omega
          · obtain rfl := List.mem_singleton.mp he
            exact Int.le_refl _
        · omega
        · omega
      · rintro σ H'' ⟨h, _, _, _, _, rfl, k2, hbj, es, zs, hz, hzr, hel, hri, hle, h0, h1⟩
        refine ⟨_, rfl, _, rfl, l, zs, rfl, .inl ⟨.inl (.inl hz), fun t ht => ?_⟩⟩
        generalize hXq : upd _ t _ = H9
        have s9 := laid_same hXq ht
        have e9 := laid_at hXq
        clear hXq
        refine ⟨Nat.le_of_ble_eq_true rfl, fun l9 hl9 => ?_⟩
        generalize hXq : upd _ l9 _ = H10
        have s10 := laid_same hXq hl9
        have e10 := laid_at hXq
        clear hXq
        have hb10 := hbj.same (s9.trans s10)
        refine ⟨_, rfl, p, 2, _, rfl, hb10, by omega, by decide, by decide, fun r3 H11 u0 u1 hb11 b11 => ?_⟩
        have N11 := hb10.nb b11
        obtain ⟨x, hx, hxm⟩ := at_drawn (xs := [V.ref l, V.ref t]) u0 u1
        refine ⟨l9, _, r3, x, rfl, rfl, SqL.of (N11 _ _ rfl e10), hx, ?_⟩
        have hd11 : H11 d = some (.dK (kvsOf T vs)) := N11 _ _ rfl (s10 _ _ (s9 _ _ (k2 _ _ dN (Ne.symm nld) hd8)))
        have NN : Nb H' H'' := fun b o n e => by
          have bl : b ≠ l := fun z => by rw [z, hl] at e; cases e
          have bp : b ≠ p := fun z => by
            obtain ⟨u, v, w, h1, _⟩ := hb
            rw [z, h1] at e
            rw [← Option.some.inj e] at n
            cases n
          exact k2 b o bp bl (N58 b o n e)
        have hv11 : EntsAt K H11 vs T := ((hv.nb NN).same (s9.trans s10)).nb N11
        have nn : ∀ e ∈ T, e.1 ≠ us[i] := by
          intro e he z
          have h1 : e.1 ∈ us.take i := by rw [← hTn]; exact List.mem_map_of_mem he
          obtain ⟨j, hj⟩ := List.getElem?_of_mem h1
          rw [List.getElem?_take] at hj
          split at hj
          · have hjl : j < us.length := (List.getElem?_eq_some_iff.mp hj).1
            have := (List.getElem?_inj hjl usn (j := i)).mp (by rw [hj, List.getElem?_eq_getElem hi, z])
            omega
          · cases hj
        have hTl : T.length = i := by
          have := congrArg List.length hTn
          rw [List.length_map, List.length_take] at this
          omega
        refine ⟨_, rfl, _, rfl, d, _, rfl, DPut.k (k := .inr (S us[i])) hd11 (Nat.lt_of_le_of_lt (show _ ≤ 10 by rw [kvsOf_len hv.1]; omega) (by decide)), ?_⟩
        have hbF : BoxAt (upd H11 d (.dK (putK (kvsOf T vs) (.inr (S us[i])) x))) p (c + 10 + 40 * (i + 1)) := by
          obtain ⟨u, v, x, h1, h2, h3, h4, h5⟩ := hb11
          exact ⟨u, v, x, by rw [upd_ne (Ne.symm dN)]; exact h1, h2, h3, h4, by omega⟩
        have key : ∃ lx, x = .ref lx ∧ SqA K H11 lx zs ∧ H lx = none := by
          simp only [List.mem_cons, List.not_mem_nil, or_false] at hxm
          rcases hxm with rfl | rfl
          · exact ⟨l, rfl, .l (N11 _ _ (nb_rows hzr) (s10 _ _ (s9 _ _ hz))), back l hl⟩
          · refine ⟨t, rfl, .t (N11 _ _ rfl (s10 _ _ e9)), back t ?_⟩
            cases e : H' t with
            | none => rfl
            | some o =>
              have tp : t ≠ p := fun z => hbj.some (by rw [← z]; exact ht)
              have tl : t ≠ l := fun z => by rw [z, hz] at ht; cases ht
              rw [k2 t o tp tl (s8 _ _ (b7 _ _ tp (s6 _ _ e)))] at ht
              cases ht
        obtain ⟨lx, rfl, hlx, hlxf⟩ := key
        have hzr11 := (hzr.same (s9.trans s10)).nb N11
        refine ⟨_, _, _, _, _, _, _, rfl, fun b o n1 n2 e => ?_, hbF, T ++ [(us[i], es)], vs ++ [.ref lx], ?_, ?_, ?_, ?_, ?_⟩
        · rw [upd_ne n2]
          have e0 := k b o n1 n2 e
          have bl : b ≠ l := fun z => by rw [z, hl] at e0; cases e0
          exact b11 b o n1 ((s9.trans s10) b o (k2 b o n1 bl (s8 b o (b7 b o n1 (s6 b o e0)))))
        · rw [upd_same, putK_new _ (val_none nn), kvsOf_snoc hv.1]
        · exact (hv11.snoc hlx hzr11).bar Bar.at_ hd11
        · rw [List.map_append, hTn, List.take_succ, List.getElem?_eq_getElem hi]
          rfl
        · intro e he
          rcases List.mem_append.mp he with he | he
          · exact hTe e he
          · obtain rfl := List.mem_singleton.mp he
            exact ⟨hri, by show es.length ≤ 12; omega, fun x hx => by have := hle x hx; omega⟩
        · intro v hv
          rcases List.mem_append.mp hv with hv | hv
          · exact hfr v hv
          · obtain rfl := List.mem_singleton.mp hv
            exact ⟨lx, rfl, hlxf⟩
    · rintro σ H' ⟨_, _, _, _, _, _, _, rfl, k, hb, T, vs, hd', hv, hTn, hTe, hfr⟩
      rw [List.length_map] at hTn hb
      rw [List.take_length] at hTn
      have hTl : T.length ≤ 10 := by
        have := congrArg List.length hTn
        rw [List.length_map] at this
        omega
      have hTnd : (T.map (·.1)).Nodup := by rw [hTn]; exact usn
      refine ⟨_, rfl, d, _, rfl, hd', fun H5 l ts s5 hl htn hlt e5 pr => ?_⟩
      have hb5 := (hb.same s5).mono (show c + 10 + 40 * us.length ≤ c + 410 by omega)
      have hlen : ts.length = T.length := by rw [Paired.length pr, kvsOf_len hv.1]
      refine ⟨_, rfl, _, rfl, l, _, rfl, SqA.l e5, _, _, rfl, rfl, p, _, _, rfl, hb5, by omega, by rw [List.length_map]; omega, by rw [List.length_map]; omega, fun r H6 q0 q1 hb6 b6 => ?_⟩
      obtain ⟨x, rfl⟩ := Int.eq_ofNat_of_zero_le q0
      have nbt : nb (.lst (ts.map V.ref)) = true := nb_lst fun y hy i z => by
        obtain ⟨t, _, rfl⟩ := List.mem_map.mp hy
        cases z
      have N6 := hb5.nb b6
      have e6 := N6 _ _ nbt e5
      have hx : x ≤ (ts.map V.ref).length := by omega
      refine ⟨_, rfl, _, rfl, _, rfl, l, _, rfl, SqL.of e6, fun l1 hl1 => ?_⟩
      generalize hXq : upd _ l1 _ = H7
      have s7 := laid_same hXq hl1
      have e7 := laid_at hXq
      clear hXq
      refine ⟨_, rfl, _, rfl, _, rfl, l, _, rfl, SqL.of (s7 _ _ e6), fun l2 hl2 => ?_⟩
      generalize hXq : upd _ l2 _ = H8
      have s8 := laid_same hXq hl2
      have e8 := laid_at hXq
      clear hXq
      refine ⟨l2, _, rfl, SqL.of e8, fun l3 hl3 => ?_⟩
      generalize hXq : upd _ l3 _ = H9
      have s9 := laid_same hXq hl3
      have e9 := laid_at hXq
      clear hXq
      rw [cutV_from hx] at e7
      rw [cutV_to hx] at e9
      refine ⟨l1, l3, _, _, rfl, rfl, s9 _ _ (s8 _ _ e7), e9, Nat.le_trans (show _ ≤ 100 by simp; omega) (by decide), fun l4 hl4 => ?_⟩
      generalize hXq : upd _ l4 _ = H10
      have s10 := laid_same hXq hl4
      have e10 := laid_at hXq
      clear hXq
      have sm := s7.trans (s8.trans (s9.trans s10))
      have e11 : H10 l4 = some (.lst ((ts.drop x ++ (ts.take x).reverse).map V.ref)) := by
        rw [e10]
        simp only [List.map_append, List.map_drop, List.map_reverse, List.map_take]
      have pr10 : Paired (fun (t : Addr) (kv : Key × V) => SqT K H10 t [kV kv.1, kv.2]) (ts.drop x ++ (ts.take x).reverse) ((kvsOf T vs).drop x ++ ((kvsOf T vs).take x).reverse) := by
        have h0 : Paired (fun (t : Addr) (kv : Key × V) => SqT K H10 t [kV kv.1, kv.2]) ts (kvsOf T vs) := L2.Paired.mapP pr fun t kv h => .inl (.inl (sm _ _ (N6 _ _ rfl h)))
        exact paired_turn h0 x
      refine ⟨l4, _, _, rfl, SqL.of e11, pr10, fun z hz => ?_⟩
      generalize hXq : upd _ z _ = H11
      have s11 := laid_same hXq hz
      have e12 := laid_at hXq
      clear hXq
      rw [kvs_turn x hv.1] at e12
      have hTurn : ((T.drop x ++ (T.take x).reverse).map (·.1)).Nodup := by
        rw [List.map_append, List.map_reverse, List.map_drop, List.map_take]
        exact turn_nd hTnd x
      rw [mergeK_new _ _ (by
        rw [List.nil_append]
        unfold kvsOf
        rw [List.map_fst_zip (by rw [List.length_map, turn_len, turn_len, hv.1]; exact Nat.le_refl _)]
        have : ((T.drop x ++ (T.take x).reverse).map fun e => (Sum.inr (S e.1) : Key)) = ((T.drop x ++ (T.take x).reverse).map (·.1)).map fun n => (Sum.inr (S n) : Key) := by rw [List.map_map]; rfl
        rw [this]
        exact inr_nd hTurn), List.nil_append] at e12
      have hvF : EntsAt K H11 (vs.drop x ++ (vs.take x).reverse) (T.drop x ++ (T.take x).reverse) := (((hv.same s5).nb N6).same (sm.trans s11)).turn x
      have hmem : ∀ e ∈ T.drop x ++ (T.take x).reverse, e ∈ T := fun e he => turn_mem he
      refine q z _ H11 ?_ ⟨_, e12, hvF⟩ ⟨hTurn, fun e he => usm _ (by rw [← hTn]; exact List.mem_map_of_mem (hmem e he)), fun e he => (hTe e (hmem e he)).1, fun e he => Nat.le_trans (hTe e (hmem e he)).2.1 (by decide)⟩ ⟨by rw [turn_len]; exact hTl, fun e he => (hTe e (hmem e he)).2.1, fun e he => (hTe e (hmem e he)).2.2⟩ ((hb6.same (sm.trans s11)).mono (by omega)) ?_ ?_
      · have z1 : H5 z = none := bb_none b6 hb6 (none_back sm hz)
        have z2 := none_back s5 z1
        have zp : z ≠ p := fun y => hb5.some (by rw [← y]; exact z1)
        have zd : z ≠ d := fun y => by rw [y, hd'] at z2; cases z2
        have z3 : H4 z = none := by
          cases e : H4 z with
          | none => rfl
          | some o => rw [k z o zp zd e] at z2; cases z2
        exact bb_none bb4 hp4 z3
      · intro b o n1 e
        have n2 : b ≠ d := fun y => by
          have := bb b o n1 e
          rw [y, hd] at this
          cases this
        exact s11 _ _ (sm _ _ (b6 _ _ n1 (s5 _ _ (k b o n1 n2 (bb4 b o n1 e)))))
      · intro d' l' h0 hdp
        have h11 : H11 d' = some (.lst l') := by
          have n2 : d' ≠ d := fun y => by
            have := bb d' _ hdp h0
            rw [y, hd] at this
            cases this
          exact s11 _ _ (sm _ _ (b6 _ _ hdp (s5 _ _ (k d' _ hdp n2 (bb4 d' _ hdp h0)))))
        refine ⟨_, hide_of h11 (fun _ z => by cases z) e12, ents_hide hvF (fun v hv => hfr v (turn_mem hv)) h0 h11⟩
end
end Law
end
section
set_option Elab.async false
set_option linter.all false
set_option maxRecDepth 100000
set_option maxHeartbeats 4000000
namespace Law
open PySem PySem.Spec PyProof.Rows L2 IK SX
/-- the told table's first i vessels -/
def tabUpTo (W : Wld) (T : Tab) (i : Nat) : Tab := ((W.vnames.take i).map fun n => (n, entsOf T n)).filter fun e => !e.2.isEmpty
theorem upTo_succ {W : Wld} {T : Tab} {i : Nat} {n : List Nat} (hn : W.vnames[i]? = some n) : tabUpTo W T (i + 1) = tabUpTo W T i ++ (if (entsOf T n).isEmpty = true then [] else [(n, entsOf T n)]) := by
  have tk : W.vnames.take (i + 1) = W.vnames.take i ++ [n] := by rw [List.take_succ, hn]; rfl
  unfold tabUpTo
  rw [tk, List.map_append, List.filter_append]
  by_cases h : (entsOf T n).isEmpty = true
  · simp [h]
  · simp [h]
theorem upTo_all {W : Wld} {T : Tab} : tabUpTo W T W.vnames.length = tabTold W T := by
  unfold tabUpTo tabTold
  rw [List.take_length]
theorem upTo_ne {W : Wld} (g : W.Good) {T : Tab} {i : Nat} {n : List Nat} (hn : W.vnames[i]? = some n) : ∀ e ∈ tabUpTo W T i, e.1 ≠ n := by
  intro e he z
  obtain ⟨n', hn', rfl⟩ := List.mem_map.mp (List.mem_filter.mp he).1
  have hnd : W.vnames.Nodup := g.vnd
  obtain ⟨j, hj⟩ := List.getElem?_of_mem hn'
  rw [List.getElem?_take] at hj
  split at hj
  · have hjl : j < W.vnames.length := (List.getElem?_eq_some_iff.mp hj).1
    have z' : n' = n := z
    subst z'
    have := (List.getElem?_inj hjl hnd).mp (hj.trans hn.symm)
    omega
  · cases hj
theorem upTo_len {W : Wld} (g : W.Good) {T : Tab} {i : Nat} : (tabUpTo W T i).length ≤ 10 := by
  unfold tabUpTo
  have h1 := List.length_filter_le (fun e : List Nat × List Ent => !e.2.isEmpty) ((W.vnames.take i).map fun n => (n, entsOf T n))
  rw [List.length_map, List.length_take] at h1
  have := vnames_len g
  omega
def spAnewT (K : PySem.W.Frag) : Sp := fun vs H Q _ => ∃ (a t : Addr) (W : Wld) (T : Tab), vs = [.ref a, .ref t] ∧ ToldAt H a W ∧ W.Good ∧ TabAt K H t T ∧ ∀ b H', H b = none → Same H H' → TabL H' b (tabTold W T) → Q (.ref b) H'
section
variable {P : Program} {w : World} {K : PySem.W.Frag} {mg : Str → Option Value} {base : Heap}
theorem ok_anew {f : Addr} {fd : FuncData} (F : Fun K "_law_anew" "_law_anew" s__law_anew f fd) (B : Blt mg) : FnOk P w K mg base CX0 1 f fd ["_law_world_here", "_law_table_here"] (spAnewT K) := by
  refine F.ok sc__law_anew (fun vs H Q E h => ?_) (fun cdv A outer s H vs Q E hr h => ?_)
  · obtain ⟨a, t, W, T, rfl, _⟩ := h
    rfl
  · obtain ⟨a, t, W, T, rfl, hT, g, hTab, q⟩ := h
    have hu := room_u1 hr
    refine ⟨_, (pss_cons (ps_set (i := 2) sc__law_anew.nd rfl (.inl rfl) pe_dnewK)
      (pss_cons (ps_for PassesOwn.never rfl (pi_seq (pe_op op_catA (pe_ix ix_tup (pv 0) pe_int (fun _ _ => rfl)) (pe_ix ix_tup (pv 0) pe_int (fun _ _ => rfl)))) (pg_name (i := 3) sc__law_anew.nd rfl (.inl rfl))
      (pss_one (ps_if (PW.pt (pw_and (pt_cmp (pc_din hu (pe_ix ix_tup (pv 3) pe_int (fun _ _ => rfl)) (pv 1))) (pw_and1 (pt_cmpR op_gt (pe_callB call_len_seq (by rfl) B.len PySem.boot_len (pa_cons (pe_dget hu (pv 1) (pe_ix ix_tup (pv 3) pe_int (fun _ _ => rfl)) (fun _ _ => rfl)) pa_nil)) pe_int (nomark _))))) (pss_one (ps_dput hu (pv 2) (pe_ix ix_tup (pv 3) pe_int (fun _ _ => rfl)) (pe_callTy call_list_of (by rfl) B.list (by decide +kernel) (pa_cons (pe_dget hu (pv 1) (pe_ix ix_tup (pv 3) pe_int (fun _ _ => rfl)) (fun _ _ => rfl)) pa_nil)) rfl)) pss_nil)))
      (pss_one (ps_ret (pv 2))))), ?_⟩
    obtain ⟨ap, ac, ab, as, yc, yb, ys, t1, t2, t3, rc, t5, rb, t7, rs⟩ := id hT
    have lb1 : yb.length ≤ 4 := by rw [rb.1, List.length_map]; exact g.brks
    have ls1 : ys.length ≤ 6 := by rw [rs.1, List.length_map]; exact g.shps
    have allLen : (yb ++ ys).length = W.vnames.length := by
      rw [List.length_append, rb.1, rs.1, Wld.vnames, List.length_append]
      simp
    intro d hd
    generalize hXq : upd _ d _ = H1
    have s1 := laid_same hXq hd
    have e1 := laid_at hXq
    clear hXq
    refine ⟨_, rfl, a, _, 3, _, rfl, rfl, .inl (.inl (s1 _ _ t1)), rfl, _, rfl, a, _, 4, _, rfl, rfl, .inl (.inl (s1 _ _ t1)), rfl, ?_⟩
    refine catA_use (s1 _ _ t5) (s1 _ _ t7) (by omega) fun r H2 s2 hr1 => ?_
    have sm := s1.trans s2
    have e2 := s2 _ _ e1
    obtain ⟨vs, ht0, hv0⟩ := hTab
    have ht2 := sm _ _ ht0
    have hv := hv0.same sm
    have rb2 := rb.same sm
    have rs2 := rs.same sm
    have td : t ≠ d := fun z => by rw [z] at ht0; rw [ht0] at hd; cases hd
    refine ⟨r, rfl, for_seq (.t hr1) (fun i σ H' => ∃ y, σ = [some (.ref a), some (.ref t), some (.ref d), y] ∧ Bar d H2 H' ∧ ∃ us, H' d = some (.dK (kvsOf (tabUpTo W T i) us)) ∧ ValsL H' us (tabUpTo W T i))
      ⟨_, rfl, Bar.refl, [], e2, rfl, fun i v e h1 _ => by simp at h1⟩ ?_ ?_ ?_⟩
    · rintro i σ H' ⟨_, rfl, b, _⟩
      exact kp_bar b e2
    · rintro i x σ H' hx ⟨_, rfl, b, us, hd', hus⟩
      obtain ⟨n, o, rw', hn, rfl, ho⟩ := row_at rb2 rs2 hx
      have od : o ≠ d := fun z => by rw [z, e2] at ho; cases ho
      have ho' := b _ _ od ho
      have ht' := b _ _ td ht2
      have hv' := hv.bar b e2
      have us' := upTo_succ (T := T) hn
      refine ⟨_, rfl, o, _, 0, _, rfl, rfl, .inl (.inl ho'), atI_nat (j := 0) rfl, _, rfl, t, _, rfl, DGet.k (k := .inr (S n)) ht', ?_⟩
      rcases ents_val hv' (n := n) with ⟨h1, h2⟩ | ⟨b', ys', h1, h2, h3⟩
      · rw [h1]
        refine ⟨false, rfl, iteF ?_⟩
        rw [h2] at us'
        refine ⟨_, rfl, b, us, ?_, ?_⟩
        · rw [us']
          simpa using hd'
        · rw [us']
          simpa using hus
      · rw [h1]
        refine ⟨true, rfl, iteT ?_⟩
        refine ⟨_, rfl, _, rfl, o, _, 0, _, rfl, rfl, .inl (.inl ho'), atI_nat (j := 0) rfl, t, _, rfl, (by rw [← h1]; exact DGet.k (k := .inr (S n)) ht'), b', _, rfl, h2, _, _, rfl, rfl, _, rfl, ?_⟩
        have hl : ys'.length = (entsOf T n).length := by rw [h3.1, List.length_map]
        by_cases hz : (entsOf T n).isEmpty = true
        · have h0 : ys'.length = 0 := by rw [hl]; simpa using hz
          rw [h0]
          refine iteF ?_
          rw [if_pos hz, List.append_nil] at us'
          refine ⟨_, rfl, b, us, ?_, ?_⟩
          · rw [us']
            exact hd'
          · rw [us']
            exact hus
        · have h0 : 0 < ys'.length := by
            rw [hl]
            cases e : entsOf T n with
            | nil => rw [e] at hz; exact absurd rfl hz
            | cons x xs => simp
          rw [decide_eq_true (show (0 : Int) < (ys'.length : Int) by omega)]
          refine iteT ?_
          rw [if_neg hz] at us'
          refine ⟨_, rfl, _, rfl, o, _, 0, _, rfl, rfl, .inl (.inl ho'), atI_nat (j := 0) rfl, t, _, rfl, (by rw [← h1]; exact DGet.k (k := .inr (S n)) ht'), b', _, rfl, h2, fun l hl => ?_⟩
          generalize hXq : upd _ l _ = H4
          have s4 := laid_same hXq hl
          have e4 := laid_at hXq
          clear hXq
          have hd4 := s4 _ _ hd'
          refine ⟨_, rfl, _, rfl, o, _, 0, _, rfl, rfl, .inl (.inl (s4 _ _ ho')), atI_nat (j := 0) rfl, d, _, rfl, DPut.k (k := .inr (S n)) hd4 (Nat.lt_of_le_of_lt (show _ ≤ 10 by rw [kvsOf_len hus.1]; exact upTo_len g) (by decide)), ?_⟩
          refine ⟨_, rfl, (b.trans (Bar.same s4)).trans Bar.at_, us ++ [.ref l], ?_, ?_⟩
          · rw [upd_same, putK_new _ (val_none (upTo_ne g hn)), us', kvsOf_snoc hus.1]
          · rw [us']
            exact ((hus.same s4).snoc e4 (h3.same s4)).bar Bar.at_ hd4
    · rintro σ H' ⟨_, rfl, b, us, hd', hus⟩
      rw [allLen, upTo_all] at hd' hus
      refine ⟨_, rfl, q d H' hd (fun c o e => ?_) ⟨us, hd', hus⟩⟩
      exact b c o (fun z => by rw [z, hd] at e; cases e) (sm _ _ e)
end
end Law
end
section
set_option Elab.async false
set_option linter.all false
set_option maxRecDepth 100000
set_option maxHeartbeats 4000000
namespace Law
open PySem PySem.Spec PyProof.Rows L2 IK SX
/-! ### how worlds and tables are shown -/
structure Fine (k w : Nat) (d : PyData) : Prop where
  ls : d.leavesShort 13 = true
  sh : d.showable = true
  nd : d.hasDict = false
  dp : d.depth ≤ k
  wt : d.weight ≤ w
theorem Fine.mono {k w k' w' : Nat} {d : PyData} (h : Fine k w d) (h1 : k ≤ k') (h2 : w ≤ w') : Fine k' w' d := ⟨h.ls, h.sh, h.nd, Nat.le_trans h.dp h1, Nat.le_trans h.wt h2⟩
theorem log_lt {n : Nat} (h : n < 1000000000000) : n.log2 < 40 := by
  by_cases h0 : n = 0
  · subst h0
    decide
  · exact (Nat.log2_lt h0).mpr (Nat.lt_trans h (by decide))
theorem fine_int {i : Int} (h : i.natAbs < 1000000000000) : Fine 0 41 (.int i) := by
  have hl := log_lt h
  refine ⟨?_, ?_, rfl, Nat.le_refl _, ?_⟩
  · show decide ((PyData.shown (.int i)).length ≤ 13) = true
    exact decide_eq_true (PyData.shown_int_le h)
  · show decide (i.natAbs.log2 < 1920) = true
    exact decide_eq_true (by omega)
  · show (if i == 0 then 0 else i.natAbs.log2 + 1) ≤ 41
    split <;> omega
theorem fine_name {l : List Nat} (h : isName l = true) : Fine 0 41 (.str (S l)) := by
  obtain ⟨h1, h2, h3⟩ := isName_len h
  refine ⟨?_, rfl, rfl, Nat.le_refl _, ?_⟩
  · show (l.all fun c => decide (c < 16 ^ 8)) = true
    rw [List.all_eq_true]
    intro c hc
    have := h3 c hc
    exact decide_eq_true (Nat.lt_of_le_of_lt this.2 (by decide))
  · show l.toArray.size ≤ 41
    have : l.toArray.size = l.length := by simp
    omega
theorem fine_all {k w : Nat} : ∀ {ds : List PyData}, (∀ d ∈ ds, Fine k w d) → PyData.leavesShortAll 13 ds = true ∧ PyData.showableAll ds = true ∧ PyData.hasDictAll ds = false ∧ PyData.depthAll ds ≤ k ∧ PyData.weightAll ds ≤ ds.length * (w + 1)
  | [], _ => ⟨rfl, rfl, rfl, Nat.zero_le _, by simp [PyData.weightAll]⟩
  | d :: ds, h => by
    obtain ⟨b1, b2, b3, b4, b5⟩ := fine_all (ds := ds) fun x hx => h x (List.mem_cons_of_mem _ hx)
    have a := h d List.mem_cons_self
    refine ⟨?_, ?_, ?_, ?_, ?_⟩
    · rw [PyData.leavesShortAll, a.ls, b1]; rfl
    · rw [PyData.showableAll, a.sh, b2]; rfl
    · rw [PyData.hasDictAll, a.nd, b3]; rfl
    · rw [PyData.depthAll]
      have := a.dp
      omega
    · rw [PyData.weightAll, List.length_cons, Nat.add_mul]
      have := a.wt
      omega
theorem fine_tup {k w n : Nat} {ds : List PyData} (h : ∀ d ∈ ds, Fine k w d) (hl : ds.length ≤ n) : Fine (k + 1) (n * (w + 1)) (.tuple ds) := by
  obtain ⟨b1, b2, b3, b4, b5⟩ := fine_all h
  refine ⟨b1, b2, b3, ?_, Nat.le_trans b5 (Nat.mul_le_mul_right _ hl)⟩
  rw [PyData.depth]
  omega
theorem fine_lst {k w n : Nat} {ds : List PyData} (h : ∀ d ∈ ds, Fine k w d) (hl : ds.length ≤ n) : Fine (k + 1) (n * (w + 1)) (.list ds) := by
  obtain ⟨b1, b2, b3, b4, b5⟩ := fine_all h
  refine ⟨b1, b2, b3, ?_, Nat.le_trans b5 (Nat.mul_le_mul_right _ hl)⟩
  rw [PyData.depth]
  omega
theorem Fine.fits {k w : Nat} {d : PyData} (h : Fine k w d) (hw : w ≤ 1000000) : d.shown.length ≤ sizeLine := PyData.shown_fits (B := 13) (by decide) (by decide) h.ls (Nat.le_trans h.wt (Nat.le_trans hw (by decide)))
def vD : V → PyData
  | .int i => .int i
  | .str x => .str x
  | _ => .none
/-- a number or a name -/
def Cell (v : V) : Prop := (∃ i : Int, v = .int i ∧ i.natAbs < 1000000000000) ∨ ∃ l, v = .str (S l) ∧ isName l = true
theorem cells_dp {K : PySem.W.Frag} {H : Hp} : ∀ {r : List V}, (∀ v ∈ r, Cell v) → DpAll K H r (r.map vD)
  | [], _ => .nil
  | v :: r, h => by
    refine .cons ?_ (cells_dp fun x hx => h x (List.mem_cons_of_mem _ hx))
    rcases h v List.mem_cons_self with ⟨i, rfl, _⟩ | ⟨l, rfl, _⟩
    · exact .int i
    · exact .str _
theorem cell_fine {v : V} (h : Cell v) : Fine 0 41 (vD v) := by
  rcases h with ⟨i, rfl, h⟩ | ⟨l, rfl, h⟩
  · exact fine_int h
  · exact fine_name h
def rowD (r : List V) : PyData := .tuple (r.map vD)
theorem row_fine {r : List V} (h : ∀ v ∈ r, Cell v) (hl : r.length ≤ 8) : Fine 1 336 (rowD r) := fine_tup (n := 8) (fun d hd => by
  obtain ⟨v, hv, rfl⟩ := List.mem_map.mp hd
  exact cell_fine (h v hv)) (by rw [List.length_map]; exact hl)
theorem rows_dp {K : PySem.W.Frag} {H : Hp} : ∀ {ys : List V} {rows : List (List V)}, RowsIs H ys rows → (∀ r ∈ rows, ∀ v ∈ r, Cell v) → DpAll K H ys (rows.map rowD)
  | [], [], _, _ => .nil
  | [], r :: rs, h, _ => by have := h.1; simp at this
  | y :: ys, [], h, _ => by have := h.1; simp at this
  | y :: ys, r :: rs, h, hc => by
    obtain ⟨a, rfl, ha⟩ := h.2 0 y r rfl rfl
    exact .cons (.tup (.inl (.inl ha)) (cells_dp (hc r List.mem_cons_self))) (rows_dp ⟨by simpa using h.1, fun i v e h1 h2 => h.2 (i + 1) v e (by simpa using h1) (by simpa using h2)⟩ fun x hx => hc x (List.mem_cons_of_mem _ hx))
def toldD (W : Wld) : PyData := .tuple [.int W.begin, .tuple (W.ports.map fun w => .str (S w)), .tuple ((W.chans.map Chan.vals).map rowD), .tuple ((W.brks.map Brk.vals).map rowD), .tuple ((W.shps.map Shp.row).map rowD)]
theorem cell_name {l : List Nat} (h : isName l = true) : Cell (.str (S l)) := .inr ⟨l, rfl, h⟩
theorem cell_int {i : Int} (h : -10000000 ≤ i ∧ i ≤ 1000000000) : Cell (.int i) := .inl ⟨i, rfl, by omega⟩
theorem chan_cells {c : Chan} (g : c.Good) : ∀ v ∈ c.vals, Cell v := by
  intro v hv
  have := g.hours; have := g.depth; have := g.first; have := g.growth; have := g.most
  simp only [Chan.vals, List.mem_cons, List.not_mem_nil, or_false] at hv
  rcases hv with rfl | rfl | rfl | rfl | rfl | rfl | rfl | rfl
  · exact cell_name g.name
  · exact cell_name g.one
  · exact cell_name g.other
  all_goals exact cell_int (by omega)
theorem brk_cells {c : Brk} (g : c.Good) : ∀ v ∈ c.vals, Cell v := by
  intro v hv
  have := g.ves.hour; have := g.ves.strength; have := g.ves.draught; have := g.cut
  simp only [Brk.vals, Ves.vals, List.cons_append, List.nil_append, List.mem_cons, List.not_mem_nil, or_false] at hv
  rcases hv with rfl | rfl | rfl | rfl | rfl | rfl
  · exact cell_name g.ves.name
  · exact cell_name g.ves.port
  all_goals exact cell_int (by omega)
theorem shp_cells {c : Shp} (g : c.Good) : ∀ v ∈ c.row, Cell v := by
  intro v hv
  have := g.ves.hour; have := g.ves.strength; have := g.ves.draught
  simp only [Shp.row, List.mem_cons, List.not_mem_nil, or_false] at hv
  rcases hv with rfl | rfl | rfl | rfl | rfl | rfl
  · exact cell_name g.ves.name
  · exact cell_name g.ves.port
  · exact cell_name g.goal
  all_goals exact cell_int (by omega)
theorem mems {α : Type} {f : α → List V} {l : List α} (h : ∀ a ∈ l, ∀ v ∈ f a, Cell v) : ∀ r ∈ l.map f, ∀ v ∈ r, Cell v := fun r hr => by
  obtain ⟨a, ha, rfl⟩ := List.mem_map.mp hr
  exact h a ha
theorem told_dp {K : PySem.W.Frag} {H : Hp} {a : Addr} {W : Wld} (h : ToldAt H a W) (g : W.Good) : Dp K H (.ref a) (toldD W) := by
  obtain ⟨ap, ac, ab, as, yc, yb, ys, h1, h2, h3, h4, h5, h6, h7, h8⟩ := h
  exact .tup (.inl (.inl h1)) (.cons (.int _) (.cons (.tup (.inl (.inl h2)) (dp_strs _)) (.cons (.tup (.inl (.inl h3)) (rows_dp h4 (mems fun c hc => chan_cells (g.good c hc))))
    (.cons (.tup (.inl (.inl h5)) (rows_dp h6 (mems fun c hc => brk_cells (g.bgood c hc)))) (.cons (.tup (.inl (.inl h7)) (rows_dp h8 (mems fun c hc => shp_cells (g.sgood c hc)))) .nil)))))
theorem told_fine {W : Wld} (g : W.Good) : Fine 3 20230 (toldD W) := by
  have h1 : ∀ {α : Type} {f : α → List V} {l : List α} {n : Nat}, (∀ a ∈ l, ∀ v ∈ f a, Cell v) → (∀ a, (f a).length ≤ 8) → l.length ≤ n → n ≤ 12 → Fine 2 4045 (.tuple ((l.map f).map rowD)) := fun h hf hl hn => (fine_tup (k := 1) (w := 336) (n := 12) (fun d hd => by
    obtain ⟨r, hr, rfl⟩ := List.mem_map.mp hd
    obtain ⟨a, ha, rfl⟩ := List.mem_map.mp hr
    exact row_fine (h a ha) (hf a)) (by rw [List.length_map, List.length_map]; omega)).mono (by decide) (by decide)
  refine (fine_tup (k := 2) (w := 4045) (n := 5) (fun d hd => ?_) (Nat.le_of_ble_eq_true rfl)).mono (by decide) (by decide)
  simp only [List.mem_cons, List.not_mem_nil, or_false] at hd
  rcases hd with rfl | rfl | rfl | rfl | rfl
  · exact (fine_int (by have := g.begin; omega)).mono (by decide) (by decide)
  · refine (fine_tup (k := 0) (w := 41) (n := 8) (fun d hd => ?_) (by rw [List.length_map]; exact g.ports.2)).mono (by decide) (by decide)
    obtain ⟨w, hw, rfl⟩ := List.mem_map.mp hd
    exact fine_name (g.names w hw)
  · exact h1 (fun c hc => chan_cells (g.good c hc)) (fun a => by simp) g.chans (by decide)
  · exact h1 (fun c hc => brk_cells (g.bgood c hc)) (fun a => by simp) g.brks (by decide)
  · exact h1 (fun c hc => shp_cells (g.sgood c hc)) (fun a => by simp) g.shps (by decide)
/-- repr of what a world tells -/
theorem repr_told {K : PySem.W.Frag} {H : Hp} {a : Addr} {W : Wld} {Q : VK} (h : ToldAt H a W) (g : W.Good) (q : Q (.str (toldD W).shown) H) : rRepr K [.ref a] H Q := by
  have f := told_fine g
  exact ⟨a, toldD W, rfl, told_dp h g, f.sh, f.nd, Nat.le_trans f.dp (by decide), f.fits (by decide), q⟩
/-! tables -/
/-- the data of a table's values -/
def EntsD (K : PySem.W.Frag) (H : Hp) (vs : List V) (T : Tab) (ds : List PyData) : Prop := vs.length = T.length ∧ ds.length = T.length ∧ ∀ (i : Nat) (v : V) (e : List Nat × List Ent) (d : PyData), vs[i]? = some v → T[i]? = some e → ds[i]? = some d →
  ∃ b ys, v = .ref b ∧ RowsIs H ys (e.2.map entV) ∧ ((SqL K H b ys ∧ d = .list ((e.2.map entV).map rowD)) ∨ (SqT K H b ys ∧ d = .tuple ((e.2.map entV).map rowD)))
theorem EntsD.nb {K : PySem.W.Frag} {H H' : Hp} {vs : List V} {T : Tab} {ds : List PyData} (h : EntsD K H vs T ds) (s : Nb H H') : EntsD K H' vs T ds := ⟨h.1, h.2.1, fun i v e d h1 h2 h3 => by
  obtain ⟨b, ys, e1, e2, e3⟩ := h.2.2 i v e d h1 h2 h3
  refine ⟨b, ys, e1, e2.nb s, ?_⟩
  rcases e3 with ⟨k, z⟩ | ⟨k, z⟩
  · refine .inl ⟨?_, z⟩
    rcases k with k | k
    · exact .inl (nb_rd s (nb_rows e2) k)
    · exact .inr k
  · refine .inr ⟨?_, z⟩
    rcases k with k | k
    · exact .inl (nb_rd s rfl k)
    · exact .inr k⟩
theorem entsD_of {K : PySem.W.Frag} {H : Hp} : ∀ {vs : List V} {T : Tab}, EntsAt K H vs T → ∃ ds, EntsD K H vs T ds
  | [], [], _ => ⟨[], rfl, rfl, fun i v e d h => by simp at h⟩
  | [], e :: T, h => by have := h.1; simp at this
  | v :: vs, [], h => by have := h.1; simp at this
  | v :: vs, e :: T, h => by
    obtain ⟨ds, k1, k2, k3⟩ := entsD_of (vs := vs) (T := T) ⟨by simpa using h.1, fun i v e h1 h2 => h.2 (i + 1) v e (by simpa using h1) (by simpa using h2)⟩
    obtain ⟨b, ys, e1, e2, e3⟩ := h.2 0 v e rfl rfl
    have key : ∃ d, (SqL K H b ys ∧ d = PyData.list ((e.2.map entV).map rowD)) ∨ (SqT K H b ys ∧ d = PyData.tuple ((e.2.map entV).map rowD)) := by
      rcases e2 with e2 | e2
      · exact ⟨_, .inl ⟨e2, rfl⟩⟩
      · exact ⟨_, .inr ⟨e2, rfl⟩⟩
    obtain ⟨d, hd⟩ := key
    refine ⟨d :: ds, by simp [k1], by simp [k2], fun i v' e' d' h1 h2 h3 => ?_⟩
    cases i with
    | zero =>
      obtain rfl : v = v' := by simpa using h1
      obtain rfl : e = e' := by simpa using h2
      obtain rfl : d = d' := by simpa using h3
      exact ⟨b, ys, e1, e3, hd⟩
    | succ i => exact k3 i v' e' d' (by simpa using h1) (by simpa using h2) (by simpa using h3)
/-- good entries: names of channels, hours far below -/
def EntsOk (T : Tab) : Prop := T.length ≤ 10 ∧ ∀ e ∈ T, isName e.1 = true ∧ e.2.length ≤ 12 ∧ ∀ x ∈ e.2, isName x.2 = true ∧ 0 ≤ x.1 ∧ x.1 ≤ 1000000000
theorem ent_cells {T : Tab} (h : EntsOk T) {e : List Nat × List Ent} (he : e ∈ T) : ∀ r ∈ e.2.map entV, ∀ v ∈ r, Cell v := fun r hr v hv => by
  obtain ⟨x, hx, rfl⟩ := List.mem_map.mp hr
  obtain ⟨k1, k2, k3⟩ := (h.2 e he).2.2 x hx
  simp only [entV, List.mem_cons, List.not_mem_nil, or_false] at hv
  rcases hv with rfl | rfl
  · exact cell_int (by omega)
  · exact cell_name k1
theorem entsD_dp {K : PySem.W.Frag} {H : Hp} : ∀ {vs : List V} {T : Tab} {ds : List PyData}, EntsD K H vs T ds → (∀ e ∈ T, ∀ r ∈ e.2.map entV, ∀ v ∈ r, Cell v) → (∀ e ∈ T, e.2.length ≤ 12) → DpAll K H vs ds ∧ ∀ d ∈ ds, Fine 2 4045 d
  | [], [], [], _, _, _ => ⟨.nil, fun _ h => by cases h⟩
  | [], [], d :: ds, h, _, _ => by have := h.2.1; simp at this
  | [], e :: T, _, h, _, _ => by have := h.1; simp at this
  | v :: vs, [], _, h, _, _ => by have := h.1; simp at this
  | v :: vs, e :: T, [], h, _, _ => by have := h.2.1; simp at this
  | v :: vs, e :: T, d :: ds, h, hc, hl => by
    obtain ⟨k1, k2⟩ := entsD_dp (vs := vs) (T := T) (ds := ds) ⟨by simpa using h.1, by simpa using h.2.1, fun i v e d h1 h2 h3 => h.2.2 (i + 1) v e d (by simpa using h1) (by simpa using h2) (by simpa using h3)⟩ (fun x hx => hc x (List.mem_cons_of_mem _ hx)) (fun x hx => hl x (List.mem_cons_of_mem _ hx))
    obtain ⟨b, ys, rfl, hr, hd⟩ := h.2.2 0 v e d rfl rfl rfl
    have c0 := hc e List.mem_cons_self
    have l0 := hl e List.mem_cons_self
    have f : ∀ x ∈ (e.2.map entV).map rowD, Fine 1 336 x := fun x hx => by
      obtain ⟨r, hr, rfl⟩ := List.mem_map.mp hx
      obtain ⟨y, hy, rfl⟩ := List.mem_map.mp hr
      exact row_fine (c0 _ hr) (by simp [entV])
    have len : ((e.2.map entV).map rowD).length ≤ 12 := by rw [List.length_map, List.length_map]; exact l0
    refine ⟨.cons ?_ k1, fun x hx => ?_⟩
    · rcases hd with ⟨k, rfl⟩ | ⟨k, rfl⟩
      · exact .lst k (rows_dp hr c0)
      · exact .tup k (rows_dp hr c0)
    · rcases List.mem_cons.mp hx with rfl | hx
      · rcases hd with ⟨k, rfl⟩ | ⟨k, rfl⟩
        · exact (fine_lst (n := 12) f len).mono (by decide) (by decide)
        · exact (fine_tup (n := 12) f len).mono (by decide) (by decide)
      · exact k2 x hx
theorem kv_fine {w : Nat} : ∀ {ks ds : List PyData}, (∀ d ∈ ks, Fine 0 41 d) → (∀ d ∈ ds, Fine 2 w d) → PyData.leavesShortKv 13 (ks.zip ds) = true ∧ PyData.showableKv (ks.zip ds) = true ∧ PyData.depthKv (ks.zip ds) ≤ 2 ∧ PyData.weightKv (ks.zip ds) ≤ ds.length * (w + 43)
  | [], ds, _, _ => ⟨rfl, rfl, Nat.zero_le _, by simp [PyData.weightKv]⟩
  | k :: ks, [], _, _ => ⟨rfl, rfl, Nat.zero_le _, by simp [PyData.weightKv]⟩
  | k :: ks, d :: ds, h1, h2 => by
    obtain ⟨b1, b2, b3, b4⟩ := kv_fine (ks := ks) (ds := ds) (fun x hx => h1 x (List.mem_cons_of_mem _ hx)) fun x hx => h2 x (List.mem_cons_of_mem _ hx)
    have a := h1 k List.mem_cons_self
    have c := h2 d List.mem_cons_self
    rw [List.zip_cons_cons]
    refine ⟨?_, ?_, ?_, ?_⟩
    · rw [PyData.leavesShortKv, a.ls, c.ls, b1]; rfl
    · rw [PyData.showableKv, a.sh, c.sh, b2]; rfl
    · rw [PyData.depthKv]
      have := a.dp
      have := c.dp
      omega
    · rw [PyData.weightKv, List.length_cons, Nat.add_mul]
      have := a.wt
      have := c.wt
      omega
/-- the dict of these names and these data -/
def tabDs (T : Tab) (ds : List PyData) : PyData := .dict ((T.map fun e => PyData.str (S e.1)).zip ds)
theorem tabDs_eq {T : Tab} {vs : List V} {ds : List PyData} (h : vs.length = T.length) : dictD (kvsOf T vs) ds = tabDs T ds := by
  unfold dictD tabDs kvsOf
  have e : (((T.map fun e => (Sum.inr (S e.1) : Key)).zip vs).map fun p => keyD p.1) = (((T.map fun e => (Sum.inr (S e.1) : Key)).zip vs).map (·.1)).map keyD := by rw [List.map_map]; rfl
  rw [e, List.map_fst_zip (by rw [List.length_map, h]; exact Nat.le_refl _), List.map_map]
  rfl
/-- repr of a table -/
theorem repr_tab {K : PySem.W.Frag} {H : Hp} {a : Addr} {T : Tab} {vs : List V} {ds : List PyData} {Q : VK} (h : H a = some (.dK (kvsOf T vs))) (hd : EntsD K H vs T ds) (ok : EntsOk T) (q : Q (.str (tabDs T ds).shown) H) : rReprM K [.ref a] H Q := by
  obtain ⟨k1, k2⟩ := entsD_dp hd (fun e he => ent_cells ok he) fun e he => (ok.2 e he).2.1
  obtain ⟨b1, b2, b3, b4⟩ := kv_fine (ks := T.map fun e => PyData.str (S e.1)) (ds := ds) (fun d hd => by
    obtain ⟨e, he, rfl⟩ := List.mem_map.mp hd
    exact fine_name (ok.2 e he).1) k2
  have e2 : (kvsOf T vs).map (·.2) = vs := by
    unfold kvsOf
    exact List.map_snd_zip (by rw [List.length_map, hd.1]; exact Nat.le_refl _)
  refine ⟨a, kvsOf T vs, ds, rfl, h, by rw [e2]; exact k1, ?_, (fine_all k2).2.2.1, ?_, ?_, ?_⟩
  · rw [tabDs_eq hd.1]
    exact b2
  · rw [tabDs_eq hd.1, tabDs, PyData.depth]
    omega
  · rw [tabDs_eq hd.1]
    refine PyData.shown_fits (B := 13) (by decide) (by decide) b1 ?_
    show PyData.weightKv _ ≤ 2 ^ 20
    have h1 : ds.length ≤ 10 := by rw [hd.2.1]; exact ok.1
    have h2 : ds.length * (4045 + 43) ≤ 10 * (4045 + 43) := Nat.mul_le_mul_right _ h1
    omega
  · rw [tabDs_eq hd.1]
    exact q
/-- all values lists -/
def tabDL (T : Tab) : PyData := tabDs T (T.map fun e => PyData.list ((e.2.map entV).map rowD))
theorem valsL_D {K : PySem.W.Frag} {H : Hp} {vs : List V} {T : Tab} (h : ValsL H vs T) : EntsD K H vs T (T.map fun e => PyData.list ((e.2.map entV).map rowD)) := ⟨h.1, List.length_map _, fun i v e d h1 h2 h3 => by
  obtain ⟨b, ys, e1, e2, e3⟩ := h.2 i v e h1 h2
  rw [List.getElem?_map, h2] at h3
  exact ⟨b, ys, e1, e3, .inl ⟨.inl (.inl e2), (Option.some.inj h3).symm⟩⟩⟩
theorem repr_tabL {K : PySem.W.Frag} {H : Hp} {a : Addr} {T : Tab} {Q : VK} (h : TabL H a T) (ok : EntsOk T) (q : Q (.str (tabDL T).shown) H) : rReprM K [.ref a] H Q := by
  obtain ⟨vs, h1, h2⟩ := h
  exact repr_tab h1 (valsL_D h2) ok q
end Law
end
section
set_option Elab.async false
set_option linter.all false
set_option maxRecDepth 100000
set_option maxHeartbeats 4000000
namespace Law
open PySem PySem.Spec PyProof.Rows L2 IK SX
/-- e's value, locked from then on -/
def tLockV (te : TE) : TE := fun σ H Q => te σ H fun x H1 => ∃ d u, x = .ref d ∧ H1 d = some u ∧ Mut (some u) ∧ ∀ od, Q x (upd H1 d (.frz od u))
theorem pe_lockV {X : Cx} {e : Expr} {te : TE} (he : PE X e te) : PE X e (tLockV te) := ⟨fun pins s σ H Q I h => by
  refine thn (he.run pins s σ H _ I h) fun v s1 z => ?_
  obtain ⟨x, H1, I1, r, d, u, rfl, hd, mu, q⟩ := z
  obtain ⟨od, I2⟩ := I1.lock hd mu
  exact ⟨_, _, I2, r, q od⟩⟩
def spDue : Sp := fun vs H Q _ => ∃ (a : Addr) (W : Wld) (n : Int), vs = [.ref a, .int n] ∧ ToldAt H a W ∧ W.Good ∧ ∀ b H', H b = none → Same H H' → ToldAt H' b (W.later n) → Q (.ref b) H'
def spDueT (K : PySem.W.Frag) : Sp := fun vs H Q _ => ∃ (a t : Addr) (W : Wld) (T : Tab) (n : Int), vs = [.ref a, .ref t, .int n] ∧ ToldAt H a W ∧ W.Good ∧ TabAt K H t T ∧ TGood W T ∧ ∀ b H', H b = none → Same H H' → TabL H' b (tabLater n (tabTold W T)) → Q (.ref b) H'
def spRefused (K : PySem.W.Frag) (k : KA) : Sp := fun vs H Q _ => ∃ (p : Addr) (tv : V) (W : Wld) (n : Int), vs = [.ref p, tv, .int n] ∧ WldAt k H p W ∧ W.Good ∧ ((tv = .non ∧ ¬ Fits W n) ∨ ∃ t T, tv = .ref t ∧ TabAt K H t T ∧ TGood W T ∧ ¬ (0 ≤ n ∧ n ≤ 1000000)) ∧ True ∧ ∀ H', Same H H' → Q (.bl true) H'
section
variable {P : Program} {w : World} {K : PySem.W.Frag} {mg : Str → Option Value} {base : Heap}
theorem ok_due {f : Addr} {fd : FuncData} (F : Fun K "_law_due" "_law_due" s__law_due f fd) (B : Blt mg) : FnOk P w K mg base CX0 1 f fd ["_law_world_here", "_law_many"] spDue := by
  refine F.ok sc__law_due (fun vs H Q E h => ?_) (fun cdv A outer s H vs Q E hr h => ?_)
  · obtain ⟨a, W, n, rfl, _⟩ := h
    rfl
  · obtain ⟨a, W, n, rfl, hT, g, q⟩ := h
    refine ⟨_, (pss_cons (ps_asg (pv 0) (pg_tup rfl (pgs_cons (pg_name (i := 2) sc__law_due.nd rfl (.inl rfl)) (pgs_cons (pg_name (i := 3) sc__law_due.nd rfl (.inl rfl)) (pgs_cons (pg_name (i := 4) sc__law_due.nd rfl (.inl rfl)) (pgs_cons (pg_name (i := 5) sc__law_due.nd rfl (.inl rfl)) (pgs_cons (pg_name (i := 6) sc__law_due.nd rfl (.inl rfl)) pgs_nil)))))))
      (pss_cons (ps_set (i := 7) sc__law_due.nd rfl (.inl rfl) (pe_callTy call_tuple_of (by rfl) B.tuple (by decide +kernel) (pa_cons (pe_lc (own := [("_law_row", 9)]) (g := gName 9) (tt := tYes) rfl sc__law_due.nd (pi_seq (pv 5)) (blkOk_by (N := ["_law_world_here", "_law_many", "_law_begin", "_law_ports", "_law_channels", "_law_breakers", "_law_ships", "_law_first", "_law_last", "_law_row"]) (sc := defScope s__law_due) (by decide +kernel)) (fun _ _ _ _ _ => pg_name (i := 9) sc__law_due.nd rfl (Or.inl rfl)) (fun _ _ _ _ _ => pts_nil) (fun _ _ _ _ _ => (pe_op (show OpR _ (binaryOp .Add) (rCatT K) from op_catT) (pe_op (show OpR _ (binaryOp .Add) (rCatT K) from op_catT) (pe_slice (show SlR _ (rSlT K) from sl_tup) (pv 9) po_none (po_some pe_int)) (pe_tup (pa_cons (pe_op op_add (pe_ix (show IxR _ (rIxT K) from ix_tup) (pv 9) pe_int (fun _ _ => rfl)) (pv 1)) pa_nil))) (pe_slice (show SlR _ (rSlT K) from sl_tup) (pv 9) (po_some pe_int) po_none)))) pa_nil)))
      (pss_cons (ps_set (i := 8) sc__law_due.nd rfl (.inl rfl) (pe_callTy call_tuple_of (by rfl) B.tuple (by decide +kernel) (pa_cons (pe_lc (own := [("_law_row", 9)]) (g := gName 9) (tt := tYes) rfl sc__law_due.nd (pi_seq (pv 6)) (blkOk_by (N := ["_law_world_here", "_law_many", "_law_begin", "_law_ports", "_law_channels", "_law_breakers", "_law_ships", "_law_first", "_law_last", "_law_row"]) (sc := defScope s__law_due) (by decide +kernel)) (fun _ _ _ _ _ => pg_name (i := 9) sc__law_due.nd rfl (Or.inl rfl)) (fun _ _ _ _ _ => pts_nil) (fun _ _ _ _ _ => (pe_op (show OpR _ (binaryOp .Add) (rCatT K) from op_catT) (pe_op (show OpR _ (binaryOp .Add) (rCatT K) from op_catT) (pe_slice (show SlR _ (rSlT K) from sl_tup) (pv 9) po_none (po_some pe_int)) (pe_tup (pa_cons (pe_op op_add (pe_ix (show IxR _ (rIxT K) from ix_tup) (pv 9) pe_int (fun _ _ => rfl)) (pv 1)) pa_nil))) (pe_slice (show SlR _ (rSlT K) from sl_tup) (pv 9) (po_some pe_int) po_none)))) pa_nil)))
      (pss_one (ps_ret (pe_tup (pa_cons (pe_op op_add (pv 2) (pv 1)) (pa_cons (pv 3) (pa_cons (pv 4) (pa_cons (pv 7) (pa_cons (pv 8) pa_nil))))))))))), ?_⟩
    obtain ⟨ap, ac, ab, as, yc, yb, ys, t1, t2, t3, t4, t5, t6, t7, t8⟩ := id hT
    have lb1 : yb.length ≤ 4 := by rw [t6.1, List.length_map]; exact g.brks
    have ls1 : ys.length ≤ 6 := by rw [t8.1, List.length_map]; exact g.shps
    have sm := Same.refl H
    refine ⟨_, rfl, a, _, rfl, .inl (.inl t1), rfl, _, _, rfl, _, _, rfl, _, _, rfl, _, _, rfl, _, _, rfl, rfl, ?_⟩
    refine ⟨_, rfl, ab, rfl, lc_map (fun x y H' => ∃ p b, x = .ref p ∧ H p = some (.tup (Brk.vals b)) ∧ ∃ a, y = .ref a ∧ H' a = some (.tup (Brk.vals (Brk.later n b)))) (.t (sm _ _ t5)) (Nat.lt_of_le_of_lt lb1 (by decide)) (fun x y H H' s ⟨p, b, e, o, a, e2, h⟩ => ⟨p, b, e, o, a, e2, s _ _ h⟩)
      (fun x y H D l hD ⟨p, b, e, o, a, e2, h⟩ => ⟨p, b, e, o, a, e2, hide_of hD (fun _ z => by cases z) h⟩) ?_ ?_⟩
    · intro x J0 kk hx s0 kq
      obtain ⟨o, b, rfl, _, e⟩ := t6.mem hx
      have e0 := s0 _ _ (sm _ _ e)
      refine ⟨rfl, _, rfl, _, rfl, o, _, rfl, .inl (.inl e0), (by show ¬ (HT.sIx 6 0 none = 0 ∧ HT.sIx 6 6 (some 2) = 6); decide +kernel), fun q1 hq1 => ?_⟩
      generalize hXq : upd _ q1 _ = J1
      have s1' := laid_same hXq hq1
      have e1' := laid_at hXq
      clear hXq
      refine ⟨_, rfl, o, _, 2, _, rfl, rfl, .inl (.inl (s1' _ _ e0)), rfl, _, rfl, _, _, rfl, rfl, ?_⟩
      refine ⟨Nat.le_of_ble_eq_true rfl, fun t ht => ?_⟩
      generalize hXq : upd _ t _ = J2
      have s2' := laid_same hXq ht
      have e2' := laid_at hXq
      clear hXq
      refine ⟨q1, t, _, _, rfl, rfl, .inl (.inl (s2' _ _ e1')), .inl (.inl e2'), (by intro z; cases z), Nat.le_of_ble_eq_true rfl, (fun z => by cases z), fun _ q2 hq2 => ?_⟩
      generalize hXq : upd _ q2 _ = J3
      have s3' := laid_same hXq hq2
      have e3' := laid_at hXq
      clear hXq
      refine ⟨_, rfl, _, rfl, o, _, rfl, .inl (.inl (s3' _ _ (s2' _ _ (s1' _ _ e0)))), (by show ¬ (HT.sIx 6 0 (some 3) = 0 ∧ HT.sIx 6 6 none = 6); decide +kernel), fun q3 hq3 => ?_⟩
      generalize hXq : upd _ q3 _ = J4
      have s4' := laid_same hXq hq3
      have e4' := laid_at hXq
      clear hXq
      refine ⟨q2, q3, _, _, rfl, rfl, .inl (.inl (s4' _ _ e3')), .inl (.inl e4'), (by intro z; cases z), Nat.le_of_ble_eq_true rfl, (fun z => by cases z), fun _ q5 hq5 => ?_⟩
      generalize hXq : upd _ q5 _ = J5
      have s5' := laid_same hXq hq5
      have e5' := laid_at hXq
      clear hXq
      exact kq _ _ (s1'.trans (s2'.trans (s3'.trans (s4'.trans s5')))) ⟨o, b, rfl, e, q5, rfl, e5'⟩
    intro D3 zb J6 hD s7 hyD3 e
    have rD3 := rows_map (brk_later n) t6 e
    clear e
    have sm := sm.trans s7
    refine ⟨D3, _, rfl, .inl ⟨.inl (.inl hyD3), fun u1 hu1 => ?_⟩⟩
    generalize hXq : upd _ u1 _ = G1
    have v1 := laid_same hXq hu1
    have f1 := laid_at hXq
    clear hXq
    have rD3 := rD3.same v1
    have sm := sm.trans v1
    refine ⟨_, rfl, as, rfl, lc_map (fun x y H' => ∃ p b, x = .ref p ∧ H p = some (.tup (Shp.row b)) ∧ ∃ a, y = .ref a ∧ H' a = some (.tup (Shp.row (Shp.later n b)))) (.t (sm _ _ t7)) (Nat.lt_of_le_of_lt ls1 (by decide)) (fun x y H H' s ⟨p, b, e, o, a, e2, h⟩ => ⟨p, b, e, o, a, e2, s _ _ h⟩)
      (fun x y H D l hD ⟨p, b, e, o, a, e2, h⟩ => ⟨p, b, e, o, a, e2, hide_of hD (fun _ z => by cases z) h⟩) ?_ ?_⟩
    · intro x J0 kk hx s0 kq
      obtain ⟨o, b, rfl, _, e⟩ := t8.mem hx
      have e0 := s0 _ _ (sm _ _ e)
      refine ⟨rfl, _, rfl, _, rfl, o, _, rfl, .inl (.inl e0), (by show ¬ (HT.sIx 6 0 none = 0 ∧ HT.sIx 6 6 (some 3) = 6); decide +kernel), fun q1 hq1 => ?_⟩
      generalize hXq : upd _ q1 _ = J1
      have s1' := laid_same hXq hq1
      have e1' := laid_at hXq
      clear hXq
      refine ⟨_, rfl, o, _, 3, _, rfl, rfl, .inl (.inl (s1' _ _ e0)), rfl, _, rfl, _, _, rfl, rfl, ?_⟩
      refine ⟨Nat.le_of_ble_eq_true rfl, fun t ht => ?_⟩
      generalize hXq : upd _ t _ = J2
      have s2' := laid_same hXq ht
      have e2' := laid_at hXq
      clear hXq
      refine ⟨q1, t, _, _, rfl, rfl, .inl (.inl (s2' _ _ e1')), .inl (.inl e2'), (by intro z; cases z), Nat.le_of_ble_eq_true rfl, (fun z => by cases z), fun _ q2 hq2 => ?_⟩
      generalize hXq : upd _ q2 _ = J3
      have s3' := laid_same hXq hq2
      have e3' := laid_at hXq
      clear hXq
      refine ⟨_, rfl, _, rfl, o, _, rfl, .inl (.inl (s3' _ _ (s2' _ _ (s1' _ _ e0)))), (by show ¬ (HT.sIx 6 0 (some 4) = 0 ∧ HT.sIx 6 6 none = 6); decide +kernel), fun q3 hq3 => ?_⟩
      generalize hXq : upd _ q3 _ = J4
      have s4' := laid_same hXq hq3
      have e4' := laid_at hXq
      clear hXq
      refine ⟨q2, q3, _, _, rfl, rfl, .inl (.inl (s4' _ _ e3')), .inl (.inl e4'), (by intro z; cases z), Nat.le_of_ble_eq_true rfl, (fun z => by cases z), fun _ q5 hq5 => ?_⟩
      generalize hXq : upd _ q5 _ = J5
      have s5' := laid_same hXq hq5
      have e5' := laid_at hXq
      clear hXq
      exact kq _ _ (s1'.trans (s2'.trans (s3'.trans (s4'.trans s5')))) ⟨o, b, rfl, e, q5, rfl, e5'⟩
    intro D4 zs J6 hD s7 hyD4 e
    have rD4 := rows_map (shp_later n) t8 e
    clear e
    have sm := sm.trans s7
    refine ⟨D4, _, rfl, .inl ⟨.inl (.inl hyD4), fun u2 hu2 => ?_⟩⟩
    generalize hXq : upd _ u2 _ = G2
    have v2 := laid_same hXq hu2
    have f2 := laid_at hXq
    clear hXq
    have rD4 := rD4.same v2
    have sm := sm.trans v2
    refine ⟨_, rfl, _, rfl, _, _, rfl, rfl, _, rfl, _, rfl, _, rfl, _, rfl, ?_⟩
    refine ⟨Nat.le_of_ble_eq_true rfl, fun u3 hu3 => ?_⟩
    generalize hXq : upd _ u3 _ = G3
    have v3 := laid_same hXq hu3
    have f3 := laid_at hXq
    clear hXq
    have fb : RowsIs G3 zb ((W.later n).brks.map Brk.vals) := by
      show RowsIs G3 zb ((W.brks.map (Brk.later n)).map Brk.vals)
      rw [List.map_map]
      exact rD3.same (s7.trans (v2.trans v3))
    have fs : RowsIs G3 zs ((W.later n).shps.map Shp.row) := by
      show RowsIs G3 zs ((W.shps.map (Shp.later n)).map Shp.row)
      rw [List.map_map]
      exact rD4.same v3
    exact q u3 G3 (none_back sm hu3) (sm.trans v3) ⟨ap, ac, u1, u2, yc, zb, zs, f3, v3 _ _ (sm _ _ t2), v3 _ _ (sm _ _ t3), t4.same (sm.trans v3), v3 _ _ (v2 _ _ (s7 _ _ f1)), fb, v3 _ _ f2, fs⟩
theorem ok_dueT {f : Addr} {fd : FuncData} (F : Fun K "_law_due_table" "_law_due_table" s__law_due_table f fd) (B : Blt mg) (DA : Dn P w K mg base CX0 1 "_law_anew" ["_law_world_here", "_law_table_here"] (spAnewT K)) : FnOk P w K mg base CX0 2 f fd ["_law_world_here", "_law_table_here", "_law_many"] (spDueT K) := by
  refine F.ok sc__law_due_table (fun vs H Q E h => ?_) (fun cdv A outer s H vs Q E hr h => ?_)
  · obtain ⟨a, t, W, T, n, rfl, _⟩ := h
    rfl
  · obtain ⟨a, t, W, T, n, rfl, hT, g, hTab, tg, q⟩ := h
    have hu := room_u1 hr
    refine ⟨_, (pss_cons (ps_set (i := 3) sc__law_due_table.nd rfl (.inl rfl) pe_dnewK)
      (pss_cons (ps_for PassesOwn.never rfl (pi_items (pe_lockV (pe_d DA (hr.mono (by decide)) (by rfl) pass0 (pa_cons (pv 0) (pa_cons (pv 1) pa_nil))))) (pg_tup rfl (pgs_cons (pg_name (i := 4) sc__law_due_table.nd rfl (.inl rfl)) (pgs_cons (pg_name (i := 5) sc__law_due_table.nd rfl (.inl rfl)) pgs_nil)))
      (pss_one (ps_dput hu (pv 3) (pv 4) (pe_lc (own := [("_law_hour", 6), ("_law_channel_here", 7)]) (g := gTup K 2 (gCons (gName 6) (gCons (gName 7) gNil))) (tt := tYes) rfl sc__law_due_table.nd (pi_seq (pv 5)) (blkOk_by (N := ["_law_world_here", "_law_table_here", "_law_many", "_law_found", "_law_name", "_law_entries", "_law_hour", "_law_channel_here"]) (sc := defScope s__law_due_table) (by decide +kernel)) (fun _ _ _ _ _ => pg_tup rfl (pgs_cons (pg_name (i := 6) sc__law_due_table.nd rfl (Or.inl rfl)) (pgs_cons (pg_name (i := 7) sc__law_due_table.nd rfl (Or.inl rfl)) pgs_nil))) (fun _ _ _ _ _ => pts_nil) (fun _ _ _ _ _ => (pe_tup (pa_cons (pe_op op_add (pv 6) (pv 2)) (pa_cons (pv 7) pa_nil))))) rfl)))
      (pss_one (ps_ret (pv 3))))), ?_⟩
    intro d hd
    generalize hXq : upd _ d _ = H1
    have s1 := laid_same hXq hd
    have e1 := laid_at hXq
    clear hXq
    refine ⟨_, rfl, _, rfl, a, t, W, T, rfl, hT.same s1, g, hTab.same s1, fun c H2 hc s2 hL => ?_⟩
    obtain ⟨us0, c1', c2'⟩ := hL
    have e2 := s2 _ _ e1
    have ncd : c ≠ d := fun z => by rw [z, e1] at hc; cases hc
    have g1 : ∀ {e : List Nat × List Ent}, e ∈ tabTold W T → e.1 ∈ W.vnames ∧ e.2 ≠ [] ∧ ∃ x ∈ T, x.1 = e.1 ∧ x.2 = e.2 := fun h => tabTold_mem h
    have g2 := tabTold_len g T
    have g3 := tabTold_nd g T
    have g4 : ∀ e ∈ tabTold W T, e.2.length ≤ 1000 := fun e he => by
      obtain ⟨_, _, x, hx, _, e2⟩ := g1 he
      rw [← e2]
      exact tg.few x hx
    generalize tabTold W T = T' at c1' c2' g1 g2 g3 g4 q ⊢
    have c2 := c2'
    refine ⟨c, _, rfl, c1', trivial, fun od => ?_⟩
    refine ⟨c, od, _, rfl, upd_same, ?_⟩
    have c3 := c2'.lock (u := .frz od (.dK (kvsOf T' us0))) c1'
    refine for_it walk_items (fun i σ H' => ∃ y z u t', σ = [some (.ref a), some (.ref t), some (.int n), some (.ref d), y, z, u, t'] ∧ Bar d (upd H2 c (.frz od (.dK (kvsOf T' us0)))) H' ∧ H' c = some (.frz od (.dK (kvsOf T' us0))) ∧
      ∃ us, H' d = some (.dK (kvsOf (tabLater n (T'.take i)) us)) ∧ ValsL H' us (tabLater n (T'.take i))) ⟨_, _, _, _, rfl, Bar.refl, upd_same, [], by rw [upd_ne (Ne.symm ncd)]; exact e2, rfl, fun i v e h1 _ => by simp at h1⟩ (fun i σ H' _ ⟨_, _, _, _, _, _, e, _⟩ => e) ?_ ?_
    · rintro i x σ H' H3 hi ⟨_, _, _, _, rfl, b, hfz, us, hd', hus⟩ ⟨t, kx, v, rfl, ht, rfl, hk, hvx⟩
      rw [kvsOf_len c2.1] at hi
      have hkv := kvsOf_at c2.1 hi
      dsimp only at hk hvx
      rw [hkv] at hk hvx
      obtain rfl : kx = .str (S (T'[i]).1) := (Option.some.inj hk).symm
      obtain rfl : v = us0[i]'(by rw [c2.1]; exact hi) := (Option.some.inj hvx).symm
      have hm : T'[i] ∈ T' := List.getElem_mem hi
      generalize hXq : upd _ t _ = H3
      have s3 := laid_same hXq ht
      have e3 := laid_at hXq
      clear hXq
      have hus3 := hus.same s3
      have hd3 := s3 _ _ hd'
      have hfz3 := s3 _ _ hfz
      have b3 := b.trans (Bar.same (p := d) s3)
      obtain ⟨l, ys, ev, hl, hr3⟩ := c3.2 i _ T'[i] (by rw [List.getElem?_eq_getElem (by rw [c2.1]; exact hi)]) (List.getElem?_eq_getElem hi)
      have dd : upd H2 c (.frz od (.dK (kvsOf T' us0))) d = some (.dK []) := by rw [upd_ne (Ne.symm ncd)]; exact e2
      have nld : l ≠ d := fun z => by rw [z, dd] at hl; cases hl
      have hl3 := b3 _ _ nld hl
      have hr4 : RowsIs H3 ys ((T'[i]).2.map entV) := hr3.bar b3 dd
      refine ⟨t, _, rfl, .inl (.inl e3), rfl, _, _, rfl, _, _, rfl, rfl, ?_⟩
      rw [ev]
      refine ⟨_, rfl, l, rfl, lc_map (fun x y H' => ∃ p b, x = .ref p ∧ H3 p = some (.tup (entV b)) ∧ ∃ a, y = .ref a ∧ H' a = some (.tup (entV (Ent.later n b)))) (.l hl3) (Nat.lt_of_le_of_lt (by rw [hr4.1, List.length_map]; exact g4 _ hm : ys.length ≤ 1000) (by decide)) (fun x y H H' s ⟨p, b, e, o, a, e2, h⟩ => ⟨p, b, e, o, a, e2, s _ _ h⟩)
        (fun x y H D l hD ⟨p, b, e, o, a, e2, h⟩ => ⟨p, b, e, o, a, e2, hide_of hD (fun _ z => by cases z) h⟩) ?_ ?_⟩
      · intro x J0 kk hx s0 kq
        obtain ⟨o, e, rfl, _, he⟩ := hr4.mem hx
        refine ⟨o, _, rfl, .inl (.inl (s0 _ _ he)), rfl, _, _, rfl, _, _, rfl, rfl, rfl, ?_⟩
        refine ⟨_, rfl, _, rfl, _, _, rfl, rfl, _, rfl, ?_⟩
        refine ⟨Nat.le_of_ble_eq_true rfl, fun q hq => ?_⟩
        generalize hXq : upd _ q _ = J1
        have s1' := laid_same hXq hq
        have e1' := laid_at hXq
        clear hXq
        exact kq _ _ s1' ⟨o, e, rfl, he, q, rfl, e1'⟩
      intro D zs J6 hD s7 hy e
      have rD := rows_map (ent_later n) hr4 e
      refine ⟨_, rfl, _, rfl, d, _, rfl, DPut.k (k := .inr (S (T'[i]).1)) (s7 _ _ hd3) (Nat.lt_of_le_of_lt ?_ (by decide : 100 < sizeLine)), ?_⟩
      · rw [kvsOf_len hus.1]
        unfold tabLater
        rw [List.length_map, List.length_take]
        omega
      have tk : tabLater n (T'.take (i + 1)) = tabLater n (T'.take i) ++ [((T'[i]).1, (T'[i]).2.map (Ent.later n))] := by
        unfold tabLater
        rw [List.take_succ, List.getElem?_eq_getElem hi, List.map_append]
        rfl
      have nn : ∀ e ∈ tabLater n (T'.take i), e.1 ≠ (T'[i]).1 := by
        intro e he z
        obtain ⟨x, hx, rfl⟩ := List.mem_map.mp he
        obtain ⟨j, hj⟩ := List.getElem?_of_mem hx
        rw [List.getElem?_take] at hj
        split at hj
        · have hjl : j < T'.length := (List.getElem?_eq_some_iff.mp hj).1
          have hjl2 : j < (T'.map (·.1)).length := by rw [List.length_map]; exact hjl
          have := (List.getElem?_inj hjl2 g3 (j := i)).mp (by rw [List.getElem?_map, List.getElem?_map, hj, List.getElem?_eq_getElem hi]; exact congrArg some z)
          omega
        · cases hj
      refine ⟨_, _, _, _, rfl, (b3.trans (Bar.same s7)).trans Bar.at_, ?_, us ++ [.ref D], ?_, ?_⟩
      · rw [upd_ne ncd]
        exact s7 _ _ hfz3
      · rw [upd_same, putK_new _ (val_none nn), tk, kvsOf_snoc hus.1]
      · rw [tk]
        refine ((hus3.same s7).snoc hy ?_).bar Bar.at_ (s7 _ _ hd3)
        rw [List.map_map]
        exact rD
    · rintro σ H' ⟨_, _, _, _, rfl, b, hfz, us, hd', hus⟩
      rw [kvsOf_len c2.1, List.take_length] at hd' hus
      refine ⟨_, rfl, q d _ hd (fun x o e => ?_) ⟨us, hd', hus⟩⟩
      have xd : x ≠ d := fun z => by rw [z, hd] at e; cases e
      have xc : x ≠ c := fun z => by rw [z] at e; rw [s1 _ _ e] at hc; cases hc
      exact b x o xd (by rw [upd_ne xc]; exact s2 _ _ (s1 _ _ e))
theorem ok_refused {k : KA} {CN CI : Addr} {f : Addr} {fd : FuncData} (F : Fun K "_law_refused" "_law_refused" s__law_refused f fd) (DW : Dn P w K mg base (L2.CX P w) 9 "later_world" ["world", "many"] (spLaterW K k CN)) (DT : Dn P w K mg base (L2.CX P w) 7 "later_table" ["world", "table", "many"] (spLaterT K k CN))
    (aN : mg "NoNumber" = some (.ref CN)) (aI : mg "IceError" = some (.ref CI)) (ex1 : PySem.W.exmOne K (.ref CN) (.ref CN) = some true) (xf : XfC K CN) (nf : PySem.W.findIn K (.ref CN) "found" = some none) :
    FnOk P w K mg base CX0 10 f fd ["_law_made_here", "_law_table_here", "_law_many"] (spRefused K k) := by
  refine F.ok sc__law_refused (fun vs H Q E h => ?_) (fun cdv A outer s H vs Q E hr h => ?_)
  · obtain ⟨p, tv, W, n, rfl, _⟩ := h
    rfl
  · obtain ⟨p, tv, W, n, rfl, hW, g, hor, hsm, q⟩ := h
    obtain ⟨fW, fdW, hmW, hkW, hbW, FW⟩ := DW.ex
    obtain ⟨fT, fdT, hmT, hkT, hbT, FT⟩ := DT.ex
    have hrW : Room 9 _ := hr
    have hrT : Room 7 _ := hr.mono (by decide)
    have hu := hr.units
    refine ⟨_, (pss_cons (ps_set (i := 3) sc__law_refused.nd rfl (.inl rfl) (pe_lst pa_nil))
      (pss_cons (ps_try_cls (tb := fun W => tIfS (tTest (tOp (fun (x y : V) (H : Hp) (Q : VK) => y = .non ∧ Q (.bl (decide (x = .non))) H) (tVar 1) (tC .non))) (tDrop (tCallS (spLaterW K k CN) (WE W) (tCons (tVar 0) (tCons (tVar 2) tNil)))) (tDrop (tCallS (spLaterT K k CN) (WE W) (tCons (tVar 0) (tCons (tVar 1) (tCons (tVar 2) tNil)))))) (Wout := fun _ _ _ _ => False) rfl rfl sc__law_refused.nd takes0
        (fun W pn xe tk _ => pss_one (ps_if (pt_cmpR op_isN (pv 1) pe_non (nomark _))
          (pss_one (ps_expr (by exact (pe_callS FW hrW rfl hmW hkW hbW (fun σ => passAt tk σ) (by exact (pa_cons (pv 0) (pa_cons (pv 2) pa_nil)))))))
          (pss_one (ps_expr (by exact (pe_callS FT hrT rfl hmT hkT hbT (fun σ => passAt tk σ) (by exact (pa_cons (pv 0) (pa_cons (pv 1) (pa_cons (pv 2) pa_nil))))))))))
        (.named (i := 4) ⟨rfl, by decide, .inl aN⟩ rfl rfl (fun a oe cls d pn hz hf => pss_one (ps_set (i := 3) sc__law_refused.nd rfl (.inl rfl) (pe_lst (pa_cons (pe_xf xf nf hz hf (pv 4)) pa_nil))))
        (.plain ⟨rfl, by decide, .inl aI⟩ (fun a oe cls d pn hz hf => pss_one (ps_set (i := 3) sc__law_refused.nd rfl (.inl rfl) (pe_lst (pa_cons pe_str pa_nil)))) .nil)))
      (pss_one (ps_ret (pe_cmpR (op_eqD hu) (pv 3) (pe_lst (pa_cons (pv 2) pa_nil)) (nomark _)))))), ?_⟩
    refine ⟨Nat.le_of_ble_eq_true rfl, fun l0 hl0 => ?_⟩
    generalize hXq : upd _ l0 _ = H1
    have s1 := laid_same hXq hl0
    have e1 := laid_at hXq
    clear hXq
    have fin : ∀ H2, Same H1 H2 → ∀ d, H2 d = some (.xd [("found", .int n)]) → True := fun _ _ _ _ => trivial
    rcases hor with ⟨rfl, hno⟩ | ⟨t, T, rfl, hT, tg, hno⟩
    · refine ⟨_, rfl, rfl, _, rfl, iteT ?_⟩
      refine ⟨_, rfl, _, rfl, ?_⟩
      dsimp only [tNil]
      refine ⟨p, W, n, rfl, hW.same s1, g, fun _ => ?_, fun y => absurd y hno⟩
      intro d H2 s2 hd hxd
      refine ⟨true, ex1, fun _ a ha => ?_, fun z => nomatch z⟩
      refine ⟨_, rfl, rfl, rfl, d, _, .int n, rfl, hxd, rfl, ?_⟩
      refine ⟨Nat.le_of_ble_eq_true rfl, fun l1 hl1 => ?_⟩
      generalize hXq : upd _ l1 _ = H3
      have s3 := laid_same hXq hl1
      have e3 := laid_at hXq
      clear hXq
      refine ⟨_, rfl, _, rfl, ?_⟩
      refine ⟨Nat.le_of_ble_eq_true rfl, fun l2 hl2 => ?_⟩
      generalize hXq : upd _ l2 _ = H4
      have s4 := laid_same hXq hl2
      have e4 := laid_at hXq
      clear hXq
      refine ⟨.list [.int n], .list [.int n], .lst (.inl (.inl (s4 _ _ e3))) (.cons (.int _) .nil), .lst (.inl (.inl e4)) (.cons (.int _) .nil), by simp [SeqAt.shaped, PyData.canLay0, PyData.canLayAll0, PyData.depth, PyData.depthAll], by simp [SeqAt.shaped, PyData.canLay0, PyData.canLayAll0, PyData.depth, PyData.depthAll], ?_⟩
      rw [show PyData.eqv (.list [.int n]) (.list [.int n]) = true by simp [PyData.eqv, PyData.eqvAll]]
      exact q _ (s1.trans (s2.trans (s3.trans s4)))
    · refine ⟨_, rfl, rfl, _, rfl, iteF ?_⟩
      refine ⟨_, rfl, _, rfl, _, rfl, ?_⟩
      dsimp only [tNil]
      refine ⟨p, t, W, T, n, rfl, hW.same s1, g, hT.same s1, tg, fun _ => ?_, fun y => absurd y hno⟩
      intro d H2 s2 hd hxd
      refine ⟨true, ex1, fun _ a ha => ?_, fun z => nomatch z⟩
      refine ⟨_, rfl, rfl, rfl, d, _, .int n, rfl, hxd, rfl, ?_⟩
      refine ⟨Nat.le_of_ble_eq_true rfl, fun l1 hl1 => ?_⟩
      generalize hXq : upd _ l1 _ = H3
      have s3 := laid_same hXq hl1
      have e3 := laid_at hXq
      clear hXq
      refine ⟨_, rfl, _, rfl, ?_⟩
      refine ⟨Nat.le_of_ble_eq_true rfl, fun l2 hl2 => ?_⟩
      generalize hXq : upd _ l2 _ = H4
      have s4 := laid_same hXq hl2
      have e4 := laid_at hXq
      clear hXq
      refine ⟨.list [.int n], .list [.int n], .lst (.inl (.inl (s4 _ _ e3))) (.cons (.int _) .nil), .lst (.inl (.inl e4)) (.cons (.int _) .nil), by simp [SeqAt.shaped, PyData.canLay0, PyData.canLayAll0, PyData.depth, PyData.depthAll], by simp [SeqAt.shaped, PyData.canLay0, PyData.canLayAll0, PyData.depth, PyData.depthAll], ?_⟩
      rw [show PyData.eqv (.list [.int n]) (.list [.int n]) = true by simp [PyData.eqv, PyData.eqvAll]]
      exact q _ (s1.trans (s2.trans (s3.trans s4)))
end
end Law
end
section
set_option Elab.async false
set_option linter.all false
set_option maxRecDepth 100000
set_option maxHeartbeats 4000000
namespace Law
open PySem PySem.Spec PyProof.Rows L2 IK SX
/-! ### later and once more later -/
theorem later_vnames (W : Wld) (n : Int) : (W.later n).vnames = W.vnames := by
  unfold Wld.vnames
  show (W.brks.map (Brk.later n)).map (fun b => b.name) ++ (W.shps.map (Shp.later n)).map (fun b => b.name) = _
  rw [List.map_map, List.map_map]
  rfl
theorem later_later (W : Wld) (n m : Int) : (W.later n).later m = W.later (n + m) := by
  unfold Wld.later
  simp only [List.map_map]
  congr 1
  · omega
  · refine List.map_congr_left fun b _ => ?_
    simp only [Function.comp, Brk.later, Int.add_assoc]
  · refine List.map_congr_left fun b _ => ?_
    simp only [Function.comp, Shp.later, Int.add_assoc]
theorem later_hours (W : Wld) (n : Int) : (W.later n).hours = W.hours.map (· + n) := by
  unfold Wld.hours
  show (W.begin + n) :: ((W.brks.map (Brk.later n)).map (fun b => b.hour) ++ (W.shps.map (Shp.later n)).map (fun b => b.hour)) = _
  rw [List.map_cons, List.map_append, List.map_map, List.map_map, List.map_map, List.map_map]
  rfl
theorem fits_later {W : Wld} {n m : Int} (h : 0 ≤ m) (k : Fits W (n + m)) : Fits (W.later n) m := by
  refine ⟨h, fun x hx => ?_⟩
  rw [later_hours] at hx
  obtain ⟨y, hy, rfl⟩ := List.mem_map.mp hx
  have := k.2 y hy
  omega
theorem not_fits_later {W : Wld} {n m : Int} {y : Int} (hy : y ∈ W.hours) (h : ¬ y + n + m ≤ 1000000) : ¬ Fits (W.later n) m := fun k => h (by
  have := k.2 (y + n) (by rw [later_hours]; exact List.mem_map_of_mem hy)
  omega)
theorem entsOf_later (n : Int) (T : Tab) (m : List Nat) : entsOf (tabLater n T) m = (entsOf T m).map (Ent.later n) := by
  unfold entsOf tabLater
  rw [List.find?_map]
  have e : ((fun e : List Nat × List Ent => e.1 == m) ∘ fun e : List Nat × List Ent => (e.1, e.2.map (Ent.later n))) = fun e => e.1 == m := rfl
  rw [e]
  cases T.find? (fun e => e.1 == m) with
  | none => rfl
  | some e => rfl
theorem find_filter {T : Tab} {f : List Nat → List Ent} {m : List Nat} : ∀ {l : List (List Nat)}, m ∈ l → entsOf ((l.map fun n => (n, f n)).filter fun e => !e.2.isEmpty) m = f m
  | n :: l, h => by
    rw [List.map_cons, List.filter_cons]
    by_cases e : n = m
    · subst e
      by_cases z : (f n).isEmpty = true
      · have z' : f n = [] := by simpa using z
        rw [if_neg (by simp [z'])]
        have : entsOf ((l.map fun n => (n, f n)).filter fun e => !e.2.isEmpty) n = [] := by
          unfold entsOf
          have hn : ((l.map fun n => (n, f n)).filter fun e => !e.2.isEmpty).find? (fun e => e.1 == n) = none := by
            rw [List.find?_eq_none]
            intro x hx
            obtain ⟨h1, h2⟩ := List.mem_filter.mp hx
            obtain ⟨y, _, rfl⟩ := List.mem_map.mp h1
            intro hy
            have hy' : y = n := by simpa using hy
            subst hy'
            simp [z'] at h2
          rw [hn]
        rw [this, z']
      · rw [if_pos (by simpa using z)]
        simp [entsOf]
    · have hm : m ∈ l := by
        rcases List.mem_cons.mp h with h | h
        · exact absurd h.symm e
        · exact h
      have ih := find_filter (T := T) (f := f) (m := m) hm
      by_cases z : (!(f n).isEmpty) = true
      · rw [if_pos z]
        rw [← ih]
        simp [entsOf, e]
      · rw [if_neg z]
        exact ih
theorem told_ents {W : Wld} {T : Tab} {m : List Nat} (h : m ∈ W.vnames) : entsOf (tabTold W T) m = entsOf T m := find_filter (T := T) h
theorem told_later (W : Wld) (n : Int) (T : Tab) : tabTold (W.later n) (tabLater n (tabTold W T)) = tabLater n (tabTold W T) := by
  have e1 : tabTold (W.later n) (tabLater n (tabTold W T)) = (W.vnames.map fun m => (m, (entsOf T m).map (Ent.later n))).filter fun e => !e.2.isEmpty := by
    unfold tabTold
    rw [later_vnames]
    congr 1
    refine List.map_congr_left fun m hm => ?_
    rw [entsOf_later]
    have := told_ents (W := W) (T := T) hm
    unfold tabTold at this
    rw [this]
  rw [e1]
  unfold tabTold
  generalize W.vnames = l
  induction l with
  | nil => rfl
  | cons m l ih =>
    rw [List.map_cons, List.map_cons, List.filter_cons, List.filter_cons]
    by_cases z : (entsOf T m).isEmpty = true
    · rw [if_neg (by simp at z; simp [z]), if_neg (by simp at z; simp [z])]
      exact ih
    · rw [if_pos (by simp at z; simp [z]), if_pos (by simp at z; simp [z]), ih]
      rfl
theorem tab_later_later (n m : Int) (T : Tab) : tabLater m (tabLater n T) = tabLater (n + m) T := by
  unfold tabLater
  rw [List.map_map]
  refine List.map_congr_left fun e _ => ?_
  simp only [Function.comp, List.map_map]
  congr 1
  refine List.map_congr_left fun x _ => ?_
  simp only [Function.comp, Ent.later, Int.add_assoc]
theorem Rise.later {chs : List (List Nat)} {n : Int} : ∀ {es : List Ent} {lo : Int}, Rise chs lo es → (∀ x ∈ es, x.1 + n ≤ 100000000) → Rise chs (lo + n) (es.map (Ent.later n))
  | [], _, _, _ => trivial
  | e :: es, _, ⟨h1, _, h3, h4⟩, hb => by
    refine ⟨?_, hb e List.mem_cons_self, h3, ?_⟩
    · show _ ≤ e.1 + n
      omega
    · have := h4.later (n := n) fun x hx => hb x (List.mem_cons_of_mem _ hx)
      show Rise chs (e.1 + n + 1) _
      rw [show e.1 + n + 1 = e.1 + 1 + n by omega]
      exact this
theorem TGood.later {W : Wld} {T : Tab} {n : Int} (g : TGood W T) (h : TFew T) (hn : n ≤ 1000000) : TGood (W.later n) (tabLater n T) := by
  refine ⟨?_, fun e he => ?_, fun e he => ?_, fun e he => ?_⟩
  · unfold tabLater
    rw [List.map_map]
    exact g.nd
  · obtain ⟨x, hx, rfl⟩ := List.mem_map.mp he
    rw [later_vnames]
    exact g.ves x hx
  · obtain ⟨x, hx, rfl⟩ := List.mem_map.mp he
    exact (g.rise x hx).later fun y hy => by
      have := h.hrs x hx y hy
      omega
  · obtain ⟨x, hx, rfl⟩ := List.mem_map.mp he
    show (x.2.map _).length ≤ 1000
    rw [List.length_map]
    exact g.few x hx
theorem TFew.told {W : Wld} (g : W.Good) {T : Tab} (h : TFew T) : TFew (tabTold W T) := by
  refine ⟨tabTold_len g T, fun e he => ?_, fun e he => ?_⟩
  · obtain ⟨_, _, x, hx, _, e2⟩ := tabTold_mem he
    rw [← e2]
    exact h.few x hx
  · obtain ⟨_, _, x, hx, _, e2⟩ := tabTold_mem he
    rw [← e2]
    exact h.hrs x hx
theorem Rise.lo {chs : List (List Nat)} : ∀ {es : List Ent} {lo : Int}, Rise chs lo es → ∀ x ∈ es, lo ≤ x.1
  | e :: es, _, ⟨h1, _, _, h4⟩, x, hx => by
    rcases List.mem_cons.mp hx with rfl | hx
    · exact h1
    · have := h4.lo x hx
      omega
theorem vname_ok {W : Wld} (g : W.Good) {n : List Nat} (hn : n ∈ W.vnames) : isName n = true := by
  unfold Wld.vnames at hn
  rcases List.mem_append.mp hn with hn | hn
  · obtain ⟨b, hb, rfl⟩ := List.mem_map.mp hn
    exact (g.bgood b hb).ves.name
  · obtain ⟨b, hb, rfl⟩ := List.mem_map.mp hn
    exact (g.sgood b hb).ves.name
theorem ents_ok {W : Wld} (g : W.Good) {T : Tab} (t : TGood W T) (h : TFew T) : EntsOk T := by
  refine ⟨h.len, fun e he => ⟨vname_ok g (t.ves e he), h.few e he, fun x hx => ⟨?_, ?_, ?_⟩⟩⟩
  · obtain ⟨c, hc, e2⟩ := List.mem_map.mp ((t.rise e he).mem x hx)
    rw [← e2]
    exact (g.good c hc).name
  · have := (t.rise e he).lo x hx
    have := g.begin
    omega
  · have := h.hrs e he x hx
    omega
theorem ents_ok_later {T : Tab} {n : Int} (h0 : 0 ≤ n) (h1 : n ≤ 2000000) (h : EntsOk T) (hf : ∀ e ∈ T, ∀ x ∈ e.2, x.1 ≤ 1002000) : EntsOk (tabLater n T) := by
  refine ⟨by unfold tabLater; rw [List.length_map]; exact h.1, fun e he => ?_⟩
  obtain ⟨x, hx, rfl⟩ := List.mem_map.mp he
  obtain ⟨k1, k2, k3⟩ := h.2 x hx
  refine ⟨k1, by show (x.2.map _).length ≤ 12; rw [List.length_map]; exact k2, fun y hy => ?_⟩
  obtain ⟨z, hz, rfl⟩ := List.mem_map.mp hy
  obtain ⟨k4, k5, k6⟩ := k3 z hz
  have := hf x hx z hz
  exact ⟨k4, by show 0 ≤ z.1 + n; omega, by show z.1 + n ≤ 1000000000; omega⟩
end Law
end
section
set_option Elab.async false
set_option linter.all false
set_option maxRecDepth 100000
set_option maxHeartbeats 4000000
namespace Law
open PySem PySem.Spec PyProof.Rows L2 IK SX
theorem ne_self {x : Str} {H : Hp} {Q : VK} (q : Q (.bl false) H) : rNe (.str x) (.str x) H Q := ⟨rfl, by rw [decide_eq_true rfl]; exact q⟩
/-- what the law holds of a world: it, its rows, a table -/
structure Scene (K : PySem.W.Frag) (k : KA) (H : Hp) (W : Wld) (T : Tab) (pm aw t : Addr) : Prop where
  made : WldAt k H pm W
  rows : ToldAt H aw W
  tab : TabAt K H t T
  good : W.Good
  tg : TGood W T
  few : TFew T
theorem Scene.nb {K : PySem.W.Frag} {k : KA} {H H' : Hp} {W : Wld} {T : Tab} {pm aw t : Addr} (h : Scene K k H W T pm aw t) (s : Nb H H') : Scene K k H' W T pm aw t := ⟨h.made.nb s, h.rows.nb s, h.tab.nb s, h.good, h.tg, h.few⟩
def spRight (K : PySem.W.Frag) (k : KA) : Sp := fun vs H Q _ => ∃ (p sc : Addr) (W : Wld) (T : Tab) (pm aw t : Addr) (c : Nat), vs = [.ref p, .ref sc] ∧ BoxAt H p c ∧ c < 50000 ∧ H sc = some (.tup [.ref pm, .ref aw, .ref t]) ∧ Scene K k H W T pm aw t ∧ ∀ H', Bar p H H' → BoxAt H' p (c + 16) → Q (.bl true) H'
theorem wld_raw {k : KA} {H : Hp} {p : Addr} {W : Wld} (h : WldAt k H p W) : ∃ dx vs, H p = some (.ins k.W dx (wldK.zip vs)) := by
  obtain ⟨xc, xb, xs, ⟨dx, lp, lc, lb, ls, hp, _⟩, _⟩ := h
  exact ⟨dx, _, hp⟩
section
variable {P : Program} {w : World} {K : PySem.W.Frag} {mg : Str → Option Value} {base : Heap}
theorem ok_right {k : KA} {CN : Addr} {f : Addr} {fd : FuncData} (F : Fun K "_law_right" "_law_right" s__law_right f fd) (B : Blt mg) (TW : Cl K k.W wldK) (MT : Me P w K mg base CX0 3 k.W "told" ["self"] (spTold k)) (DT : Dn P w K mg base CX0 1 "_law_take" ["_law_box_here", "_law_many"] spTake)
    (DN : Dn P w K mg base CX0 2 "_law_number" ["_law_box_here", "_law_low", "_law_high"] spNumber) (DLW : Dn P w K mg base (L2.CX P w) 9 "later_world" ["world", "many"] (spLaterW K k CN)) (DLT : Dn P w K mg base (L2.CX P w) 7 "later_table" ["world", "table", "many"] (spLaterT K k CN))
    (DD : Dn P w K mg base CX0 1 "_law_due" ["_law_world_here", "_law_many"] spDue) (DDT : Dn P w K mg base CX0 2 "_law_due_table" ["_law_world_here", "_law_table_here", "_law_many"] (spDueT K)) (DR : Dn P w K mg base CX0 10 "_law_refused" ["_law_made_here", "_law_table_here", "_law_many"] (spRefused K k)) :
    FnG P w K mg base CX0 11 f fd ["_law_box_here", "_law_scene"] (spRight K k) := by
  refine funG F sc__law_right (fun vs H Q E h => ?_) (fun cdv A outer s H vs Q E hr gd h => ?_)
  · obtain ⟨p, sc, W, T, pm, aw, t, c, rfl, _⟩ := h
    rfl
  · obtain ⟨p, sc, W, T, pm, aw, t, c, rfl, hp, hc, hsc, S0, q⟩ := h
    have hu := hr.units
    refine ⟨_, (pss_cons (ps_asg (pv 1) (pg_tup rfl (pgs_cons (pg_name (i := 2) sc__law_right.nd rfl (.inl rfl)) (pgs_cons (pg_name (i := 3) sc__law_right.nd rfl (.inl rfl)) (pgs_cons (pg_name (i := 4) sc__law_right.nd rfl (.inl rfl)) pgs_nil)))))
      (pss_cons (ps_set (i := 5) sc__law_right.nd rfl (.inl rfl) (pe_op op_sub (pe_op op_pow pe_int pe_int) (pe_callB (cr_max rfl) (by rfl) B.max (by decide +kernel) (pa_cons (pe_op op_cat (pe_op op_cat (pe_lst (pa_cons (pe_ix ix_tup (pv 3) pe_int (fun _ _ => rfl)) pa_nil)) (pe_lc (own := [("_law_row", 15)]) (g := gName 15) (tt := tYes) rfl sc__law_right.nd (pi_seq (pe_ix ix_tup (pv 3) pe_int (fun _ _ => rfl))) (blkOk_by (N := ["_law_box_here", "_law_scene", "_law_made_here", "_law_world_here", "_law_table_here", "_law_most", "_law_kept", "_law_turn", "_law_many", "_law_found", "_law_told", "_law_more", "_law_again", "_law_entries", "_law_far", "_law_row"]) (sc := defScope s__law_right) (by decide +kernel)) (fun _ _ _ _ _ => pg_name (i := 15) sc__law_right.nd rfl (Or.inl rfl)) (fun _ _ _ _ _ => pts_nil) (fun _ _ _ _ _ => (pe_ix (show IxR _ (rIxT K) from ix_tup) (pv 15) pe_int (fun _ _ => rfl))))) (pe_lc (own := [("_law_row", 15)]) (g := gName 15) (tt := tYes) rfl sc__law_right.nd (pi_seq (pe_ix ix_tup (pv 3) pe_int (fun _ _ => rfl))) (blkOk_by (N := ["_law_box_here", "_law_scene", "_law_made_here", "_law_world_here", "_law_table_here", "_law_most", "_law_kept", "_law_turn", "_law_many", "_law_found", "_law_told", "_law_more", "_law_again", "_law_entries", "_law_far", "_law_row"]) (sc := defScope s__law_right) (by decide +kernel)) (fun _ _ _ _ _ => pg_name (i := 15) sc__law_right.nd rfl (Or.inl rfl)) (fun _ _ _ _ _ => pts_nil) (fun _ _ _ _ _ => (pe_ix (show IxR _ (rIxT K) from ix_tup) (pv 15) pe_int (fun _ _ => rfl))))) pa_nil))))
      (pss_cons (ps_set (i := 6) sc__law_right.nd rfl (.inl rfl) (pe_callB (call_reprM gd hu) (by rfl) B.repr (by decide +kernel) (pa_cons (pv 4) pa_nil)))
      (pss_cons (ps_for (passes_of rfl) rfl (pi_range1 (by rfl) B.range (pa_cons pe_int pa_nil)) (pg_name (i := 7) sc__law_right.nd rfl (.inl rfl))
      (pss_cons (ps_set (i := 8) sc__law_right.nd rfl (.inl rfl) (pe_d DN (hr.mono (by decide)) (by rfl) pass0 (pa_cons (pv 0) (pa_cons pe_int (pa_cons (pv 5) pa_nil)))))
      (pss_cons (ps_set (i := 9) sc__law_right.nd rfl (.inl rfl) (pe_d DLW (hr.mono (by decide)) (by rfl) pass00 (pa_cons (pv 2) (pa_cons (pv 8) pa_nil))))
      (pss_cons (ps_if (PW.pt (pw_or (pt_cmpR op_ne (pe_callB (call_repr gd hu) (by rfl) B.repr (by decide +kernel) (pa_cons (pe_me0 MT TW.cls (hr.mono (by decide)) pass0 (pv 9)) pa_nil)) (pe_callB (call_repr gd hu) (by rfl) B.repr (by decide +kernel) (pa_cons (pe_d DD (hr.mono (by decide)) (by rfl) pass0 (pa_cons (pv 3) (pa_cons (pv 8) pa_nil))) pa_nil)) (nomark _)) (pw_or1 (pt_cmpR op_ne (pe_callB (call_repr gd hu) (by rfl) B.repr (by decide +kernel) (pa_cons (pe_me0 MT TW.cls (hr.mono (by decide)) pass0 (pv 2)) pa_nil)) (pe_callB (call_repr gd hu) (by rfl) B.repr (by decide +kernel) (pa_cons (pv 3) pa_nil)) (nomark _))))) (pss_one (ps_ret pe_bl)) pss_nil)
      (pss_cons (ps_set (i := 10) sc__law_right.nd rfl (.inl rfl) (pe_d DLT (hr.mono (by decide)) (by rfl) pass00 (pa_cons (pv 2) (pa_cons (pv 4) (pa_cons (pv 8) pa_nil)))))
      (pss_cons (ps_if (PW.pt (pw_or (pt_cmpR op_ne (pe_callB (call_reprM gd hu) (by rfl) B.repr (by decide +kernel) (pa_cons (pv 10) pa_nil)) (pe_callB (call_reprM gd hu) (by rfl) B.repr (by decide +kernel) (pa_cons (pe_d DDT (hr.mono (by decide)) (by rfl) pass0 (pa_cons (pv 3) (pa_cons (pv 4) (pa_cons (pv 8) pa_nil)))) pa_nil)) (nomark _)) (pw_or1 (pt_cmpR op_ne (pe_callB (call_reprM gd hu) (by rfl) B.repr (by decide +kernel) (pa_cons (pv 4) pa_nil)) (pv 6) (nomark _))))) (pss_one (ps_ret pe_bl)) pss_nil)
      (pss_cons (ps_set (i := 11) sc__law_right.nd rfl (.inl rfl) (pe_d DN (hr.mono (by decide)) (by rfl) pass0 (pa_cons (pv 0) (pa_cons pe_int (pa_cons (pe_op op_sub (pv 5) (pv 8)) pa_nil)))))
      (pss_cons (ps_if (pt_cmpR op_ne (pe_callB (call_repr gd hu) (by rfl) B.repr (by decide +kernel) (pa_cons (pe_me0 MT TW.cls (hr.mono (by decide)) pass0 (pe_d DLW (hr.mono (by decide)) (by rfl) pass00 (pa_cons (pv 9) (pa_cons (pv 11) pa_nil)))) pa_nil)) (pe_callB (call_repr gd hu) (by rfl) B.repr (by decide +kernel) (pa_cons (pe_d DD (hr.mono (by decide)) (by rfl) pass0 (pa_cons (pv 3) (pa_cons (pe_op op_add (pv 8) (pv 11)) pa_nil))) pa_nil)) (nomark _)) (pss_one (ps_ret pe_bl)) pss_nil)
      (pss_cons (ps_set (i := 12) sc__law_right.nd rfl (.inl rfl) (pe_d DLT (hr.mono (by decide)) (by rfl) pass00 (pa_cons (pv 9) (pa_cons (pv 10) (pa_cons (pv 11) pa_nil)))))
      (pss_cons (ps_if (pt_cmpR op_ne (pe_callB (call_reprM gd hu) (by rfl) B.repr (by decide +kernel) (pa_cons (pv 12) pa_nil)) (pe_callB (call_reprM gd hu) (by rfl) B.repr (by decide +kernel) (pa_cons (pe_d DDT (hr.mono (by decide)) (by rfl) pass0 (pa_cons (pv 3) (pa_cons (pv 4) (pa_cons (pe_op op_add (pv 8) (pv 11)) pa_nil)))) pa_nil)) (nomark _)) (pss_one (ps_ret pe_bl)) pss_nil)
      (pss_cons (ps_lock (ps_for (passes_of rfl) rfl (pi_values (pv 10)) (pg_name (i := 13) sc__law_right.nd rfl (.inl rfl))
      (pss_one (ps_expr (pe_bm PySem.F.plainAttrs_list PySem.F.slot_list_append PySem.F.type_list_append mt_append (pv 13) (pa_cons pe_str pa_nil))))))
      (pss_cons (ps_set (i := 14) sc__law_right.nd rfl (.inl rfl) (pe_op op_add (pe_op op_add (pv 5) pe_int) (pe_d DT (hr.mono (by decide)) (by rfl) pass0 (pa_cons (pv 0) (pa_cons pe_int pa_nil)))))
      (pss_cons (ps_if (PW.pt (pw_or (pt_not (pt_val (pe_d DR (hr.mono (by decide)) (by rfl) pass0 (pa_cons (pv 2) (pa_cons pe_non (pa_cons (pv 14) pa_nil)))))) (pw_or1 (pt_not (pt_val (pe_d DR (hr.mono (by decide)) (by rfl) pass0 (pa_cons (pv 9) (pa_cons pe_non (pa_cons (pe_op op_add (pe_op op_sub (pv 5) (pv 8)) pe_int) pa_nil))))))))) (pss_one (ps_ret pe_bl)) pss_nil)
      (pss_cons (ps_if (pt_cmpR op_ne (pe_callB (call_reprM gd hu) (by rfl) B.repr (by decide +kernel) (pa_cons (pe_d DLT (hr.mono (by decide)) (by rfl) pass00 (pa_cons (pv 2) (pa_cons (pv 4) (pa_cons (pe_op op_pow pe_int pe_int) pa_nil)))) pa_nil)) (pe_callB (call_reprM gd hu) (by rfl) B.repr (by decide +kernel) (pa_cons (pe_d DDT (hr.mono (by decide)) (by rfl) pass0 (pa_cons (pv 3) (pa_cons (pv 4) (pa_cons (pe_op op_pow pe_int pe_int) pa_nil)))) pa_nil)) (nomark _)) (pss_one (ps_ret pe_bl)) pss_nil)
      (pss_one (ps_if (pt_not (pt_val (pe_d DR (hr.mono (by decide)) (by rfl) pass0 (pa_cons (pv 2) (pa_cons (pv 4) (pa_cons (pe_op op_add (pe_op op_add (pe_op op_pow pe_int pe_int) pe_int) (pe_op op_mul (pe_d DT (hr.mono (by decide)) (by rfl) pass0 (pa_cons (pv 0) (pa_cons pe_int pa_nil))) (pe_d DT (hr.mono (by decide)) (by rfl) pass0 (pa_cons (pv 0) (pa_cons (pe_op op_pow pe_int pe_int) pa_nil))))) pa_nil)))))) (pss_one (ps_ret pe_bl)) pss_nil))))))))))))))))
      (pss_one (ps_ret pe_bl)))))), ?_⟩
    have g := S0.good
    refine ⟨_, rfl, sc, _, rfl, .inl (.inl hsc), rfl, _, _, rfl, _, _, rfl, _, _, rfl, rfl, ?_⟩
    obtain ⟨ap, ac, ab, as, yc, yb, ys, t1, t2, t3, t4, t5, t6, t7, t8⟩ := id S0.rows
    have lb1 : yb.length ≤ 4 := by rw [t6.1, List.length_map]; exact g.brks
    have ls1 : ys.length ≤ 6 := by rw [t8.1, List.length_map]; exact g.shps
    refine ⟨_, _, rfl, rfl, ⟨by decide, by decide, by decide⟩, _, rfl, aw, _, 0, _, rfl, rfl, .inl (.inl t1), rfl, ?_⟩
    refine ⟨Nat.le_of_ble_eq_true rfl, fun l1 hl1 => ?_⟩
    generalize hXq : upd _ l1 _ = H2
    have s2 := laid_same hXq hl1
    have e2 := laid_at hXq
    clear hXq
    refine ⟨_, rfl, aw, _, 3, _, rfl, rfl, .inl (.inl (s2 _ _ t1)), rfl, ab, rfl, lc_map (fun x y _ => ∃ p r, x = .ref p ∧ H p = some (.tup r) ∧ r[2]? = some y) (.t (s2 _ _ t5)) (Nat.lt_of_le_of_lt lb1 (by decide)) (fun _ _ _ _ _ e => e) (fun _ _ _ _ _ _ e => e) ?_ ?_⟩
    · intro x H3 kk hx s3 kq
      obtain ⟨o, b, rfl, _, e⟩ := t6.mem hx
      refine ⟨rfl, _, rfl, o, _, 2, _, rfl, rfl, .inl (.inl (s3 _ _ (s2 _ _ e))), rfl, ?_⟩
      exact kq _ _ (Same.refl _) ⟨o, _, rfl, e, rfl⟩
    intro D ds H3 hD s3 hy e
    obtain rfl := cells_of (j := 2) (f := fun b : Brk => V.int b.hour) (fun _ => rfl) t6 e
    refine ⟨l1, D, _, _, rfl, rfl, s3 _ _ e2, hy, Nat.le_trans (by simp; have := g.brks; omega : _ ≤ 100) (by decide), fun l2 hl2 => ?_⟩
    generalize hXq : upd _ l2 _ = H4
    have s4 := laid_same hXq hl2
    have e4 := laid_at hXq
    clear hXq
    have sm := s2.trans (s3.trans s4)
    clear e hy e2
    refine ⟨_, rfl, aw, _, 4, _, rfl, rfl, .inl (.inl (sm _ _ t1)), rfl, as, rfl, lc_map (fun x y _ => ∃ p r, x = .ref p ∧ H p = some (.tup r) ∧ r[3]? = some y) (.t (sm _ _ t7)) (Nat.lt_of_le_of_lt ls1 (by decide)) (fun _ _ _ _ _ e => e) (fun _ _ _ _ _ _ e => e) ?_ ?_⟩
    · intro x H3 kk hx s3 kq
      obtain ⟨o, b, rfl, _, e⟩ := t8.mem hx
      refine ⟨rfl, _, rfl, o, _, 3, _, rfl, rfl, .inl (.inl (s3 _ _ (sm _ _ e))), rfl, ?_⟩
      exact kq _ _ (Same.refl _) ⟨o, _, rfl, e, rfl⟩
    intro D2 ds H5 hD2 s5 hy e
    obtain rfl := cells_of (j := 3) (f := fun b : Shp => V.int b.hour) (fun _ => rfl) t8 e
    refine ⟨l2, D2, _, _, rfl, rfl, s5 _ _ e4, hy, Nat.le_trans (by simp; have := g.brks; have := g.shps; omega : _ ≤ 100) (by decide), fun l3 hl3 => ?_⟩
    generalize hXq : upd _ l3 _ = H6
    have s6 := laid_same hXq hl3
    have e6 := laid_at hXq
    clear hXq
    have sm := sm.trans (s5.trans s6)
    clear e hy e4
    have eh : H6 l3 = some (.lst (W.hours.map V.int)) := by
      rw [e6, Wld.hours, List.map_cons, List.map_append, List.map_map, List.map_map]
      rfl
    refine ⟨l3, W.hours, rfl, .inl (.inl eh), by simp [Wld.hours], fun m hm1 hm2 => ?_⟩
    refine ⟨_, _, rfl, rfl, ?_⟩
    have fm : ∀ n, Fits W n ↔ 0 ≤ n ∧ n ≤ 1000000 - m := fun n => fits_max hm1 hm2
    have f0 : Fits W 0 := ⟨Int.le_refl _, fun h hh => by
      unfold Wld.hours at hh
      rcases List.mem_cons.mp hh with rfl | hh
      · have := g.begin; omega
      rcases List.mem_append.mp hh with hh | hh
      · obtain ⟨b, hb, rfl⟩ := List.mem_map.mp hh
        have := (g.bgood b hb).ves.hour
        omega
      · obtain ⟨b, hb, rfl⟩ := List.mem_map.mp hh
        have := (g.sgood b hb).ves.hour
        omega⟩
    have m0 := ((fm 0).mp f0).2
    have mlo : 0 ≤ m := by have := hm2 _ (show W.begin ∈ W.hours from List.mem_cons_self); have := g.begin; omega
    clear eh e6
    have S6 := S0.nb (Nb.same sm)
    obtain ⟨vs, ht, hvs⟩ := id S6.tab
    obtain ⟨ds, hds⟩ := entsD_of hvs
    have ok := ents_ok g S0.tg S0.few
    have ok' := ents_ok g (tabTold_good g S0.tg) (S0.few.told g)
    have few' := S0.few.told g
    refine ⟨_, rfl, ?_⟩
    dsimp only [tCons, tC, tNil]
    refine repr_tab ht hds ok ?_
    have hp6 := hp.same sm
    refine ⟨2, rfl, by decide, by decide, for_it walk_rng (fun i σ H' => ∃ y1 y2 y3 y4 y5 y6 y7 y8 y9, σ = [some (.ref p), some (.ref sc), some (.ref pm), some (.ref aw), some (.ref t), some (.int (1000000 - m)), some (.str (tabDs T ds).shown), y1, y2, y3, y4, y5, y6, y7, y8, y9] ∧ Bar p H6 H' ∧ BoxAt H' p (c + 8 * i))
      ⟨_, _, _, _, _, _, _, _, _, rfl, Bar.refl, hp6.mono (by omega)⟩ (fun _ _ _ _ _ => trivial) ?_ ?_⟩
    · rintro x xv σ Hy Hx hi ⟨_, _, _, _, _, _, _, _, _, rfl, bx, hbx⟩ ⟨rfl, rfl⟩
      have hi2 : x < 2 := hi
      have Nx := hp6.nb bx
      have SX := S6.nb Nx
      have htx := Nx _ _ rfl ht
      have hdsx := hds.nb Nx
      refine ⟨_, rfl, _, rfl, p, 0, 1000000 - m, _, rfl, hbx, by omega, by omega, by omega, fun n H1 n0 n1 hb1 b1 => ?_⟩
      have F1 : Fits W n := (fm n).mpr ⟨n0, n1⟩
      have gf := g.later F1
      have S1 := SX.nb (hbx.nb b1)
      have ht1 := hbx.nb b1 _ _ rfl htx
      have hds1 := hdsx.nb (hbx.nb b1)
      refine ⟨_, rfl, _, rfl, pm, W, n, rfl, S1.made, g, fun h => absurd F1 h, fun _ pf H2 hpf0 s2 hWf => ?_⟩
      have S2 := S1.nb (Nb.same s2)
      obtain ⟨dxf, vf, hpf⟩ := wld_raw hWf
      refine ⟨_, rfl, pf, dxf, _, rfl, hpf, look_no (by decide +kernel), pf, W.later n, rfl, hWf, gf, fun a3 H3 h3 s3 hT3 => ?_⟩
      dsimp only [tCons, tC, tNil]
      refine repr_told hT3 gf ?_
      refine ⟨_, rfl, _, rfl, aw, W, n, rfl, (S2.rows).same s3, g, fun a4 H4 h4 s4 hT4 => ?_⟩
      dsimp only [tCons, tC, tNil]
      refine repr_told hT4 gf ?_
      refine ne_self ?_
      refine ⟨_, rfl, iteF ?_⟩
      have S4 := S2.nb (Nb.same (s3.trans s4))
      obtain ⟨dxm, vm, hpm⟩ := wld_raw S4.made
      refine ⟨_, rfl, pm, dxm, _, rfl, hpm, look_no (by decide +kernel), pm, W, rfl, S4.made, g, fun a5 H5 h5 s5 hT5 => ?_⟩
      dsimp only [tCons, tC, tNil]
      refine repr_told hT5 g ?_
      have S5 := S4.nb (Nb.same s5)
      refine ⟨_, rfl, ?_⟩
      dsimp only [tCons, tC, tNil]
      refine repr_told S5.rows g ?_
      refine ne_self ?_
      refine ⟨_, rfl, iteF ?_⟩
      have s25 := s3.trans (s4.trans s5)
      have hb5 := hb1.same (s2.trans s25)
      have ht5 := (s2.trans s25) _ _ ht1
      have hds5 := hds1.nb (Nb.same (s2.trans s25))
      have hWf5 := hWf.same s25
      have bx5 : Bar p H6 H5 := bx.trans (b1.trans (Bar.same (s2.trans s25)))
      have n2 : n ≤ 1000000 := by omega
      have okn := ents_ok_later n0 (by omega) ok' few'.hrs
      have tgn : TGood (W.later n) (tabLater n (tabTold W T)) := (tabTold_good g S5.tg).later few' n2
      refine ⟨_, rfl, _, rfl, _, rfl, pm, t, W, T, n, rfl, S5.made, g, S5.tab, S5.tg, fun h => absurd ⟨n0, n2⟩ h, fun _ td J1 htd u1 hF => ?_⟩
      refine ⟨_, rfl, ?_⟩
      dsimp only [tCons, tC, tNil]
      refine repr_tabL hF.l okn ?_
      have R1 := S5.nb (Nb.same u1)
      refine ⟨_, rfl, _, rfl, _, rfl, aw, t, W, T, n, rfl, R1.rows, g, R1.tab, R1.tg, fun a2 J2 h2 u2 hL2 => ?_⟩
      dsimp only [tCons, tC, tNil]
      refine repr_tabL hL2 okn ?_
      refine ne_self ?_
      refine ⟨_, rfl, iteF ?_⟩
      refine ⟨_, rfl, ?_⟩
      dsimp only [tCons, tC, tNil]
      refine repr_tab ((u1.trans u2) _ _ ht5) (hds5.nb (Nb.same (u1.trans u2))) ok ?_
      refine ⟨_, rfl, ne_self ?_⟩
      refine ⟨_, rfl, iteF ?_⟩
      have hbJ2 := hb5.same (u1.trans u2)
      refine ⟨_, rfl, _, rfl, _, rfl, _, _, rfl, rfl, p, 0, 1000000 - m - n, _, rfl, hbJ2, by omega, by omega, by omega, fun r J3 r0 r1 hbJ3 bJ3 => ?_⟩
      have N23 := hbJ2.nb bJ3
      have F2 : Fits W (n + r) := (fm (n + r)).mpr ⟨by omega, by omega⟩
      have F3 : Fits (W.later n) r := fits_later r0 F2
      have gnr := g.later F2
      have hWf3 : WldAt k J3 pf (W.later n) := (hWf5.same (u1.trans u2)).nb N23
      have R3 := (S5.nb (Nb.same (u1.trans u2))).nb N23
      have bJ5 : Bar p H5 J3 := (Bar.same (u1.trans u2)).trans bJ3
      refine ⟨_, rfl, _, rfl, pf, W.later n, r, rfl, hWf3, gf, fun h => absurd F3 h, fun _ pg J4 hpg0 u4 hWg => ?_⟩
      rw [later_later] at hWg
      obtain ⟨dxg, vg, hpg⟩ := wld_raw hWg
      refine ⟨pg, dxg, _, rfl, hpg, look_no (by decide +kernel), pg, W.later (n + r), rfl, hWg, gnr, fun a5' J5 h5' u5 hT5' => ?_⟩
      dsimp only [tCons, tC, tNil]
      refine repr_told hT5' gnr ?_
      have R5 := R3.nb (Nb.same (u4.trans u5))
      refine ⟨_, rfl, _, rfl, _, rfl, _, _, rfl, rfl, aw, W, n + r, rfl, R5.rows, g, fun a6 J6 h6 u6 hT6 => ?_⟩
      dsimp only [tCons, tC, tNil]
      refine repr_told hT6 gnr ?_
      refine ne_self ?_
      refine ⟨_, rfl, iteF ?_⟩
      have u36 := u4.trans (u5.trans u6)
      have hF6 : TabL J6 td (tabLater n (tabTold W T)) := ((hF.l.same u2).nb N23).same u36
      have oknr := ents_ok_later (show 0 ≤ n + r by omega) (by omega) ok' few'.hrs
      refine ⟨_, rfl, _, rfl, _, rfl, pf, td, W.later n, tabLater n (tabTold W T), r, rfl, hWf3.same u36, gf, hF6.at, tgn, fun h => absurd ⟨r0, by omega⟩ h, fun _ ag J7 hag u7 hF7 => ?_⟩
      rw [told_later, tab_later_later] at hF7
      refine ⟨_, rfl, ?_⟩
      dsimp only [tCons, tC, tNil]
      refine repr_tabL hF7.l oknr ?_
      have R7 := R3.nb (Nb.same (u36.trans u7))
      refine ⟨_, rfl, _, rfl, _, rfl, _, rfl, _, _, rfl, rfl, aw, t, W, T, n + r, rfl, R7.rows, g, R7.tab, R7.tg, fun a8 J8 h8 u8 hL8 => ?_⟩
      dsimp only [tCons, tC, tNil]
      refine repr_tabL hL8 oknr ?_
      refine ne_self ?_
      refine ⟨_, rfl, iteF ?_⟩
      -- the told lists grow
      have u38 := u36.trans (u7.trans u8)
      have hb8 := hbJ3.same u38
      have b58 : Bar p H5 J8 := bJ5.trans (Bar.same u38)
      obtain ⟨us, f1, f2, f3⟩ := hF
      have f1' := u38 _ _ (N23 _ _ rfl (u2 _ _ f1))
      have f2' := ((f2.same u2).nb N23).same u38
      have tdp : td ≠ p := fun z => hb5.some (by rw [← z]; exact htd)
      refine ⟨td, _, f1', trivial, fun od => ?_⟩
      refine ⟨_, rfl, td, od, _, rfl, upd_same, ?_⟩
      refine for_it walk_values (fun i σ H' => ∃ y1 y2 y3, σ = [some (.ref p), some (.ref sc), some (.ref pm), some (.ref aw), some (.ref t), some (.int (1000000 - m)), some (.str (tabDs T ds).shown), some (.int (0 + (x : Int))), some (.int n), some (.ref pf), some (.ref td), some (.int r), some (.ref ag), y1, y2, y3] ∧ Bar p H5 H' ∧ BoxAt H' p (c + 8 * x + 4) ∧
        H' td = some (.frz od (.dK (kvsOf (tabLater n (tabTold W T)) us))) ∧ ∀ v ∈ us, ∃ b l, v = .ref b ∧ H5 b = none ∧ H' b = some (.lst l) ∧ l.length ≤ 1000 + i) ⟨_, _, _, rfl, ?_, ?_, upd_same, ?_⟩ (fun i σ H' _ ⟨_, _, _, _, _, _, e, _⟩ => e) ?_ ?_
      · intro b o n1 e
        rw [upd_ne (ne_of_none e htd)]
        exact b58 b o n1 e
      · obtain ⟨u, v, w, h1, h2, h3, h4, h5⟩ := hb8
        exact ⟨u, v, w, by rw [upd_ne (Ne.symm tdp)]; exact h1, h2, h3, h4, by omega⟩
      · intro v hv
        obtain ⟨b, rfl, hb0⟩ := f3 v hv
        obtain ⟨j, hj⟩ := List.getElem?_of_mem hv
        have hjl : j < (tabLater n (tabTold W T)).length := by rw [← f2.1]; exact (List.getElem?_eq_some_iff.mp hj).1
        obtain ⟨b', zs, e1, e2, e3⟩ := f2'.2 j (.ref b) _ hj (List.getElem?_eq_getElem hjl)
        injection e1 with e1
        subst e1
        refine ⟨b, zs, rfl, hb0, ?_, ?_⟩
        · rw [upd_ne (fun z => by rw [z, f1'] at e2; cases e2)]
          exact e2
        · rw [e3.1, List.length_map]
          have := (okn.2 _ (List.getElem_mem hjl)).2.1
          omega
      · rintro i v σ H0' H' hi ⟨_, _, _, rfl, k1, k2, k3, k4⟩ ⟨rfl, kx, hkv⟩
        have hv : v ∈ us := by
          have := List.mem_of_getElem? hkv
          exact (List.of_mem_zip this).2
        obtain ⟨b, l, rfl, hb0, hbl, hll⟩ := k4 v hv
        have hi10 : i < 10 := by
          rw [kvsOf_len f2.1] at hi
          have := okn.1
          omega
        have btd : b ≠ td := fun z => by rw [z, k3] at hbl; cases hbl
        have bp : b ≠ p := fun z => hb5.some (by rw [← z]; exact hb0)
        refine ⟨_, rfl, .inl ⟨rfl, l, .inl (.inl hbl)⟩, b, l, _, rfl, rfl, hbl, Nat.lt_of_le_of_lt (show l.length ≤ 2000 by omega) (by decide), ?_⟩
        refine ⟨_, _, _, rfl, fun c o n1 e => ?_, ?_, ?_, fun v' hv' => ?_⟩
        · rw [upd_ne (ne_of_none e hb0)]
          exact k1 c o n1 e
        · obtain ⟨u, v, w, h1, h2⟩ := k2
          exact ⟨u, v, w, by rw [upd_ne (Ne.symm bp)]; exact h1, h2⟩
        · rw [upd_ne (Ne.symm btd)]
          exact k3
        · obtain ⟨b', l', rfl, hb0', hbl', hll'⟩ := k4 v' hv'
          by_cases z : b' = b
          · subst z
            rw [hbl] at hbl'
            have e := Option.some.inj hbl'
            injection e with e
            subst e
            exact ⟨b', _, rfl, hb0', upd_same, by simp; omega⟩
          · exact ⟨b', l', rfl, hb0', by rw [upd_ne z]; exact hbl', by omega⟩
      · rintro σ H9 ⟨_, _, _, rfl, k1, k2, k3, _⟩
        refine ⟨k3, ?_⟩
        have bA : Bar p H5 (upd H9 td (.dK (kvsOf (tabLater n (tabTold W T)) us))) := fun b o n1 e => by
          rw [upd_ne (ne_of_none e htd)]
          exact k1 b o n1 e
        have hbA : BoxAt (upd H9 td (.dK (kvsOf (tabLater n (tabTold W T)) us))) p (c + 8 * x + 4) := by
          obtain ⟨u, v, w, h1, h2⟩ := k2
          exact ⟨u, v, w, by rw [upd_ne (Ne.symm tdp)]; exact h1, h2⟩
        generalize upd H9 td _ = HA at bA hbA ⊢
        refine ⟨_, rfl, _, _, rfl, rfl, _, rfl, p, 99, _, rfl, hbA, by omega, by decide, by decide, fun q1 HB q10 q11 hbB bB => ?_⟩
        refine ⟨_, _, rfl, rfl, ?_⟩
        have bB5 := bA.trans bB
        have NB := hb5.nb bB5
        have SB := S5.nb NB
        have nf1 : ¬ Fits W (1000000 - m + 1 + q1) := fun h => by
          have := ((fm _).mp h).2
          omega
        refine ⟨_, rfl, _, rfl, pm, .non, W, _, rfl, SB.made, g, .inl ⟨rfl, nf1⟩, trivial, fun HC v1 => ?_⟩
        refine ⟨_, rfl, iteF ?_⟩
        have nf2 : ¬ Fits (W.later n) (1000000 - m - n + 1) := not_fits_later hm1 (by omega)
        refine ⟨_, rfl, _, rfl, _, rfl, _, _, rfl, rfl, _, _, rfl, rfl, pf, .non, W.later n, _, rfl, (hWf5.nb NB).same v1, gf, .inl ⟨rfl, nf2⟩, trivial, fun HD v2 => ?_⟩
        refine ⟨_, rfl, iteF ?_⟩
        have SD := SB.nb (Nb.same (v1.trans v2))
        have ok6 := ents_ok_later (show (0 : Int) ≤ 1000000 by decide) (by decide) ok' few'.hrs
        refine ⟨_, rfl, _, rfl, _, _, rfl, rfl, ⟨by decide, by decide, by decide⟩, pm, t, W, T, 1000000, rfl, SD.made, g, SD.tab, SD.tg, fun h => absurd ⟨by decide, by decide⟩ h, fun _ tg6 HE htg v3 hF6' => ?_⟩
        dsimp only [tCons, tC, tNil]
        refine repr_tabL hF6'.l ok6 ?_
        have SE := SD.nb (Nb.same v3)
        refine ⟨_, rfl, _, rfl, _, _, rfl, rfl, ⟨by decide, by decide, by decide⟩, aw, t, W, T, 1000000, rfl, SE.rows, g, SE.tab, SE.tg, fun a9 HF h9 v4 hL9 => ?_⟩
        dsimp only [tCons, tC, tNil]
        refine repr_tabL hL9 ok6 ?_
        refine ne_self ?_
        refine ⟨_, rfl, iteF ?_⟩
        have hbF := hbB.same (v1.trans (v2.trans (v3.trans v4)))
        refine ⟨_, rfl, _, rfl, _, _, rfl, rfl, ⟨by decide, by decide, by decide⟩, _, _, rfl, rfl, _, rfl, p, 2, _, rfl, hbF, by omega, by decide, by decide, fun w1 HG w10 w11 hbG bG => ?_⟩
        refine ⟨_, rfl, _, _, rfl, rfl, ⟨by decide, by decide, by decide⟩, p, 100000000, _, rfl, hbG, by omega, by decide, by decide, fun w2 HI w20 w21 hbI bI => ?_⟩
        have wpos : 0 ≤ w1 * w2 := Int.mul_nonneg w10 w20
        refine ⟨_, _, rfl, rfl, .inl ⟨by omega, by omega⟩, _, _, rfl, rfl, ?_⟩
        have SI := ((SE.nb (Nb.same v4)).nb (hbF.nb bG)).nb (hbG.nb bI)
        refine ⟨pm, .ref t, W, _, rfl, SI.made, g, .inr ⟨t, T, rfl, SI.tab, SI.tg, fun h => ?_⟩, trivial, fun HJ v5 => ?_⟩
        · have h2 : (1000000 : Int) + 1 + w1 * w2 ≤ 1000000 := h.2
          omega
        refine ⟨_, rfl, iteF ?_⟩
        refine ⟨_, _, _, _, _, _, _, _, _, rfl, bx5.trans (bB5.trans ((Bar.same (v1.trans (v2.trans (v3.trans v4)))).trans (bG.trans (bI.trans (Bar.same v5))))), (hbI.same v5).mono (by omega)⟩
    · rintro σ H' ⟨_, _, _, _, _, _, _, _, _, rfl, b, hb⟩
      exact q H' ((Bar.same sm).trans b) (hb.mono (by show c + 8 * 2 ≤ _; omega))
end
end Law
end
section
set_option Elab.async false
set_option linter.all false
set_option maxRecDepth 100000
set_option maxHeartbeats 4000000
namespace Law
open PySem PySem.Spec PyProof.Rows L2 IK SX
def Brk.early (b : Brk) : Brk := { b with hour := b.hour % 1000 }
def Shp.early (b : Shp) : Shp := { b with hour := b.hour % 1000 }
def Wld.early (W : Wld) : Wld := { W with begin := W.begin % 1000, brks := W.brks.map Brk.early, shps := W.shps.map Shp.early }
theorem mod1000 (n : Int) : 0 ≤ n % 1000 ∧ n % 1000 ≤ 1000000 := by omega
theorem Wld.Good.early {W : Wld} (g : W.Good) : W.early.Good := by
  refine ⟨mod1000 _, g.ports, g.names, g.nd, g.chans, g.good, g.cnd, g.ends, ?_, ?_, ?_, ?_, ?_, ?_, ?_⟩
  · show (W.brks.map Brk.early).length ≤ 4
    rw [List.length_map]
    exact g.brks
  · rintro b hb
    obtain ⟨c, hc, rfl⟩ := List.mem_map.mp hb
    have k := g.bgood c hc
    exact ⟨⟨k.ves.name, k.ves.port, mod1000 _, k.ves.strength, k.ves.draught⟩, k.cut⟩
  · rintro b hb
    obtain ⟨c, hc, rfl⟩ := List.mem_map.mp hb
    exact g.bports c hc
  · show (W.shps.map Shp.early).length ≤ 6
    rw [List.length_map]
    exact g.shps
  · rintro b hb
    obtain ⟨c, hc, rfl⟩ := List.mem_map.mp hb
    have k := g.sgood c hc
    exact ⟨⟨k.ves.name, k.ves.port, mod1000 _, k.ves.strength, k.ves.draught⟩, k.goal⟩
  · rintro b hb
    obtain ⟨c, hc, rfl⟩ := List.mem_map.mp hb
    exact g.sports c hc
  · have : W.early.brks.map (fun b => b.name) ++ W.early.shps.map (fun b => b.name) = W.brks.map (fun b => b.name) ++ W.shps.map (fun b => b.name) := by
      show (W.brks.map Brk.early).map _ ++ (W.shps.map Shp.early).map _ = _
      rw [List.map_map, List.map_map]
      rfl
    rw [this]
    exact g.vnd
theorem brk_early (a b : Brk) (h : a.vals = b.vals) : a.early.vals = b.early.vals := by
  simp only [Brk.vals, Ves.vals, List.cons_append, List.nil_append, List.cons.injEq, V.int.injEq] at h
  obtain ⟨h1, h2, h3, h4, h5, h6, _⟩ := h
  simp only [Brk.vals, Ves.vals, Brk.early, h1, h2, h3, h4, h5, h6]
theorem shp_early (a b : Shp) (h : a.row = b.row) : a.early.row = b.early.row := by
  simp only [Shp.row, List.cons.injEq, V.int.injEq] at h
  obtain ⟨h1, h2, h3, h4, h5, h6, _⟩ := h
  simp only [Shp.row, Shp.early, h1, h2, h3, h4, h5, h6]
def spLaw (K : PySem.W.Frag) : Sp := fun vs H Q _ => ∃ (a : Addr) (ns : List Int), vs = [.ref a] ∧ SqL K H a (ns.map V.int) ∧ (∀ l, H a ≠ some (.lst l)) ∧ ns.length ≤ 63 ∧ ∀ H', Q (.bl true) H'
/-- the script stays -/
theorem script_nb {K : PySem.W.Frag} {H H' : Hp} {a : Addr} {xs : List V} (h : SqL K H a xs) (n : ∀ l, H a ≠ some (.lst l)) (s : Nb H H') : SqL K H' a xs := by
  rcases h with (h | ⟨o, h⟩) | h
  · exact absurd h (n _)
  · exact .inl (.inr ⟨o, s _ _ rfl h⟩)
  · exact .inr h
theorem Nb.hide {H H' : Hp} {d : Addr} (s : Nb H H') : Nb (hide d H) (hide d H') := fun b o n e => by
  by_cases z : b = d
  · simp [Law.hide, z] at e
  · rw [hide_ne z] at e ⊢
    exact s b o n e
/-- the scenes that are held in the list at d -/
def Held (K : PySem.W.Frag) (k : KA) (d : Addr) (H : Hp) (v : V) : Prop := ∃ sc W T pm aw t, v = .ref sc ∧ hide d H sc = some (.tup [.ref pm, .ref aw, .ref t]) ∧ Scene K k (hide d H) W T pm aw t
theorem Held.nb {K : PySem.W.Frag} {k : KA} {d : Addr} {H H' : Hp} {v : V} (h : Held K k d H v) (s : Nb H H') : Held K k d H' v := by
  obtain ⟨sc, W, T, pm, aw, t, h1, h2, h3⟩ := h
  exact ⟨sc, W, T, pm, aw, t, h1, s.hide _ _ rfl h2, h3.nb s.hide⟩
theorem Held.put {K : PySem.W.Frag} {k : KA} {d : Addr} {H : Hp} {o : HO} {v : V} (h : Held K k d H v) : Held K k d (upd H d o) v := by
  obtain ⟨sc, W, T, pm, aw, t, h1, h2, h3⟩ := h
  exact ⟨sc, W, T, pm, aw, t, h1, by rw [hide_upd]; exact h2, by rw [hide_upd]; exact h3⟩
/-- the script: locked, or written -/
def Scr (K : PySem.W.Frag) (H : Hp) (a : Addr) (xs : List V) : Prop := (∃ o, H a = some (.frz o (.lst xs))) ∨ ∃ (o : Obj) (its : Array Value) (n : Nat), K.lookup a = some o ∧ o.cls = .type "list" ∧ o.dict = none ∧ o.data = .seq its n ∧ its.size ≤ sizeLine ∧ Vals xs its.toList
theorem Scr.l {K : PySem.W.Frag} {H : Hp} {a : Addr} {xs : List V} (h : Scr K H a xs) : SqL K H a xs := by
  rcases h with h | h
  · exact .inl (.inr h)
  · exact .inr h
theorem Scr.of {K : PySem.W.Frag} {H : Hp} {a : Addr} {xs : List V} (h : SqL K H a xs) (n : ∀ l, H a ≠ some (.lst l)) : Scr K H a xs := by
  rcases h with (h | h) | h
  · exact absurd h (n _)
  · exact .inl h
  · exact .inr h
theorem Scr.nb {K : PySem.W.Frag} {H H' : Hp} {a : Addr} {xs : List V} (h : Scr K H a xs) (s : Nb H H') : Scr K H' a xs := by
  rcases h with ⟨o, h⟩ | h
  · exact .inl ⟨o, s _ _ rfl h⟩
  · exact .inr h
theorem Scr.put {K : PySem.W.Frag} {H : Hp} {a d : Addr} {xs l : List V} {o : HO} (h : Scr K H a xs) (hd : H d = some (.lst l)) : Scr K (upd H d o) a xs := by
  rcases h with ⟨o', h⟩ | h
  · exact .inl ⟨o', by rw [upd_ne (fun z => by rw [z, hd] at h; cases h)]; exact h⟩
  · exact .inr h
theorem cut_mem {l : List V} {a b : Option Int} {x : V} (h : x ∈ cutV l a b) : x ∈ l := List.mem_of_mem_drop (List.mem_of_mem_take h)
theorem nb_held {K : PySem.W.Frag} {k : KA} {d : Addr} {H : Hp} {l : List V} (h : ∀ v ∈ l, Held K k d H v) : nb (.lst l) = true := nb_lst fun x hx i z => by
  obtain ⟨sc, W, T, pm, aw, t, h1, _⟩ := h x hx
  rw [h1] at z
  cases z
section
variable {P : Program} {w : World} {K : PySem.W.Frag} {mg : Str → Option Value} {base : Heap}
theorem ok_law {k : KA} {f : Addr} {fd : FuncData} (F : Fun K "law" "law" s_law f fd) (B : Blt mg) (DC : Dn P w K mg base CX0 1 "_law_cell" ["_law_script", "_law_k"] (spCell K)) (DB : Dn P w K mg base CX0 1 "_law_box" ["_law_cell_here"] spBox) (DT : Dn P w K mg base CX0 1 "_law_take" ["_law_box_here", "_law_many"] spTake)
    (DF : Dn P w K mg base CX0 2 "_law_few" ["_law_box_here"] spFew) (DLWd : Dn P w K mg base CX0 4 "_law_world" ["_law_box_here", "_law_sizes"] spLWorld) (DM : Dn P w K mg base CX0 7 "_law_made" ["_law_world_here"] (spMade k)) (DLTb : Dn P w K mg base CX0 3 "_law_table" ["_law_box_here", "_law_world_here"] (spLTable K))
    (DR : DnG P w K mg base CX0 11 "_law_right" ["_law_box_here", "_law_scene"] (spRight K k)) : FnG P w K mg base CX0 12 f fd ["_law_script"] (spLaw K) := by
  refine funG F sc_law (fun vs H Q E h => ?_) (fun cdv A outer s H vs Q E hr gd h => ?_)
  · obtain ⟨a, ns, rfl, _⟩ := h
    rfl
  · obtain ⟨a, ns, rfl, hS, hn, hl, q⟩ := h
    refine ⟨_, (pss_cons (ps_set (i := 1) sc_law.nd rfl (.inl rfl) (pe_lst pa_nil))
      (pss_cons (ps_for (passes_of rfl) rfl (pi_range1 (by rfl) B.range (pa_cons (pe_callB (call_max2 rfl) (by rfl) B.max (by decide +kernel) (pa_cons pe_int (pa_cons (pe_callB (call_min2 rfl) (by rfl) B.min (by decide +kernel) (pa_cons pe_int (pa_cons (pe_callB call_len_seq (by rfl) B.len PySem.boot_len (pa_cons (pv 0) pa_nil)) pa_nil))) pa_nil))) pa_nil)) (pg_name (i := 2) sc_law.nd rfl (.inl rfl))
      (pss_cons (ps_set (i := 3) sc_law.nd rfl (.inl rfl) (pe_d DB (hr.mono (by decide)) (by rfl) pass0 (pa_cons (pe_d DC (hr.mono (by decide)) (by rfl) pass0 (pa_cons (pv 0) (pa_cons (pv 2) pa_nil))) pa_nil)))
      (pss_cons (ps_set (i := 4) sc_law.nd rfl (.inl rfl) (pe_cmpR op_gt (pe_d DT (hr.mono (by decide)) (by rfl) pass0 (pa_cons (pv 3) (pa_cons pe_int pa_nil))) pe_int (nomark _)))
      (pss_cons (ps_set (i := 5) sc_law.nd rfl (.inl rfl) (pe_d DLWd (hr.mono (by decide)) (by rfl) pass0 (pa_cons (pv 3) (pa_cons (pe_d DF (hr.mono (by decide)) (by rfl) pass0 (pa_cons (pv 3) pa_nil)) pa_nil))))
      (pss_cons (ps_if (pt_val (pv 4)) (pss_cons (ps_set (i := 6) sc_law.nd rfl (.inl rfl) (pe_callTy call_tuple_of (by rfl) B.tuple (by decide +kernel) (pa_cons (pe_lc (own := [("_law_row", 9)]) (g := gName 9) (tt := tYes) rfl sc_law.nd (pi_seq (pe_ix ix_tup (pv 5) pe_int (fun _ _ => rfl))) (blkOk_by (N := ["_law_script", "_law_ahead", "_law_k", "_law_box_here", "_law_early", "_law_world_here", "_law_first", "_law_last", "_law_scene", "_law_row"]) (sc := defScope s_law) (by decide +kernel)) (fun _ _ _ _ _ => pg_name (i := 9) sc_law.nd rfl (Or.inl rfl)) (fun _ _ _ _ _ => pts_nil) (fun _ _ _ _ _ => (pe_op (show OpR _ (binaryOp .Add) (rCatT K) from op_catT) (pe_op (show OpR _ (binaryOp .Add) (rCatT K) from op_catT) (pe_slice (show SlR _ (rSlT K) from sl_tup) (pv 9) po_none (po_some pe_int)) (pe_tup (pa_cons (pe_op op_mod (pe_ix (show IxR _ (rIxT K) from ix_tup) (pv 9) pe_int (fun _ _ => rfl)) pe_int) pa_nil))) (pe_slice (show SlR _ (rSlT K) from sl_tup) (pv 9) (po_some pe_int) po_none)))) pa_nil)))
      (pss_cons (ps_set (i := 7) sc_law.nd rfl (.inl rfl) (pe_callTy call_tuple_of (by rfl) B.tuple (by decide +kernel) (pa_cons (pe_lc (own := [("_law_row", 9)]) (g := gName 9) (tt := tYes) rfl sc_law.nd (pi_seq (pe_ix ix_tup (pv 5) pe_int (fun _ _ => rfl))) (blkOk_by (N := ["_law_script", "_law_ahead", "_law_k", "_law_box_here", "_law_early", "_law_world_here", "_law_first", "_law_last", "_law_scene", "_law_row"]) (sc := defScope s_law) (by decide +kernel)) (fun _ _ _ _ _ => pg_name (i := 9) sc_law.nd rfl (Or.inl rfl)) (fun _ _ _ _ _ => pts_nil) (fun _ _ _ _ _ => (pe_op (show OpR _ (binaryOp .Add) (rCatT K) from op_catT) (pe_op (show OpR _ (binaryOp .Add) (rCatT K) from op_catT) (pe_slice (show SlR _ (rSlT K) from sl_tup) (pv 9) po_none (po_some pe_int)) (pe_tup (pa_cons (pe_op op_mod (pe_ix (show IxR _ (rIxT K) from ix_tup) (pv 9) pe_int (fun _ _ => rfl)) pe_int) pa_nil))) (pe_slice (show SlR _ (rSlT K) from sl_tup) (pv 9) (po_some pe_int) po_none)))) pa_nil)))
      (pss_one (ps_set (i := 5) sc_law.nd rfl (.inl rfl) (pe_op op_catT (pe_op op_catT (pe_tup (pa_cons (pe_op op_mod (pe_ix ix_tup (pv 5) pe_int (fun _ _ => rfl)) pe_int) pa_nil)) (pe_slice sl_tup (pv 5) (po_some pe_int) (po_some pe_int))) (pe_tup (pa_cons (pv 6) (pa_cons (pv 7) pa_nil)))))))) pss_nil)
      (pss_cons (ps_expr (pe_bm PySem.F.plainAttrs_list PySem.F.slot_list_append PySem.F.type_list_append mt_append (pv 1) (pa_cons (pe_tup (pa_cons (pe_d DM (hr.mono (by decide)) (by rfl) pass0 (pa_cons (pv 5) pa_nil)) (pa_cons (pv 5) (pa_cons (pe_d DLTb (hr.mono (by decide)) (by rfl) pass0 (pa_cons (pv 3) (pa_cons (pv 5) pa_nil))) pa_nil)))) pa_nil)))
      (pss_one (ps_for (passes_of rfl) rfl (pi_list (pe_slice sl_list (pv 1) (po_some (pe_un un_neg pe_int)) po_none)) (pg_name (i := 8) sc_law.nd rfl (.inl rfl))
      (pss_one (ps_if (pt_not (pt_val (pe_dG DR (hr.mono (by decide)) gd (by rfl) pass0 (pa_cons (pv 3) (pa_cons (pv 8) pa_nil))))) (pss_one (ps_ret pe_bl)) pss_nil))))))))))
      (pss_one (ps_ret pe_bl)))), ?_⟩
    refine ⟨Nat.le_of_ble_eq_true rfl, fun d hd => ?_⟩
    generalize hXq : upd _ d _ = H0
    have s0 := laid_same hXq hd
    have e0 := laid_at hXq
    clear hXq
    have hS0 := (Scr.of hS hn).nb (Nb.same s0)
    have hn63 : (ns.map V.int).length ≤ 63 := by rw [List.length_map]; exact hl
    generalize hm : (ns.map V.int).length = m at hn63
    refine ⟨_, rfl, a, _, rfl, .inl hS0.l, _, _, rfl, _, _, rfl, _, rfl, ?_, ?_, ?_⟩
    · split <;> split <;> omega
    · split <;> split <;> omega
    refine for_it walk_rng (fun i σ H' => ∃ y1 y2 y3 y4 y5 y6 y7 y8, σ = [some (.ref a), some (.ref d), y1, y2, y3, y4, y5, y6, y7, y8] ∧ Scr K H' a (ns.map V.int) ∧ ∃ L, H' d = some (.lst L) ∧ L.length ≤ i ∧ ∀ v ∈ L, Held K k d H' v)
      ⟨_, _, _, _, _, _, _, _, rfl, hS0, [], e0, Nat.le_refl _, fun _ h => by cases h⟩ (fun _ _ _ _ _ => trivial) ?_ ?_
    · rintro i x σ Hq Hi hi ⟨_, _, _, _, _, _, _, _, rfl, hSi, L, hdi, hLl, hLi⟩ ⟨rfl, rfl⟩
      have hi6 : i < 6 := Nat.lt_of_lt_of_le hi (by split <;> split <;> omega)
      have nbL := nb_held hLi
      refine ⟨_, rfl, _, rfl, a, ns, i, (by rw [Int.zero_add]), hSi.l, hl, fun cn => ?_⟩
      refine ⟨cn, rfl, fun p H1 hp0 hp1 s1 => ?_⟩
      refine ⟨_, rfl, p, 4, 0, rfl, hp1, by decide, by decide, by decide, fun r H2 r0 r1 hp2 b2 => ?_⟩
      refine ⟨_, _, rfl, rfl, ?_⟩
      refine ⟨_, rfl, _, rfl, p, _, rfl, hp2, by omega, fun lz z1 z2 z3 z4 H3 k1 k2 k3 k4 hz hp3 b3 => ?_⟩
      refine ⟨p, lz, z1, z2, z3, z4, _, rfl, hp3, by omega, hz, k1, k2, k3, k4, fun aw W H4 g hT hp4 b4 => ?_⟩
      have N4 : Nb Hi H4 := (Nb.same s1).trans ((hp1.nb b2).trans ((hp2.nb b3).trans (hp3.nb b4)))
      refine ⟨_, rfl, _, rfl, ?_⟩
      refine ite2 (fun _ => ?_) (fun _ => ?_)
      · have hsuff : True := trivial
        obtain ⟨ap, ac, ab, as, yc, yb, ys, t1, t2, t3, t4, t5, t6, t7, t8⟩ := id hT
        have lb1 : yb.length ≤ 4 := by rw [t6.1, List.length_map]; exact g.brks
        have ls1 : ys.length ≤ 6 := by rw [t8.1, List.length_map]; exact g.shps
        have sm := Same.refl H4
        refine ⟨_, rfl, aw, _, 3, _, rfl, rfl, .inl (.inl (sm _ _ t1)), rfl, ab, rfl, lc_map (fun x y H' => ∃ p b, x = .ref p ∧ H4 p = some (.tup (Brk.vals b)) ∧ ∃ a, y = .ref a ∧ H' a = some (.tup (Brk.vals (Brk.early b)))) (.t (sm _ _ t5)) (Nat.lt_of_le_of_lt lb1 (by decide)) (fun x y H H' s ⟨p, b, e, o, a, e2, h⟩ => ⟨p, b, e, o, a, e2, s _ _ h⟩)
          (fun x y H D l hD ⟨p, b, e, o, a, e2, h⟩ => ⟨p, b, e, o, a, e2, hide_of hD (fun _ z => by cases z) h⟩) ?_ ?_⟩
        · intro x J0 kk hx s0 kq
          obtain ⟨o, b, rfl, _, e⟩ := t6.mem hx
          have e0 := s0 _ _ (sm _ _ e)
          refine ⟨rfl, _, rfl, _, rfl, o, _, rfl, .inl (.inl e0), (by show ¬ (HT.sIx 6 0 none = 0 ∧ HT.sIx 6 6 (some 2) = 6); decide +kernel), fun q1 hq1 => ?_⟩
          generalize hXq : upd _ q1 _ = J1
          have s1' := laid_same hXq hq1
          have e1' := laid_at hXq
          clear hXq
          refine ⟨_, rfl, o, _, 2, _, rfl, rfl, .inl (.inl (s1' _ _ e0)), rfl, _, _, rfl, rfl, (by show (0 : Int) < 1000; decide), ?_⟩
          refine ⟨Nat.le_of_ble_eq_true rfl, fun t ht => ?_⟩
          generalize hXq : upd _ t _ = J2
          have s2' := laid_same hXq ht
          have e2' := laid_at hXq
          clear hXq
          refine ⟨q1, t, _, _, rfl, rfl, .inl (.inl (s2' _ _ e1')), .inl (.inl e2'), (by intro z; cases z), Nat.le_of_ble_eq_true rfl, (fun z => by cases z), fun _ q2 hq2 => ?_⟩
          generalize hXq : upd _ q2 _ = J3
          have s3' := laid_same hXq hq2
          have e3' := laid_at hXq
          clear hXq
          refine ⟨_, rfl, _, rfl, o, _, rfl, .inl (.inl (s3' _ _ (s2' _ _ (s1' _ _ e0)))), (by show ¬ (HT.sIx 6 0 (some 3) = 0 ∧ HT.sIx 6 6 none = 6); decide +kernel), fun q3 hq3 => ?_⟩
          generalize hXq : upd _ q3 _ = J4
          have s4' := laid_same hXq hq3
          have e4' := laid_at hXq
          clear hXq
          refine ⟨q2, q3, _, _, rfl, rfl, .inl (.inl (s4' _ _ e3')), .inl (.inl e4'), (by intro z; cases z), Nat.le_of_ble_eq_true rfl, (fun z => by cases z), fun _ q5 hq5 => ?_⟩
          generalize hXq : upd _ q5 _ = J5
          have s5' := laid_same hXq hq5
          have e5' := laid_at hXq
          clear hXq
          exact kq _ _ (s1'.trans (s2'.trans (s3'.trans (s4'.trans s5')))) ⟨o, b, rfl, e, q5, rfl, e5'⟩
        intro D3 zb J6 hD s7 hyD3 e
        have rD3 := rows_map brk_early t6 e
        clear e
        have sm := sm.trans s7
        refine ⟨D3, _, rfl, .inl ⟨.inl (.inl hyD3), fun u1 hu1 => ?_⟩⟩
        generalize hXq : upd _ u1 _ = G1
        have v1 := laid_same hXq hu1
        have f1 := laid_at hXq
        clear hXq
        have rD3 := rD3.same v1
        have sm := sm.trans v1
        refine ⟨_, rfl, aw, _, 4, _, rfl, rfl, .inl (.inl (sm _ _ t1)), rfl, as, rfl, lc_map (fun x y H' => ∃ p b, x = .ref p ∧ H4 p = some (.tup (Shp.row b)) ∧ ∃ a, y = .ref a ∧ H' a = some (.tup (Shp.row (Shp.early b)))) (.t (sm _ _ t7)) (Nat.lt_of_le_of_lt ls1 (by decide)) (fun x y H H' s ⟨p, b, e, o, a, e2, h⟩ => ⟨p, b, e, o, a, e2, s _ _ h⟩)
          (fun x y H D l hD ⟨p, b, e, o, a, e2, h⟩ => ⟨p, b, e, o, a, e2, hide_of hD (fun _ z => by cases z) h⟩) ?_ ?_⟩
        · intro x J0 kk hx s0 kq
          obtain ⟨o, b, rfl, _, e⟩ := t8.mem hx
          have e0 := s0 _ _ (sm _ _ e)
          refine ⟨rfl, _, rfl, _, rfl, o, _, rfl, .inl (.inl e0), (by show ¬ (HT.sIx 6 0 none = 0 ∧ HT.sIx 6 6 (some 3) = 6); decide +kernel), fun q1 hq1 => ?_⟩
          generalize hXq : upd _ q1 _ = J1
          have s1' := laid_same hXq hq1
          have e1' := laid_at hXq
          clear hXq
          refine ⟨_, rfl, o, _, 3, _, rfl, rfl, .inl (.inl (s1' _ _ e0)), rfl, _, _, rfl, rfl, (by show (0 : Int) < 1000; decide), ?_⟩
          refine ⟨Nat.le_of_ble_eq_true rfl, fun t ht => ?_⟩
          generalize hXq : upd _ t _ = J2
          have s2' := laid_same hXq ht
          have e2' := laid_at hXq
          clear hXq
          refine ⟨q1, t, _, _, rfl, rfl, .inl (.inl (s2' _ _ e1')), .inl (.inl e2'), (by intro z; cases z), Nat.le_of_ble_eq_true rfl, (fun z => by cases z), fun _ q2 hq2 => ?_⟩
          generalize hXq : upd _ q2 _ = J3
          have s3' := laid_same hXq hq2
          have e3' := laid_at hXq
          clear hXq
          refine ⟨_, rfl, _, rfl, o, _, rfl, .inl (.inl (s3' _ _ (s2' _ _ (s1' _ _ e0)))), (by show ¬ (HT.sIx 6 0 (some 4) = 0 ∧ HT.sIx 6 6 none = 6); decide +kernel), fun q3 hq3 => ?_⟩
          generalize hXq : upd _ q3 _ = J4
          have s4' := laid_same hXq hq3
          have e4' := laid_at hXq
          clear hXq
          refine ⟨q2, q3, _, _, rfl, rfl, .inl (.inl (s4' _ _ e3')), .inl (.inl e4'), (by intro z; cases z), Nat.le_of_ble_eq_true rfl, (fun z => by cases z), fun _ q5 hq5 => ?_⟩
          generalize hXq : upd _ q5 _ = J5
          have s5' := laid_same hXq hq5
          have e5' := laid_at hXq
          clear hXq
          exact kq _ _ (s1'.trans (s2'.trans (s3'.trans (s4'.trans s5')))) ⟨o, b, rfl, e, q5, rfl, e5'⟩
        intro D4 zs J6 hD s7 hyD4 e
        have rD4 := rows_map shp_early t8 e
        clear e
        have sm := sm.trans s7
        refine ⟨D4, _, rfl, .inl ⟨.inl (.inl hyD4), fun u2 hu2 => ?_⟩⟩
        generalize hXq : upd _ u2 _ = G2
        have v2 := laid_same hXq hu2
        have f2 := laid_at hXq
        clear hXq
        have rD4 := rD4.same v2
        have sm := sm.trans v2
        have rD3 := rD3.same (s7.trans v2)
        have f1 := v2 _ _ (s7 _ _ f1)
        clear s7 v1 v2 hyD3 hyD4
        refine ⟨_, rfl, aw, _, 0, _, rfl, rfl, .inl (.inl (sm _ _ t1)), rfl, _, _, rfl, rfl, (by show (0 : Int) < 1000; decide), ?_⟩
        refine ⟨Nat.le_of_ble_eq_true rfl, fun x1 hx1 => ?_⟩
        generalize hXq : upd _ x1 _ = G3
        have w1 := laid_same hXq hx1
        have g1 := laid_at hXq
        clear hXq
        refine ⟨_, rfl, _, rfl, _, rfl, aw, _, rfl, .inl (.inl (w1 _ _ (sm _ _ t1))), (by show ¬ (HT.sIx 5 0 (some 1) = 0 ∧ HT.sIx 5 5 (some 3) = 5); decide +kernel), fun x2 hx2 => ?_⟩
        generalize hXq : upd _ x2 _ = G4
        have w2 := laid_same hXq hx2
        have g2 := laid_at hXq
        clear hXq
        refine ⟨x1, x2, _, _, rfl, rfl, .inl (.inl (w2 _ _ g1)), .inl (.inl g2), (by intro z; cases z), Nat.le_of_ble_eq_true rfl, (fun z => by cases z), fun _ x3 hx3 => ?_⟩
        generalize hXq : upd _ x3 _ = G5
        have w3 := laid_same hXq hx3
        have g3 := laid_at hXq
        clear hXq
        refine ⟨_, rfl, _, rfl, ?_⟩
        refine ⟨Nat.le_of_ble_eq_true rfl, fun x4 hx4 => ?_⟩
        generalize hXq : upd _ x4 _ = G6
        have w4 := laid_same hXq hx4
        have g4 := laid_at hXq
        clear hXq
        refine ⟨x3, x4, _, _, rfl, rfl, .inl (.inl (w4 _ _ g3)), .inl (.inl g4), (by intro z; cases z), Nat.le_of_ble_eq_true rfl, (fun z => by cases z), fun _ x5 hx5 => ?_⟩
        generalize hXq : upd _ x5 _ = HX
        have w5 := laid_same hXq hx5
        have g5 := laid_at hXq
        clear hXq
        have wz := w1.trans (w2.trans (w3.trans (w4.trans w5)))
        have smX := sm.trans wz
        have fb : RowsIs HX zb (W.early.brks.map Brk.vals) := by
          show RowsIs HX zb ((W.brks.map Brk.early).map Brk.vals)
          rw [List.map_map]
          exact rD3.same wz
        have fs : RowsIs HX zs (W.early.shps.map Shp.row) := by
          show RowsIs HX zs ((W.shps.map Shp.early).map Shp.row)
          rw [List.map_map]
          exact rD4.same wz
        have hT : ToldAt HX x5 W.early := ⟨ap, ac, u1, u2, yc, zb, zs, g5, smX _ _ t2, smX _ _ t3, t4.same smX, wz _ _ f1, fb, wz _ _ f2, fs⟩
        have g := g.early
        have hpX := (hp4.same smX).mono (show 0 + 1 + 5 + 310 ≤ 400 by omega)
        have NX := N4.trans (Nb.same smX)
        have hdX := NX _ _ nbL hdi
        have hLX : ∀ v ∈ L, Held K k d HX v := fun v hv => (hLi v hv).nb NX
        have hSX := hSi.nb NX
        generalize W.early = W at hT g
        clear t1 t2 t3 t4 t5 t6 t7 t8 fb fs f1 f2 g1 g2 g3 g4 g5 rD3 rD4 hp4 hp3 hp2 hp1 sm smX wz
        generalize x5 = aw at hT ⊢
        have c : Nat := 400
        refine ⟨_, rfl, .inl ⟨rfl, L, .inl (.inl hdX)⟩, _, rfl, aw, W, rfl, hT, g, fun pm H7 hpm s7 hW7 hh7 => ?_⟩
        have hp7 := hpX.same s7
        have hd7 := s7 _ _ hdX
        refine ⟨_, rfl, _, rfl, _, rfl, p, aw, W, _, rfl, hp7, by omega, hT.same s7, g, fun t T H8 ht8 hTab tg few hp8 b8 hh8 => ?_⟩
        have N8 := hp7.nb b8
        have dp : d ≠ p := fun z => by
          obtain ⟨u, v, w, h1, _⟩ := hp7
          rw [z, h1] at hd7
          rw [← Option.some.inj hd7] at nbL
          cases nbL
        refine ⟨Nat.le_of_ble_eq_true rfl, fun sc hsc => ?_⟩
        generalize hXq : upd _ sc _ = H9
        have s9 := laid_same hXq hsc
        have e9 := laid_at hXq
        clear hXq
        have hd9 := s9 _ _ (N8 _ _ nbL hd7)
        have S9 : Scene K k (hide d H9) W T pm aw t := ⟨((hh7 d L hdX).nb N8.hide).same (hide_same s9), (((hT.same s7).nb N8).same s9).hide hd9, (hh8 d L hd7 dp).same (hide_same s9), g, tg, few⟩
        have hn : Held K k d H9 (.ref sc) := ⟨sc, W, T, pm, aw, t, rfl, hide_of hd9 (fun _ z => by cases z) e9, S9⟩
        refine ⟨d, L, _, rfl, rfl, hd9, Nat.lt_of_le_of_lt (show L.length ≤ 10 by omega) (by decide), ?_⟩
        have NX9 : Nb HX H9 := (Nb.same s7).trans (N8.trans (Nb.same s9))
        have hL10 : ∀ v ∈ L ++ [.ref sc], Held K k d (upd H9 d (.lst (L ++ [.ref sc]))) v := fun v hv => by
          rcases List.mem_append.mp hv with hv | hv
          · exact ((hLX v hv).nb NX9).put
          · obtain rfl := List.mem_singleton.mp hv
            exact hn.put
        have hScr := (hSX.nb NX9).put (o := .lst (L ++ [.ref sc])) hd9
        have hp10 : BoxAt (upd H9 d (.lst (L ++ [.ref sc]))) p (900) := by
          obtain ⟨u, v, w, h1, h2⟩ := hp8.same s9
          exact ⟨u, v, w, by rw [upd_ne (Ne.symm dp)]; exact h1, h2⟩
        have hd10 : upd H9 d (.lst (L ++ [.ref sc])) d = some (.lst (L ++ [.ref sc])) := upd_same
        have lenL : (L ++ [V.ref sc]).length ≤ i + 1 := by simp; omega
        generalize upd H9 d (.lst (L ++ [.ref sc])) = H10 at hL10 hScr hp10 hd10 ⊢
        generalize L ++ [V.ref sc] = L' at hL10 hd10 lenL ⊢
        have nbL' := nb_held hL10
        refine ⟨_, rfl, _, rfl, _, rfl, d, _, rfl, SqL.of hd10, fun l2 hl2 => ?_⟩
        generalize hXq : upd _ l2 _ = H11
        have s11 := laid_same hXq hl2
        have e11 := laid_at hXq
        clear hXq
        have hp11 := hp10.same s11
        have len2 : (cutV L' (some (-2)) none).length ≤ 10 := Nat.le_trans (cutV_length _ _ _) (by omega)
        have nb2 : nb (.lst (cutV L' (some (-2)) none)) = true := nb_held fun v hv => hL10 v (cut_mem hv)
        refine ⟨l2, rfl, ⟨_, SqL.of e11⟩, for_it (walk_lst (xs := cutV L' (some (-2)) none)) (fun j σ H' => ∃ y2 y3 y4 y5 y6 y7 y8, σ = [some (.ref a), some (.ref d), y2, some (.ref p), y3, y4, y5, y6, y7, y8] ∧ Nb H11 H' ∧ BoxAt H' p (900 + 16 * j)) ⟨_, _, _, _, _, _, _, rfl, Nb.refl, hp11.mono (by omega)⟩
          (fun j σ H' _ ⟨_, _, _, _, _, _, _, _, n, _⟩ => SqL.of (n _ _ nb2 e11)) ?_ ?_⟩
        · rintro j x σ Hq H12 hj ⟨_, _, _, _, _, _, _, rfl, N12, hb12⟩ ⟨rfl, hx⟩
          obtain ⟨sc', W', T', pm', aw', t', rfl, h2, h3⟩ := ((hL10 x (cut_mem (List.mem_of_getElem? hx))).nb ((Nb.same s11).trans N12))
          refine ⟨_, rfl, _, rfl, p, sc', W', T', pm', aw', t', _, rfl, hb12, by omega, hide_le _ _ h2, h3.nb (Nb.same hide_le), fun H13 b13 hb13 => ?_⟩
          refine ⟨true, rfl, iteF ?_⟩
          exact ⟨_, _, _, _, _, _, _, rfl, N12.trans (hb12.nb b13), hb13.mono (by omega)⟩
        · rintro σ H12 ⟨_, _, _, _, _, _, _, rfl, N12, hb12⟩
          have NE := (Nb.same s11).trans N12
          exact ⟨_, _, _, _, _, _, _, _, rfl, hScr.nb NE, L', NE _ _ nbL' hd10, lenL, fun v hv => (hL10 v hv).nb NE⟩
      · have hpX := hp4.mono (show 0 + 1 + 5 + 310 ≤ 400 by omega)
        have hdX := N4 _ _ nbL hdi
        have hLX : ∀ v ∈ L, Held K k d H4 v := fun v hv => (hLi v hv).nb N4
        have hSX := hSi.nb N4
        clear hp4 hp3 hp2 hp1
        generalize H4 = HX at hpX hdX hLX hSX hT ⊢
        refine ⟨_, rfl, .inl ⟨rfl, L, .inl (.inl hdX)⟩, _, rfl, aw, W, rfl, hT, g, fun pm H7 hpm s7 hW7 hh7 => ?_⟩
        have hp7 := hpX.same s7
        have hd7 := s7 _ _ hdX
        refine ⟨_, rfl, _, rfl, _, rfl, p, aw, W, _, rfl, hp7, by omega, hT.same s7, g, fun t T H8 ht8 hTab tg few hp8 b8 hh8 => ?_⟩
        have N8 := hp7.nb b8
        have dp : d ≠ p := fun z => by
          obtain ⟨u, v, w, h1, _⟩ := hp7
          rw [z, h1] at hd7
          rw [← Option.some.inj hd7] at nbL
          cases nbL
        refine ⟨Nat.le_of_ble_eq_true rfl, fun sc hsc => ?_⟩
        generalize hXq : upd _ sc _ = H9
        have s9 := laid_same hXq hsc
        have e9 := laid_at hXq
        clear hXq
        have hd9 := s9 _ _ (N8 _ _ nbL hd7)
        have S9 : Scene K k (hide d H9) W T pm aw t := ⟨((hh7 d L hdX).nb N8.hide).same (hide_same s9), (((hT.same s7).nb N8).same s9).hide hd9, (hh8 d L hd7 dp).same (hide_same s9), g, tg, few⟩
        have hn : Held K k d H9 (.ref sc) := ⟨sc, W, T, pm, aw, t, rfl, hide_of hd9 (fun _ z => by cases z) e9, S9⟩
        refine ⟨d, L, _, rfl, rfl, hd9, Nat.lt_of_le_of_lt (show L.length ≤ 10 by omega) (by decide), ?_⟩
        have NX9 : Nb HX H9 := (Nb.same s7).trans (N8.trans (Nb.same s9))
        have hL10 : ∀ v ∈ L ++ [.ref sc], Held K k d (upd H9 d (.lst (L ++ [.ref sc]))) v := fun v hv => by
          rcases List.mem_append.mp hv with hv | hv
          · exact ((hLX v hv).nb NX9).put
          · obtain rfl := List.mem_singleton.mp hv
            exact hn.put
        have hScr := (hSX.nb NX9).put (o := .lst (L ++ [.ref sc])) hd9
        have hp10 : BoxAt (upd H9 d (.lst (L ++ [.ref sc]))) p (900) := by
          obtain ⟨u, v, w, h1, h2⟩ := hp8.same s9
          exact ⟨u, v, w, by rw [upd_ne (Ne.symm dp)]; exact h1, h2⟩
        have hd10 : upd H9 d (.lst (L ++ [.ref sc])) d = some (.lst (L ++ [.ref sc])) := upd_same
        have lenL : (L ++ [V.ref sc]).length ≤ i + 1 := by simp; omega
        generalize upd H9 d (.lst (L ++ [.ref sc])) = H10 at hL10 hScr hp10 hd10 ⊢
        generalize L ++ [V.ref sc] = L' at hL10 hd10 lenL ⊢
        have nbL' := nb_held hL10
        refine ⟨_, rfl, _, rfl, _, rfl, d, _, rfl, SqL.of hd10, fun l2 hl2 => ?_⟩
        generalize hXq : upd _ l2 _ = H11
        have s11 := laid_same hXq hl2
        have e11 := laid_at hXq
        clear hXq
        have hp11 := hp10.same s11
        have len2 : (cutV L' (some (-2)) none).length ≤ 10 := Nat.le_trans (cutV_length _ _ _) (by omega)
        have nb2 : nb (.lst (cutV L' (some (-2)) none)) = true := nb_held fun v hv => hL10 v (cut_mem hv)
        refine ⟨l2, rfl, ⟨_, SqL.of e11⟩, for_it (walk_lst (xs := cutV L' (some (-2)) none)) (fun j σ H' => ∃ y2 y3 y4 y5 y6 y7 y8, σ = [some (.ref a), some (.ref d), y2, some (.ref p), y3, y4, y5, y6, y7, y8] ∧ Nb H11 H' ∧ BoxAt H' p (900 + 16 * j)) ⟨_, _, _, _, _, _, _, rfl, Nb.refl, hp11.mono (by omega)⟩
          (fun j σ H' _ ⟨_, _, _, _, _, _, _, _, n, _⟩ => SqL.of (n _ _ nb2 e11)) ?_ ?_⟩
        · rintro j x σ Hq H12 hj ⟨_, _, _, _, _, _, _, rfl, N12, hb12⟩ ⟨rfl, hx⟩
          obtain ⟨sc', W', T', pm', aw', t', rfl, h2, h3⟩ := ((hL10 x (cut_mem (List.mem_of_getElem? hx))).nb ((Nb.same s11).trans N12))
          refine ⟨_, rfl, _, rfl, p, sc', W', T', pm', aw', t', _, rfl, hb12, by omega, hide_le _ _ h2, h3.nb (Nb.same hide_le), fun H13 b13 hb13 => ?_⟩
          refine ⟨true, rfl, iteF ?_⟩
          exact ⟨_, _, _, _, _, _, _, rfl, N12.trans (hb12.nb b13), hb13.mono (by omega)⟩
        · rintro σ H12 ⟨_, _, _, _, _, _, _, rfl, N12, hb12⟩
          have NE := (Nb.same s11).trans N12
          exact ⟨_, _, _, _, _, _, _, _, rfl, hScr.nb NE, L', NE _ _ nbL' hd10, lenL, fun v hv => (hL10 v hv).nb NE⟩
    · rintro σ H' ⟨_, _, _, _, _, _, _, _, rfl, _⟩
      exact q H'
end
end Law
end
section
set_option Elab.async false
set_option linter.all false
set_option maxRecDepth 100000
set_option maxHeartbeats 4000000
namespace Law
open PySem PySem.Spec PyProof.Rows L2 IK SX
/-- what is read of an error class over ValueError -/
theorem exm_own {K : PySem.W.Frag} {C : Addr} (h1 : PySem.W.subIn K (.ref C) (.type "BaseException") = some true) (h2 : PySem.W.isClsIn K C = true) (h3 : PySem.W.typeIn K (.ref C) = some (.type "type")) (h4 : PySem.W.subIn K (.ref C) (.ref C) = some true) :
    PySem.W.exmOne K (.ref C) (.ref C) = some true := by
  have e1 : (PySem.W.subIn K (.ref C) (.type "BaseException") == some true) = true := by rw [h1] <;> rfl
  have e2 : ((PySem.W.clsIn K C).isSome && PySem.W.typeIn K (.ref C) == some (.type "type")) = true := by
    have z : (PySem.W.clsIn K C).isSome = true := h2
    rw [z, h3] <;> rfl
  show (if (PySem.W.subIn K (.ref C) (.type "BaseException") == some true) = true then _ else none) = some true
  rw [if_pos e1]
  show (if ((PySem.W.clsIn K C).isSome && PySem.W.typeIn K (.ref C) == some (.type "type")) = true then _ else none) = some true
  rw [if_pos e2]
  exact h4
theorem kit_self {K : PySem.W.Frag} {C : Addr} : PySem.W.kitOne K (.ref C) (.ref C) = some true := by
  unfold PySem.W.kitOne
  rw [if_pos (by simp)]
end Law
end
section
set_option Elab.async false
open PySem PySem.W PyProof.Rows
set_option maxHeartbeats 0
set_option maxRecDepth 100000
open_top head for PySem.Challenge.rw_iceopened_k75_later
end
section
set_option Elab.async false
set_option linter.all false
set_option maxRecDepth 100000
set_option maxHeartbeats 4000000
namespace Law
open PySem PySem.Spec PyProof.Rows L2 IK SX
theorem all_mk {P : Program} {w : World} {K : PySem.W.Frag} {h : Heap} {mg : Str → Option Value} {fa : Addr} (X : K.In h) (G : h.Ns mainGlobals mg) (hfa : mg "law" = some (.ref fa))
    {CI CN CC CV CB CS CW : Addr} {nm q : Str} {N : Addr} {bs : List Value} {sn : List Str} {sub : List Value} {ab : Bool} {col : Option Bool} {dd : Option Addr} {m0 m1 m2 m3 m5 : Option Value} {tL : Tok}
    {t_MOST_HOUR : Tok}
    {t_MOST_ICE : Tok}
    {t_MOST_DEPTH : Tok}
    {t_MOST_LENGTH : Tok}
    {t_MOST_GROWTH : Tok}
    {t_MOST_BEGIN : Tok}
    {t_MOST_PORTS : Tok}
    {t_MOST_CHANNELS : Tok}
    {t_MOST_BREAKERS : Tok}
    {t_MOST_SHIPS : Tok}
    {t_LAST_HOUR : Tok}
    {t_LONGEST_NAME : Tok}
    {f0 : Addr} {oc0 kV0 dc0 pm0 cd0 ct0 : Value} {od0 an0 : Option Addr} {sl0 : Array (Option Value)}
    {f1 : Addr} {oc1 kV1 dc1 pm1 cd1 ct1 : Value} {od1 an1 : Option Addr} {sl1 : Array (Option Value)}
    {f2 : Addr} {oc2 kV2 dc2 pm2 cd2 ct2 : Value} {od2 an2 : Option Addr} {sl2 : Array (Option Value)}
    {f3 : Addr} {oc3 kV3 dc3 pm3 cd3 ct3 : Value} {od3 an3 : Option Addr} {sl3 : Array (Option Value)}
    {f4 : Addr} {oc4 kV4 dc4 pm4 cd4 ct4 : Value} {od4 an4 : Option Addr} {sl4 : Array (Option Value)}
    {f5 : Addr} {oc5 kV5 dc5 pm5 cd5 ct5 : Value} {od5 an5 : Option Addr} {sl5 : Array (Option Value)}
    {f6 : Addr} {oc6 kV6 dc6 pm6 cd6 ct6 : Value} {od6 an6 : Option Addr} {sl6 : Array (Option Value)}
    {f7 : Addr} {oc7 kV7 dc7 pm7 cd7 ct7 : Value} {od7 an7 : Option Addr} {sl7 : Array (Option Value)}
    {f8 : Addr} {oc8 kV8 dc8 pm8 cd8 ct8 : Value} {od8 an8 : Option Addr} {sl8 : Array (Option Value)}
    {f9 : Addr} {oc9 kV9 dc9 pm9 cd9 ct9 : Value} {od9 an9 : Option Addr} {sl9 : Array (Option Value)}
    {f10 : Addr} {oc10 kV10 dc10 pm10 cd10 ct10 : Value} {od10 an10 : Option Addr} {sl10 : Array (Option Value)}
    {f11 : Addr} {oc11 kV11 dc11 pm11 cd11 ct11 : Value} {od11 an11 : Option Addr} {sl11 : Array (Option Value)}
    {f12 : Addr} {oc12 kV12 dc12 pm12 cd12 ct12 : Value} {od12 an12 : Option Addr} {sl12 : Array (Option Value)}
    {f13 : Addr} {oc13 kV13 dc13 pm13 cd13 ct13 : Value} {od13 an13 : Option Addr} {sl13 : Array (Option Value)}
    {f14 : Addr} {oc14 kV14 dc14 pm14 cd14 ct14 : Value} {od14 an14 : Option Addr} {sl14 : Array (Option Value)}
    {f15 : Addr} {oc15 kV15 dc15 pm15 cd15 ct15 : Value} {od15 an15 : Option Addr} {sl15 : Array (Option Value)}
    {f16 : Addr} {oc16 kV16 dc16 pm16 cd16 ct16 : Value} {od16 an16 : Option Addr} {sl16 : Array (Option Value)}
    {f17 : Addr} {oc17 kV17 dc17 pm17 cd17 ct17 : Value} {od17 an17 : Option Addr} {sl17 : Array (Option Value)}
    {f18 : Addr} {oc18 kV18 dc18 pm18 cd18 ct18 : Value} {od18 an18 : Option Addr} {sl18 : Array (Option Value)}
    {f19 : Addr} {oc19 kV19 dc19 pm19 cd19 ct19 : Value} {od19 an19 : Option Addr} {sl19 : Array (Option Value)}
    {f20 : Addr} {oc20 kV20 dc20 pm20 cd20 ct20 : Value} {od20 an20 : Option Addr} {sl20 : Array (Option Value)}
    {f21 : Addr} {oc21 kV21 dc21 pm21 cd21 ct21 : Value} {od21 an21 : Option Addr} {sl21 : Array (Option Value)}
    {f22 : Addr} {oc22 kV22 dc22 pm22 cd22 ct22 : Value} {od22 an22 : Option Addr} {sl22 : Array (Option Value)}
    {f23 : Addr} {oc23 kV23 dc23 pm23 cd23 ct23 : Value} {od23 an23 : Option Addr} {sl23 : Array (Option Value)}
    {f24 : Addr} {oc24 kV24 dc24 pm24 cd24 ct24 : Value} {od24 an24 : Option Addr} {sl24 : Array (Option Value)}
    {f25 : Addr} {oc25 kV25 dc25 pm25 cd25 ct25 : Value} {od25 an25 : Option Addr} {sl25 : Array (Option Value)}
    {f26 : Addr} {oc26 kV26 dc26 pm26 cd26 ct26 : Value} {od26 an26 : Option Addr} {sl26 : Array (Option Value)}
    {f27 : Addr} {oc27 kV27 dc27 pm27 cd27 ct27 : Value} {od27 an27 : Option Addr} {sl27 : Array (Option Value)}
    {f28 : Addr} {oc28 kV28 dc28 pm28 cd28 ct28 : Value} {od28 an28 : Option Addr} {sl28 : Array (Option Value)}
    {f29 : Addr} {oc29 kV29 dc29 pm29 cd29 ct29 : Value} {od29 an29 : Option Addr} {sl29 : Array (Option Value)}
    {f30 : Addr} {oc30 kV30 dc30 pm30 cd30 ct30 : Value} {od30 an30 : Option Addr} {sl30 : Array (Option Value)}
    {f31 : Addr} {oc31 kV31 dc31 pm31 cd31 ct31 : Value} {od31 an31 : Option Addr} {sl31 : Array (Option Value)}
    {f32 : Addr} {oc32 kV32 dc32 pm32 cd32 ct32 : Value} {od32 an32 : Option Addr} {sl32 : Array (Option Value)}
    {f33 : Addr} {oc33 kV33 dc33 pm33 cd33 ct33 : Value} {od33 an33 : Option Addr} {sl33 : Array (Option Value)}
    {f34 : Addr} {oc34 kV34 dc34 pm34 cd34 ct34 : Value} {od34 an34 : Option Addr} {sl34 : Array (Option Value)}
    {f35 : Addr} {oc35 kV35 dc35 pm35 cd35 ct35 : Value} {od35 an35 : Option Addr} {sl35 : Array (Option Value)}
    {f36 : Addr} {oc36 kV36 dc36 pm36 cd36 ct36 : Value} {od36 an36 : Option Addr} {sl36 : Array (Option Value)}
    {f37 : Addr} {oc37 kV37 dc37 pm37 cd37 ct37 : Value} {od37 an37 : Option Addr} {sl37 : Array (Option Value)}
    {f38 : Addr} {oc38 kV38 dc38 pm38 cd38 ct38 : Value} {od38 an38 : Option Addr} {sl38 : Array (Option Value)}
    {f39 : Addr} {oc39 kV39 dc39 pm39 cd39 ct39 : Value} {od39 an39 : Option Addr} {sl39 : Array (Option Value)}
    {f40 : Addr} {oc40 kV40 dc40 pm40 cd40 ct40 : Value} {od40 an40 : Option Addr} {sl40 : Array (Option Value)}
    {f41 : Addr} {oc41 kV41 dc41 pm41 cd41 ct41 : Value} {od41 an41 : Option Addr} {sl41 : Array (Option Value)}
    {f42 : Addr} {oc42 kV42 dc42 pm42 cd42 ct42 : Value} {od42 an42 : Option Addr} {sl42 : Array (Option Value)}
    {f43 : Addr} {oc43 kV43 dc43 pm43 cd43 ct43 : Value} {od43 an43 : Option Addr} {sl43 : Array (Option Value)}
    {f44 : Addr} {oc44 kV44 dc44 pm44 cd44 ct44 : Value} {od44 an44 : Option Addr} {sl44 : Array (Option Value)}
    {f45 : Addr} {oc45 kV45 dc45 pm45 cd45 ct45 : Value} {od45 an45 : Option Addr} {sl45 : Array (Option Value)}
    {f46 : Addr} {oc46 kV46 dc46 pm46 cd46 ct46 : Value} {od46 an46 : Option Addr} {sl46 : Array (Option Value)}
    {f47 : Addr} {oc47 kV47 dc47 pm47 cd47 ct47 : Value} {od47 an47 : Option Addr} {sl47 : Array (Option Value)}
    {f48 : Addr} {oc48 kV48 dc48 pm48 cd48 ct48 : Value} {od48 an48 : Option Addr} {sl48 : Array (Option Value)}
    {f49 : Addr} {oc49 kV49 dc49 pm49 cd49 ct49 : Value} {od49 an49 : Option Addr} {sl49 : Array (Option Value)}
    {f50 : Addr} {oc50 kV50 dc50 pm50 cd50 ct50 : Value} {od50 an50 : Option Addr} {sl50 : Array (Option Value)}
    {f51 : Addr} {oc51 kV51 dc51 pm51 cd51 ct51 : Value} {od51 an51 : Option Addr} {sl51 : Array (Option Value)}
    (a0 : PySem.W.nsIn K mainGlobals "is_whole" = some (some (.ref f0)))
    (l0 : K.lookup f0 = some ⟨oc0, od0, .func (PySem.W.fnOf "is_whole" "is_whole" (defArgs s_is_whole) (defBody s_is_whole) (defScope s_is_whole) .none kV0 dc0 pm0 an0 cd0 ct0), sl0⟩)
    (c0 : PySem.W.codeIn K cd0 "is_whole" = true)
    (k0 : PySem.W.keepIn K (.ref f0) = true)
    (a1 : PySem.W.nsIn K mainGlobals "is_within" = some (some (.ref f1)))
    (l1 : K.lookup f1 = some ⟨oc1, od1, .func (PySem.W.fnOf "is_within" "is_within" (defArgs s_is_within) (defBody s_is_within) (defScope s_is_within) .none kV1 dc1 pm1 an1 cd1 ct1), sl1⟩)
    (c1 : PySem.W.codeIn K cd1 "is_within" = true)
    (k1 : PySem.W.keepIn K (.ref f1) = true)
    (a2 : PySem.W.nsIn K mainGlobals "is_name" = some (some (.ref f2)))
    (l2 : K.lookup f2 = some ⟨oc2, od2, .func (PySem.W.fnOf "is_name" "is_name" (defArgs s_is_name) (defBody s_is_name) (defScope s_is_name) .none kV2 dc2 pm2 an2 cd2 ct2), sl2⟩)
    (c2 : PySem.W.codeIn K cd2 "is_name" = true)
    (k2 : PySem.W.keepIn K (.ref f2) = true)
    (a3 : PySem.W.nsIn K mainGlobals "need_names" = some (some (.ref f3)))
    (l3 : K.lookup f3 = some ⟨oc3, od3, .func (PySem.W.fnOf "need_names" "need_names" (defArgs s_need_names) (defBody s_need_names) (defScope s_need_names) .none kV3 dc3 pm3 an3 cd3 ct3), sl3⟩)
    (c3 : PySem.W.codeIn K cd3 "need_names" = true)
    (k3 : PySem.W.keepIn K (.ref f3) = true)
    (a4 : PySem.W.nsIn K mainGlobals "need_numbers" = some (some (.ref f4)))
    (l4 : K.lookup f4 = some ⟨oc4, od4, .func (PySem.W.fnOf "need_numbers" "need_numbers" (defArgs s_need_numbers) (defBody s_need_numbers) (defScope s_need_numbers) .none kV4 dc4 pm4 an4 cd4 ct4), sl4⟩)
    (c4 : PySem.W.codeIn K cd4 "need_numbers" = true)
    (k4 : PySem.W.keepIn K (.ref f4) = true)
    (a5 : PySem.W.nsIn K mainGlobals "is_list" = some (some (.ref f5)))
    (l5 : K.lookup f5 = some ⟨oc5, od5, .func (PySem.W.fnOf "is_list" "is_list" (defArgs s_is_list) (defBody s_is_list) (defScope s_is_list) .none kV5 dc5 pm5 an5 cd5 ct5), sl5⟩)
    (c5 : PySem.W.codeIn K cd5 "is_list" = true)
    (k5 : PySem.W.keepIn K (.ref f5) = true)
    (a6 : PySem.W.nsIn K mainGlobals "need_kinds" = some (some (.ref f6)))
    (l6 : K.lookup f6 = some ⟨oc6, od6, .func (PySem.W.fnOf "need_kinds" "need_kinds" (defArgs s_need_kinds) (defBody s_need_kinds) (defScope s_need_kinds) .none kV6 dc6 pm6 an6 cd6 ct6), sl6⟩)
    (c6 : PySem.W.codeIn K cd6 "need_kinds" = true)
    (k6 : PySem.W.keepIn K (.ref f6) = true)
    (a7 : PySem.W.nsIn K mainGlobals "need_unlike" = some (some (.ref f7)))
    (l7 : K.lookup f7 = some ⟨oc7, od7, .func (PySem.W.fnOf "need_unlike" "need_unlike" (defArgs s_need_unlike) (defBody s_need_unlike) (defScope s_need_unlike) .none kV7 dc7 pm7 an7 cd7 ct7), sl7⟩)
    (c7 : PySem.W.codeIn K cd7 "need_unlike" = true)
    (k7 : PySem.W.keepIn K (.ref f7) = true)
    (a8 : PySem.W.nsIn K mainGlobals "need_ports" = some (some (.ref f8)))
    (l8 : K.lookup f8 = some ⟨oc8, od8, .func (PySem.W.fnOf "need_ports" "need_ports" (defArgs s_need_ports) (defBody s_need_ports) (defScope s_need_ports) .none kV8 dc8 pm8 an8 cd8 ct8), sl8⟩)
    (c8 : PySem.W.codeIn K cd8 "need_ports" = true)
    (k8 : PySem.W.keepIn K (.ref f8) = true)
    (a9 : PySem.W.nsIn K mainGlobals "is_entry" = some (some (.ref f9)))
    (l9 : K.lookup f9 = some ⟨oc9, od9, .func (PySem.W.fnOf "is_entry" "is_entry" (defArgs s_is_entry) (defBody s_is_entry) (defScope s_is_entry) .none kV9 dc9 pm9 an9 cd9 ct9), sl9⟩)
    (c9 : PySem.W.codeIn K cd9 "is_entry" = true)
    (k9 : PySem.W.keepIn K (.ref f9) = true)
    (a10 : PySem.W.nsIn K mainGlobals "are_entries" = some (some (.ref f10)))
    (l10 : K.lookup f10 = some ⟨oc10, od10, .func (PySem.W.fnOf "are_entries" "are_entries" (defArgs s_are_entries) (defBody s_are_entries) (defScope s_are_entries) .none kV10 dc10 pm10 an10 cd10 ct10), sl10⟩)
    (c10 : PySem.W.codeIn K cd10 "are_entries" = true)
    (k10 : PySem.W.keepIn K (.ref f10) = true)
    (a11 : PySem.W.nsIn K mainGlobals "is_table" = some (some (.ref f11)))
    (l11 : K.lookup f11 = some ⟨oc11, od11, .func (PySem.W.fnOf "is_table" "is_table" (defArgs s_is_table) (defBody s_is_table) (defScope s_is_table) .none kV11 dc11 pm11 an11 cd11 ct11), sl11⟩)
    (c11 : PySem.W.codeIn K cd11 "is_table" = true)
    (k11 : PySem.W.keepIn K (.ref f11) = true)
    (a12 : PySem.W.nsIn K mainGlobals "table_told" = some (some (.ref f12)))
    (l12 : K.lookup f12 = some ⟨oc12, od12, .func (PySem.W.fnOf "table_told" "table_told" (defArgs s_table_told) (defBody s_table_told) (defScope s_table_told) .none kV12 dc12 pm12 an12 cd12 ct12), sl12⟩)
    (c12 : PySem.W.codeIn K cd12 "table_told" = true)
    (k12 : PySem.W.keepIn K (.ref f12) = true)
    (a13 : PySem.W.nsIn K mainGlobals "channel_anew" = some (some (.ref f13)))
    (l13 : K.lookup f13 = some ⟨oc13, od13, .func (PySem.W.fnOf "channel_anew" "channel_anew" (defArgs s_channel_anew) (defBody s_channel_anew) (defScope s_channel_anew) .none kV13 dc13 pm13 an13 cd13 ct13), sl13⟩)
    (c13 : PySem.W.codeIn K cd13 "channel_anew" = true)
    (k13 : PySem.W.keepIn K (.ref f13) = true)
    (a14 : PySem.W.nsIn K mainGlobals "breaker_anew" = some (some (.ref f14)))
    (l14 : K.lookup f14 = some ⟨oc14, od14, .func (PySem.W.fnOf "breaker_anew" "breaker_anew" (defArgs s_breaker_anew) (defBody s_breaker_anew) (defScope s_breaker_anew) .none kV14 dc14 pm14 an14 cd14 ct14), sl14⟩)
    (c14 : PySem.W.codeIn K cd14 "breaker_anew" = true)
    (k14 : PySem.W.keepIn K (.ref f14) = true)
    (a15 : PySem.W.nsIn K mainGlobals "ship_anew" = some (some (.ref f15)))
    (l15 : K.lookup f15 = some ⟨oc15, od15, .func (PySem.W.fnOf "ship_anew" "ship_anew" (defArgs s_ship_anew) (defBody s_ship_anew) (defScope s_ship_anew) .none kV15 dc15 pm15 an15 cd15 ct15), sl15⟩)
    (c15 : PySem.W.codeIn K cd15 "ship_anew" = true)
    (k15 : PySem.W.keepIn K (.ref f15) = true)
    (a16 : PySem.W.nsIn K mainGlobals "world_anew" = some (some (.ref f16)))
    (l16 : K.lookup f16 = some ⟨oc16, od16, .func (PySem.W.fnOf "world_anew" "world_anew" (defArgs s_world_anew) (defBody s_world_anew) (defScope s_world_anew) .none kV16 dc16 pm16 an16 cd16 ct16), sl16⟩)
    (c16 : PySem.W.codeIn K cd16 "world_anew" = true)
    (k16 : PySem.W.keepIn K (.ref f16) = true)
    (a17 : PySem.W.nsIn K mainGlobals "later_world" = some (some (.ref f17)))
    (l17 : K.lookup f17 = some ⟨oc17, od17, .func (PySem.W.fnOf "later_world" "later_world" (defArgs s_later_world) (defBody s_later_world) (defScope s_later_world) .none kV17 dc17 pm17 an17 cd17 ct17), sl17⟩)
    (c17 : PySem.W.codeIn K cd17 "later_world" = true)
    (k17 : PySem.W.keepIn K (.ref f17) = true)
    (a18 : PySem.W.nsIn K mainGlobals "later_table" = some (some (.ref f18)))
    (l18 : K.lookup f18 = some ⟨oc18, od18, .func (PySem.W.fnOf "later_table" "later_table" (defArgs s_later_table) (defBody s_later_table) (defScope s_later_table) .none kV18 dc18 pm18 an18 cd18 ct18), sl18⟩)
    (c18 : PySem.W.codeIn K cd18 "later_table" = true)
    (k18 : PySem.W.keepIn K (.ref f18) = true)
    (a19 : PySem.W.nsIn K mainGlobals "_law_cell" = some (some (.ref f19)))
    (l19 : K.lookup f19 = some ⟨oc19, od19, .func (PySem.W.fnOf "_law_cell" "_law_cell" (defArgs s__law_cell) (defBody s__law_cell) (defScope s__law_cell) .none kV19 dc19 pm19 an19 cd19 ct19), sl19⟩)
    (c19 : PySem.W.codeIn K cd19 "_law_cell" = true)
    (k19 : PySem.W.keepIn K (.ref f19) = true)
    (a20 : PySem.W.nsIn K mainGlobals "_law_box" = some (some (.ref f20)))
    (l20 : K.lookup f20 = some ⟨oc20, od20, .func (PySem.W.fnOf "_law_box" "_law_box" (defArgs s__law_box) (defBody s__law_box) (defScope s__law_box) .none kV20 dc20 pm20 an20 cd20 ct20), sl20⟩)
    (c20 : PySem.W.codeIn K cd20 "_law_box" = true)
    (k20 : PySem.W.keepIn K (.ref f20) = true)
    (a21 : PySem.W.nsIn K mainGlobals "_law_take" = some (some (.ref f21)))
    (l21 : K.lookup f21 = some ⟨oc21, od21, .func (PySem.W.fnOf "_law_take" "_law_take" (defArgs s__law_take) (defBody s__law_take) (defScope s__law_take) .none kV21 dc21 pm21 an21 cd21 ct21), sl21⟩)
    (c21 : PySem.W.codeIn K cd21 "_law_take" = true)
    (k21 : PySem.W.keepIn K (.ref f21) = true)
    (a22 : PySem.W.nsIn K mainGlobals "_law_names" = some (some (.ref f22)))
    (l22 : K.lookup f22 = some ⟨oc22, od22, .func (PySem.W.fnOf "_law_names" "_law_names" (defArgs s__law_names) (defBody s__law_names) (defScope s__law_names) .none kV22 dc22 pm22 an22 cd22 ct22), sl22⟩)
    (c22 : PySem.W.codeIn K cd22 "_law_names" = true)
    (k22 : PySem.W.keepIn K (.ref f22) = true)
    (a23 : PySem.W.nsIn K mainGlobals "_law_number" = some (some (.ref f23)))
    (l23 : K.lookup f23 = some ⟨oc23, od23, .func (PySem.W.fnOf "_law_number" "_law_number" (defArgs s__law_number) (defBody s__law_number) (defScope s__law_number) .none kV23 dc23 pm23 an23 cd23 ct23), sl23⟩)
    (c23 : PySem.W.codeIn K cd23 "_law_number" = true)
    (k23 : PySem.W.keepIn K (.ref f23) = true)
    (a24 : PySem.W.nsIn K mainGlobals "_law_channel" = some (some (.ref f24)))
    (l24 : K.lookup f24 = some ⟨oc24, od24, .func (PySem.W.fnOf "_law_channel" "_law_channel" (defArgs s__law_channel) (defBody s__law_channel) (defScope s__law_channel) .none kV24 dc24 pm24 an24 cd24 ct24), sl24⟩)
    (c24 : PySem.W.codeIn K cd24 "_law_channel" = true)
    (k24 : PySem.W.keepIn K (.ref f24) = true)
    (a25 : PySem.W.nsIn K mainGlobals "_law_breaker" = some (some (.ref f25)))
    (l25 : K.lookup f25 = some ⟨oc25, od25, .func (PySem.W.fnOf "_law_breaker" "_law_breaker" (defArgs s__law_breaker) (defBody s__law_breaker) (defScope s__law_breaker) .none kV25 dc25 pm25 an25 cd25 ct25), sl25⟩)
    (c25 : PySem.W.codeIn K cd25 "_law_breaker" = true)
    (k25 : PySem.W.keepIn K (.ref f25) = true)
    (a26 : PySem.W.nsIn K mainGlobals "_law_ship" = some (some (.ref f26)))
    (l26 : K.lookup f26 = some ⟨oc26, od26, .func (PySem.W.fnOf "_law_ship" "_law_ship" (defArgs s__law_ship) (defBody s__law_ship) (defScope s__law_ship) .none kV26 dc26 pm26 an26 cd26 ct26), sl26⟩)
    (c26 : PySem.W.codeIn K cd26 "_law_ship" = true)
    (k26 : PySem.W.keepIn K (.ref f26) = true)
    (a27 : PySem.W.nsIn K mainGlobals "_law_world" = some (some (.ref f27)))
    (l27 : K.lookup f27 = some ⟨oc27, od27, .func (PySem.W.fnOf "_law_world" "_law_world" (defArgs s__law_world) (defBody s__law_world) (defScope s__law_world) .none kV27 dc27 pm27 an27 cd27 ct27), sl27⟩)
    (c27 : PySem.W.codeIn K cd27 "_law_world" = true)
    (k27 : PySem.W.keepIn K (.ref f27) = true)
    (a28 : PySem.W.nsIn K mainGlobals "_law_few" = some (some (.ref f28)))
    (l28 : K.lookup f28 = some ⟨oc28, od28, .func (PySem.W.fnOf "_law_few" "_law_few" (defArgs s__law_few) (defBody s__law_few) (defScope s__law_few) .none kV28 dc28 pm28 an28 cd28 ct28), sl28⟩)
    (c28 : PySem.W.codeIn K cd28 "_law_few" = true)
    (k28 : PySem.W.keepIn K (.ref f28) = true)
    (a29 : PySem.W.nsIn K mainGlobals "_law_made" = some (some (.ref f29)))
    (l29 : K.lookup f29 = some ⟨oc29, od29, .func (PySem.W.fnOf "_law_made" "_law_made" (defArgs s__law_made) (defBody s__law_made) (defScope s__law_made) .none kV29 dc29 pm29 an29 cd29 ct29), sl29⟩)
    (c29 : PySem.W.codeIn K cd29 "_law_made" = true)
    (k29 : PySem.W.keepIn K (.ref f29) = true)
    (a30 : PySem.W.nsIn K mainGlobals "_law_table" = some (some (.ref f30)))
    (l30 : K.lookup f30 = some ⟨oc30, od30, .func (PySem.W.fnOf "_law_table" "_law_table" (defArgs s__law_table) (defBody s__law_table) (defScope s__law_table) .none kV30 dc30 pm30 an30 cd30 ct30), sl30⟩)
    (c30 : PySem.W.codeIn K cd30 "_law_table" = true)
    (k30 : PySem.W.keepIn K (.ref f30) = true)
    (a31 : PySem.W.nsIn K mainGlobals "_law_anew" = some (some (.ref f31)))
    (l31 : K.lookup f31 = some ⟨oc31, od31, .func (PySem.W.fnOf "_law_anew" "_law_anew" (defArgs s__law_anew) (defBody s__law_anew) (defScope s__law_anew) .none kV31 dc31 pm31 an31 cd31 ct31), sl31⟩)
    (c31 : PySem.W.codeIn K cd31 "_law_anew" = true)
    (k31 : PySem.W.keepIn K (.ref f31) = true)
    (a32 : PySem.W.nsIn K mainGlobals "_law_due" = some (some (.ref f32)))
    (l32 : K.lookup f32 = some ⟨oc32, od32, .func (PySem.W.fnOf "_law_due" "_law_due" (defArgs s__law_due) (defBody s__law_due) (defScope s__law_due) .none kV32 dc32 pm32 an32 cd32 ct32), sl32⟩)
    (c32 : PySem.W.codeIn K cd32 "_law_due" = true)
    (k32 : PySem.W.keepIn K (.ref f32) = true)
    (a33 : PySem.W.nsIn K mainGlobals "_law_due_table" = some (some (.ref f33)))
    (l33 : K.lookup f33 = some ⟨oc33, od33, .func (PySem.W.fnOf "_law_due_table" "_law_due_table" (defArgs s__law_due_table) (defBody s__law_due_table) (defScope s__law_due_table) .none kV33 dc33 pm33 an33 cd33 ct33), sl33⟩)
    (c33 : PySem.W.codeIn K cd33 "_law_due_table" = true)
    (k33 : PySem.W.keepIn K (.ref f33) = true)
    (a34 : PySem.W.nsIn K mainGlobals "_law_refused" = some (some (.ref f34)))
    (l34 : K.lookup f34 = some ⟨oc34, od34, .func (PySem.W.fnOf "_law_refused" "_law_refused" (defArgs s__law_refused) (defBody s__law_refused) (defScope s__law_refused) .none kV34 dc34 pm34 an34 cd34 ct34), sl34⟩)
    (c34 : PySem.W.codeIn K cd34 "_law_refused" = true)
    (k34 : PySem.W.keepIn K (.ref f34) = true)
    (a35 : PySem.W.nsIn K mainGlobals "_law_right" = some (some (.ref f35)))
    (l35 : K.lookup f35 = some ⟨oc35, od35, .func (PySem.W.fnOf "_law_right" "_law_right" (defArgs s__law_right) (defBody s__law_right) (defScope s__law_right) .none kV35 dc35 pm35 an35 cd35 ct35), sl35⟩)
    (c35 : PySem.W.codeIn K cd35 "_law_right" = true)
    (k35 : PySem.W.keepIn K (.ref f35) = true)
    (a36 : PySem.W.nsIn K mainGlobals "law" = some (some (.ref f36)))
    (l36 : K.lookup f36 = some ⟨oc36, od36, .func (PySem.W.fnOf "law" "law" (defArgs s_law) (defBody s_law) (defScope s_law) .none kV36 dc36 pm36 an36 cd36 ct36), sl36⟩)
    (c36 : PySem.W.codeIn K cd36 "law" = true)
    (k36 : PySem.W.keepIn K (.ref f36) = true)
    (nCC : PySem.W.nsIn K mainGlobals "Channel" = some (some (.ref CC)))
    (nCV : PySem.W.nsIn K mainGlobals "Vessel" = some (some (.ref CV)))
    (nCB : PySem.W.nsIn K mainGlobals "Breaker" = some (some (.ref CB)))
    (nCS : PySem.W.nsIn K mainGlobals "Ship" = some (some (.ref CS)))
    (nCW : PySem.W.nsIn K mainGlobals "World" = some (some (.ref CW)))
    (nCI : PySem.W.nsIn K mainGlobals "IceError" = some (some (.ref CI)))
    (nCN : PySem.W.nsIn K mainGlobals "NoNumber" = some (some (.ref CN)))
    (a37 : PySem.W.findIn K (.ref CC) "__init__" = some (some (.ref f37)))
    (i37 : PySem.W.isFn K (.ref f37) = true)
    (l37 : K.lookup f37 = some ⟨oc37, od37, .func (PySem.W.fnOf "__init__" "Channel.__init__" (defArgs s_Channel___init__) (defBody s_Channel___init__) (defScope s_Channel___init__) .none kV37 dc37 pm37 an37 cd37 ct37), sl37⟩)
    (c37 : PySem.W.codeIn K cd37 "Channel.__init__" = true)
    (k37 : PySem.W.keepIn K (.ref f37) = true)
    (a38 : PySem.W.findIn K (.ref CC) "row" = some (some (.ref f38)))
    (i38 : PySem.W.isFn K (.ref f38) = true)
    (l38 : K.lookup f38 = some ⟨oc38, od38, .func (PySem.W.fnOf "row" "Channel.row" (defArgs s_Channel_row) (defBody s_Channel_row) (defScope s_Channel_row) .none kV38 dc38 pm38 an38 cd38 ct38), sl38⟩)
    (c38 : PySem.W.codeIn K cd38 "Channel.row" = true)
    (k38 : PySem.W.keepIn K (.ref f38) = true)
    (a39 : PySem.W.findIn K (.ref CV) "__init__" = some (some (.ref f39)))
    (i39 : PySem.W.isFn K (.ref f39) = true)
    (l39 : K.lookup f39 = some ⟨oc39, od39, .func (PySem.W.fnOf "__init__" "Vessel.__init__" (defArgs s_Vessel___init__) (defBody s_Vessel___init__) (defScope s_Vessel___init__) .none kV39 dc39 pm39 an39 cd39 ct39), sl39⟩)
    (c39 : PySem.W.codeIn K cd39 "Vessel.__init__" = true)
    (k39 : PySem.W.keepIn K (.ref f39) = true)
    (a40 : PySem.W.findIn K (.ref CV) "settle" = some (some (.ref f40)))
    (i40 : PySem.W.isFn K (.ref f40) = true)
    (l40 : K.lookup f40 = some ⟨oc40, od40, .func (PySem.W.fnOf "settle" "Vessel.settle" (defArgs s_Vessel_settle) (defBody s_Vessel_settle) (defScope s_Vessel_settle) .none kV40 dc40 pm40 an40 cd40 ct40), sl40⟩)
    (c40 : PySem.W.codeIn K cd40 "Vessel.settle" = true)
    (k40 : PySem.W.keepIn K (.ref f40) = true)
    (a41 : PySem.W.findIn K (.ref CV) "row" = some (some (.ref f41)))
    (i41 : PySem.W.isFn K (.ref f41) = true)
    (l41 : K.lookup f41 = some ⟨oc41, od41, .func (PySem.W.fnOf "row" "Vessel.row" (defArgs s_Vessel_row) (defBody s_Vessel_row) (defScope s_Vessel_row) .none kV41 dc41 pm41 an41 cd41 ct41), sl41⟩)
    (c41 : PySem.W.codeIn K cd41 "Vessel.row" = true)
    (k41 : PySem.W.keepIn K (.ref f41) = true)
    (a42 : PySem.W.findIn K (.ref CB) "__init__" = some (some (.ref f42)))
    (i42 : PySem.W.isFn K (.ref f42) = true)
    (l42 : K.lookup f42 = some ⟨oc42, od42, .func (PySem.W.fnOf "__init__" "Breaker.__init__" (defArgs s_Breaker___init__) (defBody s_Breaker___init__) (defScope s_Breaker___init__) .none kV42 dc42 pm42 an42 cd42 ct42), sl42⟩)
    (c42 : PySem.W.codeIn K cd42 "Breaker.__init__" = true)
    (k42 : PySem.W.keepIn K (.ref f42) = true)
    (a43 : PySem.W.findIn K (.ref CB) "row" = some (some (.ref f43)))
    (i43 : PySem.W.isFn K (.ref f43) = true)
    (l43 : K.lookup f43 = some ⟨oc43, od43, .func (PySem.W.fnOf "row" "Breaker.row" (defArgs s_Breaker_row) (defBody s_Breaker_row) (defScope s_Breaker_row) .none kV43 dc43 pm43 an43 cd43 ct43), sl43⟩)
    (c43 : PySem.W.codeIn K cd43 "Breaker.row" = true)
    (k43 : PySem.W.keepIn K (.ref f43) = true)
    (a44 : PySem.W.findIn K (.ref CS) "__init__" = some (some (.ref f44)))
    (i44 : PySem.W.isFn K (.ref f44) = true)
    (l44 : K.lookup f44 = some ⟨oc44, od44, .func (PySem.W.fnOf "__init__" "Ship.__init__" (defArgs s_Ship___init__) (defBody s_Ship___init__) (defScope s_Ship___init__) .none kV44 dc44 pm44 an44 cd44 ct44), sl44⟩)
    (c44 : PySem.W.codeIn K cd44 "Ship.__init__" = true)
    (k44 : PySem.W.keepIn K (.ref f44) = true)
    (a45 : PySem.W.findIn K (.ref CS) "row" = some (some (.ref f45)))
    (i45 : PySem.W.isFn K (.ref f45) = true)
    (l45 : K.lookup f45 = some ⟨oc45, od45, .func (PySem.W.fnOf "row" "Ship.row" (defArgs s_Ship_row) (defBody s_Ship_row) (defScope s_Ship_row) .none kV45 dc45 pm45 an45 cd45 ct45), sl45⟩)
    (c45 : PySem.W.codeIn K cd45 "Ship.row" = true)
    (k45 : PySem.W.keepIn K (.ref f45) = true)
    (a46 : PySem.W.findIn K (.ref CW) "__init__" = some (some (.ref f46)))
    (i46 : PySem.W.isFn K (.ref f46) = true)
    (l46 : K.lookup f46 = some ⟨oc46, od46, .func (PySem.W.fnOf "__init__" "World.__init__" (defArgs s_World___init__) (defBody s_World___init__) (defScope s_World___init__) .none kV46 dc46 pm46 an46 cd46 ct46), sl46⟩)
    (c46 : PySem.W.codeIn K cd46 "World.__init__" = true)
    (k46 : PySem.W.keepIn K (.ref f46) = true)
    (a47 : PySem.W.findIn K (.ref CW) "begin_hour" = some (some (.ref f47)))
    (i47 : PySem.W.isFn K (.ref f47) = true)
    (l47 : K.lookup f47 = some ⟨oc47, od47, .func (PySem.W.fnOf "begin_hour" "World.begin_hour" (defArgs s_World_begin_hour) (defBody s_World_begin_hour) (defScope s_World_begin_hour) .none kV47 dc47 pm47 an47 cd47 ct47), sl47⟩)
    (c47 : PySem.W.codeIn K cd47 "World.begin_hour" = true)
    (k47 : PySem.W.keepIn K (.ref f47) = true)
    (a48 : PySem.W.findIn K (.ref CW) "vessels" = some (some (.ref f48)))
    (i48 : PySem.W.isFn K (.ref f48) = true)
    (l48 : K.lookup f48 = some ⟨oc48, od48, .func (PySem.W.fnOf "vessels" "World.vessels" (defArgs s_World_vessels) (defBody s_World_vessels) (defScope s_World_vessels) .none kV48 dc48 pm48 an48 cd48 ct48), sl48⟩)
    (c48 : PySem.W.codeIn K cd48 "World.vessels" = true)
    (k48 : PySem.W.keepIn K (.ref f48) = true)
    (a49 : PySem.W.findIn K (.ref CW) "channels" = some (some (.ref f49)))
    (i49 : PySem.W.isFn K (.ref f49) = true)
    (l49 : K.lookup f49 = some ⟨oc49, od49, .func (PySem.W.fnOf "channels" "World.channels" (defArgs s_World_channels) (defBody s_World_channels) (defScope s_World_channels) .none kV49 dc49 pm49 an49 cd49 ct49), sl49⟩)
    (c49 : PySem.W.codeIn K cd49 "World.channels" = true)
    (k49 : PySem.W.keepIn K (.ref f49) = true)
    (a50 : PySem.W.findIn K (.ref CW) "told" = some (some (.ref f50)))
    (i50 : PySem.W.isFn K (.ref f50) = true)
    (l50 : K.lookup f50 = some ⟨oc50, od50, .func (PySem.W.fnOf "told" "World.told" (defArgs s_World_told) (defBody s_World_told) (defScope s_World_told) .none kV50 dc50 pm50 an50 cd50 ct50), sl50⟩)
    (c50 : PySem.W.codeIn K cd50 "World.told" = true)
    (k50 : PySem.W.keepIn K (.ref f50) = true)
    (a51 : PySem.W.findIn K (.ref CN) "__init__" = some (some (.ref f51)))
    (i51 : PySem.W.isFn K (.ref f51) = true)
    (l51 : K.lookup f51 = some ⟨oc51, od51, .func (PySem.W.fnOf "__init__" "NoNumber.__init__" (defArgs s_NoNumber___init__) (defBody s_NoNumber___init__) (defScope s_NoNumber___init__) .none kV51 dc51 pm51 an51 cd51 ct51), sl51⟩)
    (c51 : PySem.W.codeIn K cd51 "NoNumber.__init__" = true)
    (k51 : PySem.W.keepIn K (.ref f51) = true)
    (asB : PySem.W.findIn K (.ref CB) "settle" = some (some (.ref f40)))
    (asS : PySem.W.findIn K (.ref CS) "settle" = some (some (.ref f40)))
    (spV : PySem.W.specialIn K (.ref CV) "__getattribute__" = some (some (.builtin "type.__getattribute__")))
    (rdV : PySem.W.readsIn K CV (.type "type") = true)
    (fiV : PySem.W.findCls K (.ref CV) (.type "type") "__init__" = some (.val (.ref f39)))
    (frV : PySem.W.findCls K (.ref CV) (.type "type") "row" = some (.val (.ref f41)))
    (pgCC : PySem.W.plainGet K CC Str.empty = true)
    (hdCC : PySem.W.hasDictIn K CC = true)
    (poCC : PySem.W.plainOver K CC = true)
    (saCC : PySem.W.findIn K (.ref CC) "__setattr__" = some (some (.builtin "object.__setattr__")))
    (mkCC : PySem.W.makesIn K CC = true)
    (kcCC : PySem.W.keepIn K (.ref CC) = true)
    (noCC_name : PySem.W.findIn K (.ref CC) "name" = some none)
    (noCC_one : PySem.W.findIn K (.ref CC) "one" = some none)
    (noCC_other : PySem.W.findIn K (.ref CC) "other" = some none)
    (noCC_hours : PySem.W.findIn K (.ref CC) "hours" = some none)
    (noCC_depth : PySem.W.findIn K (.ref CC) "depth" = some none)
    (noCC_first : PySem.W.findIn K (.ref CC) "first" = some none)
    (noCC_growth : PySem.W.findIn K (.ref CC) "growth" = some none)
    (noCC_most : PySem.W.findIn K (.ref CC) "most" = some none)
    (pgCB : PySem.W.plainGet K CB Str.empty = true)
    (hdCB : PySem.W.hasDictIn K CB = true)
    (poCB : PySem.W.plainOver K CB = true)
    (saCB : PySem.W.findIn K (.ref CB) "__setattr__" = some (some (.builtin "object.__setattr__")))
    (mkCB : PySem.W.makesIn K CB = true)
    (kcCB : PySem.W.keepIn K (.ref CB) = true)
    (noCB_name : PySem.W.findIn K (.ref CB) "name" = some none)
    (noCB_port : PySem.W.findIn K (.ref CB) "port" = some none)
    (noCB_hour : PySem.W.findIn K (.ref CB) "hour" = some none)
    (noCB_strength : PySem.W.findIn K (.ref CB) "strength" = some none)
    (noCB_draught : PySem.W.findIn K (.ref CB) "draught" = some none)
    (noCB_cut : PySem.W.findIn K (.ref CB) "cut" = some none)
    (pgCS : PySem.W.plainGet K CS Str.empty = true)
    (hdCS : PySem.W.hasDictIn K CS = true)
    (poCS : PySem.W.plainOver K CS = true)
    (saCS : PySem.W.findIn K (.ref CS) "__setattr__" = some (some (.builtin "object.__setattr__")))
    (mkCS : PySem.W.makesIn K CS = true)
    (kcCS : PySem.W.keepIn K (.ref CS) = true)
    (noCS_name : PySem.W.findIn K (.ref CS) "name" = some none)
    (noCS_port : PySem.W.findIn K (.ref CS) "port" = some none)
    (noCS_hour : PySem.W.findIn K (.ref CS) "hour" = some none)
    (noCS_strength : PySem.W.findIn K (.ref CS) "strength" = some none)
    (noCS_draught : PySem.W.findIn K (.ref CS) "draught" = some none)
    (noCS_goal : PySem.W.findIn K (.ref CS) "goal" = some none)
    (pgCW : PySem.W.plainGet K CW Str.empty = true)
    (hdCW : PySem.W.hasDictIn K CW = true)
    (poCW : PySem.W.plainOver K CW = true)
    (saCW : PySem.W.findIn K (.ref CW) "__setattr__" = some (some (.builtin "object.__setattr__")))
    (mkCW : PySem.W.makesIn K CW = true)
    (kcCW : PySem.W.keepIn K (.ref CW) = true)
    (noCW_beginning : PySem.W.findIn K (.ref CW) "beginning" = some none)
    (noCW_all_ports : PySem.W.findIn K (.ref CW) "all_ports" = some none)
    (noCW_all_channels : PySem.W.findIn K (.ref CW) "all_channels" = some none)
    (noCW_all_breakers : PySem.W.findIn K (.ref CW) "all_breakers" = some none)
    (noCW_all_ships : PySem.W.findIn K (.ref CW) "all_ships" = some none)
    (clCC : PySem.W.findIn K (.ref CC) "__class__" = some (some (.builtin "object.__class__")))
    (moCC : PySem.W.mroIn K CC (.type "object") = some true)
    (clCB : PySem.W.findIn K (.ref CB) "__class__" = some (some (.builtin "object.__class__")))
    (moCB : PySem.W.mroIn K CB (.type "object") = some true)
    (clCS : PySem.W.findIn K (.ref CS) "__class__" = some (some (.builtin "object.__class__")))
    (moCS : PySem.W.mroIn K CS (.type "object") = some true)
    (xN : K.lookup CN = some (excClassObj nm q CN N bs [.ref CI, .type "ValueError", .type "Exception", .type "BaseException", .type "object"] true sn sub ab col dd m0 m1 m2 m3 m5 "ValueError.__new__"))
    (sa : PySem.W.findIn K (.ref CN) "__setattr__" = some (some (.builtin "object.__setattr__")))
    (exC : PySem.W.subIn K (.ref CN) (.type "BaseException") = some true)
    (tyC : PySem.W.typeIn K (.ref CN) = some (.type "type"))
    (kC : PySem.W.keepIn K (.ref CN) = true)
    (iC : PySem.W.isClsIn K CN = true)
    (sC : PySem.W.subIn K (.ref CN) (.ref CN) = some true)
    (ga : PySem.W.findIn K (.ref CN) "__getattribute__" = some (some (.builtin "BaseException.__getattribute__")))
    (gg : PySem.W.findIn K (.ref CN) "__getattr__" = some none)
    (ca : PySem.W.findIn K (.ref CN) "__class__" = some (some (.builtin "object.__class__")))
    (cg : PySem.W.specialIn K (.builtin "object.__class__") "__get__" = some (some (.builtin "getset_descriptor.__get__")))
    (ct : PySem.W.takesIn K (.builtin "object.__class__") = some true)
    (mo : PySem.W.mroIn K CN (.type "object") = some true)
    (eqC : PySem.W.findIn K (.ref CN) "__eq__" = some (some (.builtin "object.__eq__")))
    (nf : PySem.W.findIn K (.ref CN) "found" = some none)
    (hdC : PySem.W.hasDictIn K CN = true)
    (tI : PySem.W.typeIn K (.ref f51) = some (.type "function"))
    (spI : PySem.W.specialIn K (.ref CI) "__getattribute__" = some (some (.builtin "type.__getattribute__")))
    (rdI : PySem.W.readsIn K CI (.type "type") = true)
    (tyI : PySem.W.typeIn K (.ref CI) = some (.type "type"))
    (fiI : PySem.W.findCls K (.ref CI) (.type "type") "__init__" = some (.val (.builtin "ValueError.__init__")))
    (gL : PySem.W.nsIn K mainGlobals "LETTERS" = some (some (.str "abcdefghijklmnopqrstuvwxyz" tL)))
    (g_MOST_HOUR : PySem.W.nsIn K mainGlobals "MOST_HOUR" = some (some (.int 1000000 t_MOST_HOUR)))
    (g_MOST_ICE : PySem.W.nsIn K mainGlobals "MOST_ICE" = some (some (.int 1000000 t_MOST_ICE)))
    (g_MOST_DEPTH : PySem.W.nsIn K mainGlobals "MOST_DEPTH" = some (some (.int 1000 t_MOST_DEPTH)))
    (g_MOST_LENGTH : PySem.W.nsIn K mainGlobals "MOST_LENGTH" = some (some (.int 1000 t_MOST_LENGTH)))
    (g_MOST_GROWTH : PySem.W.nsIn K mainGlobals "MOST_GROWTH" = some (some (.int 1000 t_MOST_GROWTH)))
    (g_MOST_BEGIN : PySem.W.nsIn K mainGlobals "MOST_BEGIN" = some (some (.int 1000000 t_MOST_BEGIN)))
    (g_MOST_PORTS : PySem.W.nsIn K mainGlobals "MOST_PORTS" = some (some (.int 8 t_MOST_PORTS)))
    (g_MOST_CHANNELS : PySem.W.nsIn K mainGlobals "MOST_CHANNELS" = some (some (.int 12 t_MOST_CHANNELS)))
    (g_MOST_BREAKERS : PySem.W.nsIn K mainGlobals "MOST_BREAKERS" = some (some (.int 4 t_MOST_BREAKERS)))
    (g_MOST_SHIPS : PySem.W.nsIn K mainGlobals "MOST_SHIPS" = some (some (.int 6 t_MOST_SHIPS)))
    (g_LAST_HOUR : PySem.W.nsIn K mainGlobals "LAST_HOUR" = some (some (.int 100000000 t_LAST_HOUR)))
    (g_LONGEST_NAME : PySem.W.nsIn K mainGlobals "LONGEST_NAME" = some (some (.int 8 t_LONGEST_NAME)))
    (b_isinstance : PySem.W.nsIn K mainGlobals "isinstance" = some none)
    (b_int : PySem.W.nsIn K mainGlobals "int" = some none)
    (b_bool : PySem.W.nsIn K mainGlobals "bool" = some none)
    (b_str : PySem.W.nsIn K mainGlobals "str" = some none)
    (b_list : PySem.W.nsIn K mainGlobals "list" = some none)
    (b_tuple : PySem.W.nsIn K mainGlobals "tuple" = some none)
    (b_dict : PySem.W.nsIn K mainGlobals "dict" = some none)
    (b_len : PySem.W.nsIn K mainGlobals "len" = some none)
    (b_all : PySem.W.nsIn K mainGlobals "all" = some none)
    (b_max : PySem.W.nsIn K mainGlobals "max" = some none)
    (b_min : PySem.W.nsIn K mainGlobals "min" = some none)
    (b_range : PySem.W.nsIn K mainGlobals "range" = some none)
    (b_repr : PySem.W.nsIn K mainGlobals "repr" = some none)
    : ∃ fd : FuncData, (∀ (s : Shared) (u : Value), BindsTo s fd ⟨[u], []⟩ [("_law_script", u)]) ∧ ∀ base : Heap, K.In base → base.Ns mainGlobals mg → FnG P w K mg base CX0 12 fa fd ["_law_script"] (spLaw K) := by
  have e := hfa.symm.trans (PySem.W.mg_of X G a36)
  cases e
  have B : Blt mg := ⟨PySem.W.mg_none_of X G b_isinstance, PySem.W.mg_none_of X G b_int, PySem.W.mg_none_of X G b_bool, PySem.W.mg_none_of X G b_str, PySem.W.mg_none_of X G b_list, PySem.W.mg_none_of X G b_tuple, PySem.W.mg_none_of X G b_dict, PySem.W.mg_none_of X G b_len, PySem.W.mg_none_of X G b_all, PySem.W.mg_none_of X G b_max, PySem.W.mg_none_of X G b_min, PySem.W.mg_none_of X G b_range, PySem.W.mg_none_of X G b_repr⟩
  have NB : Bnd mg := ⟨⟨_, PySem.W.mg_of X G g_MOST_HOUR, ⟨_, rfl⟩⟩, ⟨_, PySem.W.mg_of X G g_MOST_ICE, ⟨_, rfl⟩⟩, ⟨_, PySem.W.mg_of X G g_MOST_DEPTH, ⟨_, rfl⟩⟩, ⟨_, PySem.W.mg_of X G g_MOST_LENGTH, ⟨_, rfl⟩⟩, ⟨_, PySem.W.mg_of X G g_MOST_GROWTH, ⟨_, rfl⟩⟩⟩
  have MB : WBnd mg := ⟨⟨_, PySem.W.mg_of X G g_MOST_BEGIN, ⟨_, rfl⟩⟩, ⟨_, PySem.W.mg_of X G g_MOST_PORTS, ⟨_, rfl⟩⟩, ⟨_, PySem.W.mg_of X G g_MOST_CHANNELS, ⟨_, rfl⟩⟩, ⟨_, PySem.W.mg_of X G g_MOST_BREAKERS, ⟨_, rfl⟩⟩, ⟨_, PySem.W.mg_of X G g_MOST_SHIPS, ⟨_, rfl⟩⟩⟩
  have TC : Cl K CC chanK := ⟨⟨pgCC, hdCC, poCC, saCC⟩, fun x hx => by
    simp only [List.mem_cons, List.not_mem_nil, or_false] at hx
    rcases hx with rfl | rfl | rfl | rfl | rfl | rfl | rfl | rfl
    · exact noCC_name
    · exact noCC_one
    · exact noCC_other
    · exact noCC_hours
    · exact noCC_depth
    · exact noCC_first
    · exact noCC_growth
    · exact noCC_most⟩
  have TB : Cl K CB brkK := ⟨⟨pgCB, hdCB, poCB, saCB⟩, fun x hx => by
    simp only [List.mem_cons, List.not_mem_nil, or_false] at hx
    rcases hx with rfl | rfl | rfl | rfl | rfl | rfl
    · exact noCB_name
    · exact noCB_port
    · exact noCB_hour
    · exact noCB_strength
    · exact noCB_draught
    · exact noCB_cut⟩
  have TS : Cl K CS shpK := ⟨⟨pgCS, hdCS, poCS, saCS⟩, fun x hx => by
    simp only [List.mem_cons, List.not_mem_nil, or_false] at hx
    rcases hx with rfl | rfl | rfl | rfl | rfl | rfl
    · exact noCS_name
    · exact noCS_port
    · exact noCS_hour
    · exact noCS_strength
    · exact noCS_draught
    · exact noCS_goal⟩
  have TW : Cl K CW wldK := ⟨⟨pgCW, hdCW, poCW, saCW⟩, fun x hx => by
    simp only [List.mem_cons, List.not_mem_nil, or_false] at hx
    rcases hx with rfl | rfl | rfl | rfl | rfl
    · exact noCW_beginning
    · exact noCW_all_ports
    · exact noCW_all_channels
    · exact noCW_all_breakers
    · exact noCW_all_ships⟩
  have sub1 : ∀ k ∈ vesK, k ∈ brkK := by decide +kernel
  have sub2 : ∀ k ∈ vesK, k ∈ shpK := by decide +kernel
  have TBv : Cl K CB vesK := ⟨TB.cls, fun k hk => TB.no k (sub1 k hk)⟩
  have TSv : Cl K CS vesK := ⟨TS.cls, fun k hk => TS.no k (sub2 k hk)⟩
  have OCC : OCl K CC := ⟨TC.cls, clCC, cg, ct, moCC, kit_self⟩
  have OCB : OCl K CB := ⟨TB.cls, clCB, cg, ct, moCB, kit_self⟩
  have OCS : OCl K CS := ⟨TS.cls, clCS, cg, ct, moCS, kit_self⟩
  have KS : KCl K mg CC CB CS := ⟨⟨_, PySem.W.mg_of X G nCC, rfl⟩, ⟨_, PySem.W.mg_of X G nCB, rfl⟩, ⟨_, PySem.W.mg_of X G nCS, rfl⟩, OCC, OCB, OCS⟩
  have F0 := fun_mk (st := s_is_whole) l0 c0 k0
  have B0 := F0.binds (ps := ["thing"]) fun _ _ _ _ _ _ us hl => match us, hl with | [_], _ => rfl
  have F1 := fun_mk (st := s_is_within) l1 c1 k1
  have B1 := F1.binds (ps := ["thing", "low", "high"]) fun _ _ _ _ _ _ us hl => match us, hl with | [_, _, _], _ => rfl
  have F2 := fun_mk (st := s_is_name) l2 c2 k2
  have B2 := F2.binds (ps := ["thing"]) fun _ _ _ _ _ _ us hl => match us, hl with | [_], _ => rfl
  have F3 := fun_mk (st := s_need_names) l3 c3 k3
  have B3 := F3.binds (ps := ["things"]) fun _ _ _ _ _ _ us hl => match us, hl with | [_], _ => rfl
  have F4 := fun_mk (st := s_need_numbers) l4 c4 k4
  have B4 := F4.binds (ps := ["rows"]) fun _ _ _ _ _ _ us hl => match us, hl with | [_], _ => rfl
  have F5 := fun_mk (st := s_is_list) l5 c5 k5
  have B5 := F5.binds (ps := ["thing", "low", "high"]) fun _ _ _ _ _ _ us hl => match us, hl with | [_, _, _], _ => rfl
  have F6 := fun_mk (st := s_need_kinds) l6 c6 k6
  have B6 := F6.binds (ps := ["ports", "channels", "breakers", "ships"]) fun _ _ _ _ _ _ us hl => match us, hl with | [_, _, _, _], _ => rfl
  have F7 := fun_mk (st := s_need_unlike) l7 c7 k7
  have B7 := F7.binds (ps := ["names"]) fun _ _ _ _ _ _ us hl => match us, hl with | [_], _ => rfl
  have F8 := fun_mk (st := s_need_ports) l8 c8 k8
  have B8 := F8.binds (ps := ["names", "ports"]) fun _ _ _ _ _ _ us hl => match us, hl with | [_, _], _ => rfl
  have F9 := fun_mk (st := s_is_entry) l9 c9 k9
  have B9 := F9.binds (ps := ["begin", "channels", "thing"]) fun _ _ _ _ _ _ us hl => match us, hl with | [_, _, _], _ => rfl
  have F10 := fun_mk (st := s_are_entries) l10 c10 k10
  have B10 := F10.binds (ps := ["begin", "channels", "thing"]) fun _ _ _ _ _ _ us hl => match us, hl with | [_, _, _], _ => rfl
  have F11 := fun_mk (st := s_is_table) l11 c11 k11
  have B11 := F11.binds (ps := ["world", "thing"]) fun _ _ _ _ _ _ us hl => match us, hl with | [_, _], _ => rfl
  have F12 := fun_mk (st := s_table_told) l12 c12 k12
  have B12 := F12.binds (ps := ["world", "table"]) fun _ _ _ _ _ _ us hl => match us, hl with | [_, _], _ => rfl
  have F13 := fun_mk (st := s_channel_anew) l13 c13 k13
  have B13 := F13.binds (ps := ["row"]) fun _ _ _ _ _ _ us hl => match us, hl with | [_], _ => rfl
  have F14 := fun_mk (st := s_breaker_anew) l14 c14 k14
  have B14 := F14.binds (ps := ["row"]) fun _ _ _ _ _ _ us hl => match us, hl with | [_], _ => rfl
  have F15 := fun_mk (st := s_ship_anew) l15 c15 k15
  have B15 := F15.binds (ps := ["row"]) fun _ _ _ _ _ _ us hl => match us, hl with | [_], _ => rfl
  have F16 := fun_mk (st := s_world_anew) l16 c16 k16
  have B16 := F16.binds (ps := ["told"]) fun _ _ _ _ _ _ us hl => match us, hl with | [_], _ => rfl
  have F17 := fun_mk (st := s_later_world) l17 c17 k17
  have B17 := F17.binds (ps := ["world", "many"]) fun _ _ _ _ _ _ us hl => match us, hl with | [_, _], _ => rfl
  have F18 := fun_mk (st := s_later_table) l18 c18 k18
  have B18 := F18.binds (ps := ["world", "table", "many"]) fun _ _ _ _ _ _ us hl => match us, hl with | [_, _, _], _ => rfl
  have F19 := fun_mk (st := s__law_cell) l19 c19 k19
  have B19 := F19.binds (ps := ["_law_script", "_law_k"]) fun _ _ _ _ _ _ us hl => match us, hl with | [_, _], _ => rfl
  have F20 := fun_mk (st := s__law_box) l20 c20 k20
  have B20 := F20.binds (ps := ["_law_cell_here"]) fun _ _ _ _ _ _ us hl => match us, hl with | [_], _ => rfl
  have F21 := fun_mk (st := s__law_take) l21 c21 k21
  have B21 := F21.binds (ps := ["_law_box_here", "_law_many"]) fun _ _ _ _ _ _ us hl => match us, hl with | [_, _], _ => rfl
  have F22 := fun_mk (st := s__law_names) l22 c22 k22
  have B22 := F22.binds (ps := ["_law_box_here", "_law_many"]) fun _ _ _ _ _ _ us hl => match us, hl with | [_, _], _ => rfl
  have F23 := fun_mk (st := s__law_number) l23 c23 k23
  have B23 := F23.binds (ps := ["_law_box_here", "_law_low", "_law_high"]) fun _ _ _ _ _ _ us hl => match us, hl with | [_, _, _], _ => rfl
  have F24 := fun_mk (st := s__law_channel) l24 c24 k24
  have B24 := F24.binds (ps := ["_law_box_here", "_law_name", "_law_ports"]) fun _ _ _ _ _ _ us hl => match us, hl with | [_, _, _], _ => rfl
  have F25 := fun_mk (st := s__law_breaker) l25 c25 k25
  have B25 := F25.binds (ps := ["_law_box_here", "_law_name", "_law_ports"]) fun _ _ _ _ _ _ us hl => match us, hl with | [_, _, _], _ => rfl
  have F26 := fun_mk (st := s__law_ship) l26 c26 k26
  have B26 := F26.binds (ps := ["_law_box_here", "_law_name", "_law_ports"]) fun _ _ _ _ _ _ us hl => match us, hl with | [_, _, _], _ => rfl
  have F27 := fun_mk (st := s__law_world) l27 c27 k27
  have B27 := F27.binds (ps := ["_law_box_here", "_law_sizes"]) fun _ _ _ _ _ _ us hl => match us, hl with | [_, _], _ => rfl
  have F28 := fun_mk (st := s__law_few) l28 c28 k28
  have B28 := F28.binds (ps := ["_law_box_here"]) fun _ _ _ _ _ _ us hl => match us, hl with | [_], _ => rfl
  have F29 := fun_mk (st := s__law_made) l29 c29 k29
  have B29 := F29.binds (ps := ["_law_world_here"]) fun _ _ _ _ _ _ us hl => match us, hl with | [_], _ => rfl
  have F30 := fun_mk (st := s__law_table) l30 c30 k30
  have B30 := F30.binds (ps := ["_law_box_here", "_law_world_here"]) fun _ _ _ _ _ _ us hl => match us, hl with | [_, _], _ => rfl
  have F31 := fun_mk (st := s__law_anew) l31 c31 k31
  have B31 := F31.binds (ps := ["_law_world_here", "_law_table_here"]) fun _ _ _ _ _ _ us hl => match us, hl with | [_, _], _ => rfl
  have F32 := fun_mk (st := s__law_due) l32 c32 k32
  have B32 := F32.binds (ps := ["_law_world_here", "_law_many"]) fun _ _ _ _ _ _ us hl => match us, hl with | [_, _], _ => rfl
  have F33 := fun_mk (st := s__law_due_table) l33 c33 k33
  have B33 := F33.binds (ps := ["_law_world_here", "_law_table_here", "_law_many"]) fun _ _ _ _ _ _ us hl => match us, hl with | [_, _, _], _ => rfl
  have F34 := fun_mk (st := s__law_refused) l34 c34 k34
  have B34 := F34.binds (ps := ["_law_made_here", "_law_table_here", "_law_many"]) fun _ _ _ _ _ _ us hl => match us, hl with | [_, _, _], _ => rfl
  have F35 := fun_mk (st := s__law_right) l35 c35 k35
  have B35 := F35.binds (ps := ["_law_box_here", "_law_scene"]) fun _ _ _ _ _ _ us hl => match us, hl with | [_, _], _ => rfl
  have F36 := fun_mk (st := s_law) l36 c36 k36
  have F37 := fun_mk (st := s_Channel___init__) l37 c37 k37
  have B37 := F37.binds (ps := ["self", "name", "one", "other", "hours", "depth", "first", "growth", "most"]) fun _ _ _ _ _ _ us hl => match us, hl with | [_, _, _, _, _, _, _, _, _], _ => rfl
  have F38 := fun_mk (st := s_Channel_row) l38 c38 k38
  have B38 := F38.binds (ps := ["self"]) fun _ _ _ _ _ _ us hl => match us, hl with | [_], _ => rfl
  have F39 := fun_mk (st := s_Vessel___init__) l39 c39 k39
  have B39 := F39.binds (ps := ["self", "name", "port", "hour", "strength", "draught"]) fun _ _ _ _ _ _ us hl => match us, hl with | [_, _, _, _, _, _], _ => rfl
  have F40 := fun_mk (st := s_Vessel_settle) l40 c40 k40
  have B40 := F40.binds (ps := ["self", "name", "port", "hour", "strength", "draught"]) fun _ _ _ _ _ _ us hl => match us, hl with | [_, _, _, _, _, _], _ => rfl
  have F41 := fun_mk (st := s_Vessel_row) l41 c41 k41
  have B41 := F41.binds (ps := ["self"]) fun _ _ _ _ _ _ us hl => match us, hl with | [_], _ => rfl
  have F42 := fun_mk (st := s_Breaker___init__) l42 c42 k42
  have B42 := F42.binds (ps := ["self", "name", "port", "hour", "strength", "draught", "cut"]) fun _ _ _ _ _ _ us hl => match us, hl with | [_, _, _, _, _, _, _], _ => rfl
  have F43 := fun_mk (st := s_Breaker_row) l43 c43 k43
  have B43 := F43.binds (ps := ["self"]) fun _ _ _ _ _ _ us hl => match us, hl with | [_], _ => rfl
  have F44 := fun_mk (st := s_Ship___init__) l44 c44 k44
  have B44 := F44.binds (ps := ["self", "name", "port", "goal", "hour", "strength", "draught"]) fun _ _ _ _ _ _ us hl => match us, hl with | [_, _, _, _, _, _, _], _ => rfl
  have F45 := fun_mk (st := s_Ship_row) l45 c45 k45
  have B45 := F45.binds (ps := ["self"]) fun _ _ _ _ _ _ us hl => match us, hl with | [_], _ => rfl
  have F46 := fun_mk (st := s_World___init__) l46 c46 k46
  have B46 := F46.binds (ps := ["self", "begin", "ports", "channels", "breakers", "ships"]) fun _ _ _ _ _ _ us hl => match us, hl with | [_, _, _, _, _, _], _ => rfl
  have F47 := fun_mk (st := s_World_begin_hour) l47 c47 k47
  have B47 := F47.binds (ps := ["self"]) fun _ _ _ _ _ _ us hl => match us, hl with | [_], _ => rfl
  have F48 := fun_mk (st := s_World_vessels) l48 c48 k48
  have B48 := F48.binds (ps := ["self"]) fun _ _ _ _ _ _ us hl => match us, hl with | [_], _ => rfl
  have F49 := fun_mk (st := s_World_channels) l49 c49 k49
  have B49 := F49.binds (ps := ["self"]) fun _ _ _ _ _ _ us hl => match us, hl with | [_], _ => rfl
  have F50 := fun_mk (st := s_World_told) l50 c50 k50
  have B50 := F50.binds (ps := ["self"]) fun _ _ _ _ _ _ us hl => match us, hl with | [_], _ => rfl
  have F51 := fun_mk (st := s_NoNumber___init__) l51 c51 k51
  have B51 := F51.binds (ps := ["self", "found"]) fun _ _ _ _ _ _ us hl => match us, hl with | [_, _], _ => rfl
  have TI : BInit K mg "IceError" CI := ⟨PySem.W.mg_of X G nCI, spI, rdI, tyI, fiI⟩
  have ox : OexC K CN := ⟨⟨nm, q, N, bs, _, sn, sub, ab, col, dd, m0, m1, m2, m3, m5, xN, by rfl⟩, sa, exC, tyC, kC⟩
  have ev : PySem.W.ExVal K CN := ⟨ga, gg, exC, iC, ca, cg, ct, mo, eqC⟩
  have xf : XfC K CN := ⟨ga, gg, exC, hdC⟩
  have ex1 := exm_own exC iC tyC sC
  refine ⟨PySem.W.fnOf "law" "law" (defArgs s_law) (defBody s_law) (defScope s_law) .none kV36 dc36 pm36 an36 cd36 ct36, fun s u => .of_eq rfl, fun base _ _ => ?_⟩
  have OI := ok_noNumber (P := P) (w := w) (base := base) F51 TI ox nf
  have TN : Err P w K mg base "NoNumber" CN "found" := ⟨ox, ev, nf, hdC, PySem.W.mg_of X G nCN, ⟨_, _, a51, tI, OI, B51⟩⟩
  have O0 := ok_whole (P := P) (w := w) (mg := mg) (base := base) F0 B
  have D0 : Dn P w K mg base CX0 1 "is_whole" ["thing"] (spWhole K) := ⟨⟨_, _, PySem.W.mg_of X G a0, k0, B0, O0⟩⟩
  have O1 := ok_within (P := P) (w := w) (mg := mg) (base := base) F1 D0
  have D1 : Dn P w K mg base CX0 2 "is_within" ["thing", "low", "high"] (spWithin K) := ⟨⟨_, _, PySem.W.mg_of X G a1, k1, B1, O1⟩⟩
  have O2 := ok_name (P := P) (w := w) (mg := mg) (base := base) F2 B ⟨_, PySem.W.mg_of X G gL, ⟨_, rfl⟩⟩ ⟨_, PySem.W.mg_of X G g_LONGEST_NAME, ⟨_, rfl⟩⟩
  have D2 : Dn P w K mg base CX0 1 "is_name" ["thing"] spName := ⟨⟨_, _, PySem.W.mg_of X G a2, k2, B2, O2⟩⟩
  have O3 := ok_needNames (P := P) (w := w) (mg := mg) (base := base) F3 D2
  have D3 : Dn P w K mg base CX0 2 "need_names" ["things"] (spNeedNames K) := ⟨⟨_, _, PySem.W.mg_of X G a3, k3, B3, O3⟩⟩
  have O4 := ok_needNums (P := P) (w := w) (mg := mg) (base := base) F4 D1
  have D4 : Dn P w K mg base CX0 3 "need_numbers" ["rows"] (spNeedNums K) := ⟨⟨_, _, PySem.W.mg_of X G a4, k4, B4, O4⟩⟩
  have OMaC := ok_chanMk (P := P) (w := w) (mg := mg) (base := base) F37 NB TC D3 D4
  have MaC : Ma P w K mg base CX0 4 "Channel" CC ["self", "name", "one", "other", "hours", "depth", "first", "growth", "most"] (spChanMk CC) := ⟨⟨_, _, PySem.W.mg_of X G nCC, ⟨mkCC, a37, i37, kcCC⟩, B37, OMaC⟩⟩
  have OMsB := ok_settle (P := P) (w := w) (mg := mg) (base := base) F40 TBv
  have MsB : Me P w K mg base CX0 1 CB "settle" ["self", "name", "port", "hour", "strength", "draught"] (spSettle CB) := ⟨⟨_, _, ⟨asB, i40, k40⟩, B40, OMsB⟩⟩
  have OMsS := ok_settle (P := P) (w := w) (mg := mg) (base := base) F40 TSv
  have MsS : Me P w K mg base CX0 1 CS "settle" ["self", "name", "port", "hour", "strength", "draught"] (spSettle CS) := ⟨⟨_, _, ⟨asS, i40, k40⟩, B40, OMsS⟩⟩
  have OCmB := ok_vesMk (P := P) (w := w) (mg := mg) (base := base) F39 NB TBv D3 D4 MsB
  have CmB : Cm P w K mg base CX0 4 "Vessel" CV "__init__" ["self", "name", "port", "hour", "strength", "draught"] (spVesMk CB) := ⟨⟨_, _, ⟨PySem.W.mg_of X G nCV, spV, rdV, fiV, k39⟩, B39, OCmB⟩⟩
  have OCmS := ok_vesMk (P := P) (w := w) (mg := mg) (base := base) F39 NB TSv D3 D4 MsS
  have CmS : Cm P w K mg base CX0 4 "Vessel" CV "__init__" ["self", "name", "port", "hour", "strength", "draught"] (spVesMk CS) := ⟨⟨_, _, ⟨PySem.W.mg_of X G nCV, spV, rdV, fiV, k39⟩, B39, OCmS⟩⟩
  have OMaB := ok_brkMk (P := P) (w := w) (mg := mg) (base := base) F42 NB TB D4 CmB
  have MaB : Ma P w K mg base CX0 5 "Breaker" CB ["self", "name", "port", "hour", "strength", "draught", "cut"] (spBrkMk CB) := ⟨⟨_, _, PySem.W.mg_of X G nCB, ⟨mkCB, a42, i42, kcCB⟩, B42, OMaB⟩⟩
  have OMaS := ok_shpMk (P := P) (w := w) (mg := mg) (base := base) F44 TS D3 CmS
  have MaS : Ma P w K mg base CX0 5 "Ship" CS ["self", "name", "port", "goal", "hour", "strength", "draught"] (spShpMk CS) := ⟨⟨_, _, PySem.W.mg_of X G nCS, ⟨mkCS, a44, i44, kcCS⟩, B44, OMaS⟩⟩
  have OMrC := ok_chanRow (P := P) (w := w) (mg := mg) (base := base) F38 TC
  have MrC : Me P w K mg base CX0 1 CC "row" ["self"] (spRow CC chanK Chan.vals Chan.vals) := ⟨⟨_, _, ⟨a38, i38, k38⟩, B38, OMrC⟩⟩
  have OCmR := ok_vesRow (P := P) (w := w) (mg := mg) (base := base) F41 TB
  have CmR : Cm P w K mg base CX0 1 "Vessel" CV "row" ["self"] (spRow CB brkK Brk.vals (fun b => b.toVes.vals)) := ⟨⟨_, _, ⟨PySem.W.mg_of X G nCV, spV, rdV, frV, k41⟩, B41, OCmR⟩⟩
  have OMrB := ok_brkRow (P := P) (w := w) (mg := mg) (base := base) F43 TB CmR
  have MrB : Me P w K mg base CX0 2 CB "row" ["self"] (spRow CB brkK Brk.vals Brk.vals) := ⟨⟨_, _, ⟨a43, i43, k43⟩, B43, OMrB⟩⟩
  have OMrS := ok_shpRow (P := P) (w := w) (mg := mg) (base := base) F45 TS
  have MrS : Me P w K mg base CX0 1 CS "row" ["self"] (spRow CS shpK Shp.vals Shp.row) := ⟨⟨_, _, ⟨a45, i45, k45⟩, B45, OMrS⟩⟩
  have O5 := ok_isList (P := P) (w := w) (mg := mg) (base := base) F5 B
  have D5 : Dn P w K mg base CX0 1 "is_list" ["thing", "low", "high"] (spIsList K) := ⟨⟨_, _, PySem.W.mg_of X G a5, k5, B5, O5⟩⟩
  have O6 := ok_needKinds (P := P) (w := w) (mg := mg) (base := base) F6 B MB KS D5 D2
  have D6 : Dn P w K mg base CX0 2 "need_kinds" ["ports", "channels", "breakers", "ships"] (spNeedKinds K CC CB CS) := ⟨⟨_, _, PySem.W.mg_of X G a6, k6, B6, O6⟩⟩
  have O7 := ok_unlike (P := P) (w := w) (mg := mg) (base := base) F7
  have D7 : Dn P w K mg base CX0 1 "need_unlike" ["names"] (spUnlike K) := ⟨⟨_, _, PySem.W.mg_of X G a7, k7, B7, O7⟩⟩
  have O8 := ok_needPorts (P := P) (w := w) (mg := mg) (base := base) F8
  have D8 : Dn P w K mg base CX0 1 "need_ports" ["names", "ports"] (spNeedPorts K) := ⟨⟨_, _, PySem.W.mg_of X G a8, k8, B8, O8⟩⟩
  have OMaW := ok_wldMk (P := P) (w := w) (mg := mg) (base := base) (k := ⟨CC, CB, CS, CW⟩) F46 B MB TW TC TB TS D1 D6 D7 D8
  have MaW : Ma P w K mg base CX0 3 "World" CW ["self", "begin", "ports", "channels", "breakers", "ships"] (spWldMk K (⟨CC, CB, CS, CW⟩ : KA)) := ⟨⟨_, _, PySem.W.mg_of X G nCW, ⟨mkCW, a46, i46, kcCW⟩, B46, OMaW⟩⟩
  have OMbH := ok_beginHour (P := P) (w := w) (mg := mg) (base := base) (k := ⟨CC, CB, CS, CW⟩) F47 TW
  have MbH : Me P w K mg base CX0 1 CW "begin_hour" ["self"] (spBegin (⟨CC, CB, CS, CW⟩ : KA)) := ⟨⟨_, _, ⟨a47, i47, k47⟩, B47, OMbH⟩⟩
  have OMvW := ok_vessels (P := P) (w := w) (mg := mg) (base := base) (k := ⟨CC, CB, CS, CW⟩) F48 TW
  have MvW : Me P w K mg base CX0 1 CW "vessels" ["self"] (spVessels (⟨CC, CB, CS, CW⟩ : KA)) := ⟨⟨_, _, ⟨a48, i48, k48⟩, B48, OMvW⟩⟩
  have OMcW := ok_channels (P := P) (w := w) (mg := mg) (base := base) (k := ⟨CC, CB, CS, CW⟩) F49 B TW
  have McW : Me P w K mg base CX0 1 CW "channels" ["self"] (spChannels (⟨CC, CB, CS, CW⟩ : KA)) := ⟨⟨_, _, ⟨a49, i49, k49⟩, B49, OMcW⟩⟩
  have OMtW := ok_told (P := P) (w := w) (mg := mg) (base := base) (k := ⟨CC, CB, CS, CW⟩) F50 B TW TC TB TS MrC MrB MrS
  have MtW : Me P w K mg base CX0 3 CW "told" ["self"] (spTold (⟨CC, CB, CS, CW⟩ : KA)) := ⟨⟨_, _, ⟨a50, i50, k50⟩, B50, OMtW⟩⟩
  have O13 := ok_channel_anew (P := P) (w := w) (mg := mg) (base := base) F13 MaC
  have D13 : Dn P w K mg base CX0 6 "channel_anew" ["row"] (spAnew CC chanK Chan.Good Chan.vals Chan.vals) := ⟨⟨_, _, PySem.W.mg_of X G a13, k13, B13, O13⟩⟩
  have O14 := ok_breaker_anew (P := P) (w := w) (mg := mg) (base := base) F14 MaB
  have D14 : Dn P w K mg base CX0 7 "breaker_anew" ["row"] (spAnew CB brkK Brk.Good Brk.vals Brk.vals) := ⟨⟨_, _, PySem.W.mg_of X G a14, k14, B14, O14⟩⟩
  have O15 := ok_ship_anew (P := P) (w := w) (mg := mg) (base := base) F15 MaS
  have D15 : Dn P w K mg base CX0 7 "ship_anew" ["row"] (spAnew CS shpK Shp.Good Shp.vals Shp.row) := ⟨⟨_, _, PySem.W.mg_of X G a15, k15, B15, O15⟩⟩
  have O16 := ok_wldAnew (P := P) (w := w) (mg := mg) (base := base) (k := ⟨CC, CB, CS, CW⟩) F16 D13 D14 D15 MaW
  have D16 : Dn P w K mg base CX0 8 "world_anew" ["told"] (spWldAnew K (⟨CC, CB, CS, CW⟩ : KA)) := ⟨⟨_, _, PySem.W.mg_of X G a16, k16, B16, O16⟩⟩
  have O9 := ok_isEntry (P := P) (w := w) (mg := mg) (base := base) F9 B ⟨_, PySem.W.mg_of X G g_LAST_HOUR, ⟨_, rfl⟩⟩ D1
  have D9 : Dn P w K mg base CX0 3 "is_entry" ["begin", "channels", "thing"] (spIsEntry K) := ⟨⟨_, _, PySem.W.mg_of X G a9, k9, B9, O9⟩⟩
  have O10 := ok_areEntries (P := P) (w := w) (mg := mg) (base := base) F10 B D9
  have D10 : Dn P w K mg base CX0 4 "are_entries" ["begin", "channels", "thing"] (spAreEntries K) := ⟨⟨_, _, PySem.W.mg_of X G a10, k10, B10, O10⟩⟩
  have O11 := ok_isTable (P := P) (w := w) (mg := mg) (base := base) (k := ⟨CC, CB, CS, CW⟩) F11 B TW TC TB TS MvW McW MbH D10
  have D11 : Dn P w K mg base CX0 5 "is_table" ["world", "thing"] (spIsTable K (⟨CC, CB, CS, CW⟩ : KA)) := ⟨⟨_, _, PySem.W.mg_of X G a11, k11, B11, O11⟩⟩
  have O12 := ok_tableTold (P := P) (w := w) (mg := mg) (base := base) (k := ⟨CC, CB, CS, CW⟩) F12 B TB TS TW MvW D11
  have D12 : Dn P w K mg base CX0 6 "table_told" ["world", "table"] (spTableTold K (⟨CC, CB, CS, CW⟩ : KA)) := ⟨⟨_, _, PySem.W.mg_of X G a12, k12, B12, O12⟩⟩
  have O17 := ok_laterW (P := P) (w := w) (mg := mg) (base := base) (k := ⟨CC, CB, CS, CW⟩) F17 B ⟨_, PySem.W.mg_of X G g_MOST_HOUR, ⟨_, rfl⟩⟩ TW TN MtW D1 D16
  have D17 : Dn P w K mg base (L2.CX P w) 9 "later_world" ["world", "many"] (spLaterW K (⟨CC, CB, CS, CW⟩ : KA) CN) := ⟨⟨_, _, PySem.W.mg_of X G a17, k17, B17, O17⟩⟩
  have O18 := ok_laterT (P := P) (w := w) (mg := mg) (base := base) (k := ⟨CC, CB, CS, CW⟩) F18 B ⟨_, PySem.W.mg_of X G g_MOST_HOUR, ⟨_, rfl⟩⟩ TN D1 D12
  have D18 : Dn P w K mg base (L2.CX P w) 7 "later_table" ["world", "table", "many"] (spLaterT K (⟨CC, CB, CS, CW⟩ : KA) CN) := ⟨⟨_, _, PySem.W.mg_of X G a18, k18, B18, O18⟩⟩
  have O19 := ok_cell (P := P) (w := w) (mg := mg) (base := base) F19 B
  have D19 : Dn P w K mg base CX0 1 "_law_cell" ["_law_script", "_law_k"] (spCell K) := ⟨⟨_, _, PySem.W.mg_of X G a19, k19, B19, O19⟩⟩
  have O20 := ok_box (P := P) (w := w) (mg := mg) (base := base) F20 B
  have D20 : Dn P w K mg base CX0 1 "_law_box" ["_law_cell_here"] spBox := ⟨⟨_, _, PySem.W.mg_of X G a20, k20, B20, O20⟩⟩
  have O21 := ok_take (P := P) (w := w) (mg := mg) (base := base) F21
  have D21 : Dn P w K mg base CX0 1 "_law_take" ["_law_box_here", "_law_many"] spTake := ⟨⟨_, _, PySem.W.mg_of X G a21, k21, B21, O21⟩⟩
  have O22 := ok_names (P := P) (w := w) (mg := mg) (base := base) F22 B D21
  have D22 : Dn P w K mg base CX0 2 "_law_names" ["_law_box_here", "_law_many"] spNames := ⟨⟨_, _, PySem.W.mg_of X G a22, k22, B22, O22⟩⟩
  have O23 := ok_number (P := P) (w := w) (mg := mg) (base := base) F23 D21
  have D23 : Dn P w K mg base CX0 2 "_law_number" ["_law_box_here", "_law_low", "_law_high"] spNumber := ⟨⟨_, _, PySem.W.mg_of X G a23, k23, B23, O23⟩⟩
  have O24 := ok_lchan (P := P) (w := w) (mg := mg) (base := base) F24 B D21 D23
  have D24 : Dn P w K mg base CX0 3 "_law_channel" ["_law_box_here", "_law_name", "_law_ports"] spLChan := ⟨⟨_, _, PySem.W.mg_of X G a24, k24, B24, O24⟩⟩
  have O25 := ok_lbrk (P := P) (w := w) (mg := mg) (base := base) F25 B D21 D23
  have D25 : Dn P w K mg base CX0 3 "_law_breaker" ["_law_box_here", "_law_name", "_law_ports"] spLBrk := ⟨⟨_, _, PySem.W.mg_of X G a25, k25, B25, O25⟩⟩
  have O26 := ok_lshp (P := P) (w := w) (mg := mg) (base := base) F26 B D21 D23
  have D26 : Dn P w K mg base CX0 3 "_law_ship" ["_law_box_here", "_law_name", "_law_ports"] spLShp := ⟨⟨_, _, PySem.W.mg_of X G a26, k26, B26, O26⟩⟩
  have O28 := ok_few (P := P) (w := w) (mg := mg) (base := base) F28 D21
  have D28 : Dn P w K mg base CX0 2 "_law_few" ["_law_box_here"] spFew := ⟨⟨_, _, PySem.W.mg_of X G a28, k28, B28, O28⟩⟩
  have O27 := ok_lworld (P := P) (w := w) (mg := mg) (base := base) F27 B D22 D23 D24 D25 D26
  have D27 : Dn P w K mg base CX0 4 "_law_world" ["_law_box_here", "_law_sizes"] spLWorld := ⟨⟨_, _, PySem.W.mg_of X G a27, k27, B27, O27⟩⟩
  have O29 := ok_made (P := P) (w := w) (mg := mg) (base := base) (k := ⟨CC, CB, CS, CW⟩) F29 B MaC MaB MaS MaW
  have D29 : Dn P w K mg base CX0 7 "_law_made" ["_law_world_here"] (spMade (⟨CC, CB, CS, CW⟩ : KA)) := ⟨⟨_, _, PySem.W.mg_of X G a29, k29, B29, O29⟩⟩
  have O30 := ok_ltable (P := P) (w := w) (mg := mg) (base := base) F30 B D21 D23
  have D30 : Dn P w K mg base CX0 3 "_law_table" ["_law_box_here", "_law_world_here"] (spLTable K) := ⟨⟨_, _, PySem.W.mg_of X G a30, k30, B30, O30⟩⟩
  have O31 := ok_anew (P := P) (w := w) (mg := mg) (base := base) F31 B
  have D31 : Dn P w K mg base CX0 1 "_law_anew" ["_law_world_here", "_law_table_here"] (spAnewT K) := ⟨⟨_, _, PySem.W.mg_of X G a31, k31, B31, O31⟩⟩
  have O32 := ok_due (P := P) (w := w) (mg := mg) (base := base) F32 B
  have D32 : Dn P w K mg base CX0 1 "_law_due" ["_law_world_here", "_law_many"] spDue := ⟨⟨_, _, PySem.W.mg_of X G a32, k32, B32, O32⟩⟩
  have O33 := ok_dueT (P := P) (w := w) (mg := mg) (base := base) F33 B D31
  have D33 : Dn P w K mg base CX0 2 "_law_due_table" ["_law_world_here", "_law_table_here", "_law_many"] (spDueT K) := ⟨⟨_, _, PySem.W.mg_of X G a33, k33, B33, O33⟩⟩
  have O34 := ok_refused (P := P) (w := w) (mg := mg) (base := base) (k := ⟨CC, CB, CS, CW⟩) F34 D17 D18 (PySem.W.mg_of X G nCN) (PySem.W.mg_of X G nCI) ex1 xf nf
  have D34 : Dn P w K mg base CX0 10 "_law_refused" ["_law_made_here", "_law_table_here", "_law_many"] (spRefused K (⟨CC, CB, CS, CW⟩ : KA)) := ⟨⟨_, _, PySem.W.mg_of X G a34, k34, B34, O34⟩⟩
  have O35 := ok_right (P := P) (w := w) (mg := mg) (base := base) (k := ⟨CC, CB, CS, CW⟩) F35 B TW MtW D21 D23 D17 D18 D32 D33 D34
  have D35 : DnG P w K mg base CX0 11 "_law_right" ["_law_box_here", "_law_scene"] (spRight K (⟨CC, CB, CS, CW⟩ : KA)) := ⟨⟨_, _, PySem.W.mg_of X G a35, k35, B35, O35⟩⟩
  exact ok_law (P := P) (w := w) (mg := mg) (base := base) (k := ⟨CC, CB, CS, CW⟩) F36 B D19 D20 D21 D28 D27 D29 D30 D35
end Law
open PySem PySem.W PyProof.Rows
set_option maxRecDepth 100000 in
set_option maxHeartbeats 0 in
theorem PySem.Challenge.cw_iceopened_k75_later_holds : PySem.Challenge.rw_iceopened_k75_later.Holds := by
  refine head ?_
  k_fill
  refine IK.walkG (l := PySem.Challenge.rw_iceopened_k75_later) (n := 63) (k := 12) (CX := fun _ => L2.CX0) (sp := fun w => Law.spLaw (head.heap_39 w.params)) (x := "_law_script") rfl (by decide) rfl ⟨rfl, by decide, by decide⟩ (fun w h Y => PySem.W.kIn_of Y) ?F ?S (fun _ _ _ _ _ z => z)
  case F =>
    intro w mg fa h KX G hmg
    refine' Law.all_mk KX G hmg ?a0 ?l0 ?c0 ?k0 ?a1 ?l1 ?c1 ?k1 ?a2 ?l2 ?c2 ?k2 ?a3 ?l3 ?c3 ?k3 ?a4 ?l4 ?c4 ?k4 ?a5 ?l5 ?c5 ?k5 ?a6 ?l6 ?c6 ?k6 ?a7 ?l7 ?c7 ?k7 ?a8 ?l8 ?c8 ?k8 ?a9 ?l9 ?c9 ?k9 ?a10 ?l10 ?c10 ?k10 ?a11 ?l11 ?c11 ?k11 ?a12 ?l12 ?c12 ?k12 ?a13 ?l13 ?c13 ?k13 ?a14 ?l14 ?c14 ?k14 ?a15 ?l15 ?c15 ?k15 ?a16 ?l16 ?c16 ?k16 ?a17 ?l17 ?c17 ?k17 ?a18 ?l18 ?c18 ?k18 ?a19 ?l19 ?c19 ?k19 ?a20 ?l20 ?c20 ?k20 ?a21 ?l21 ?c21 ?k21 ?a22 ?l22 ?c22 ?k22 ?a23 ?l23 ?c23 ?k23 ?a24 ?l24 ?c24 ?k24 ?a25 ?l25 ?c25 ?k25 ?a26 ?l26 ?c26 ?k26 ?a27 ?l27 ?c27 ?k27 ?a28 ?l28 ?c28 ?k28 ?a29 ?l29 ?c29 ?k29 ?a30 ?l30 ?c30 ?k30 ?a31 ?l31 ?c31 ?k31 ?a32 ?l32 ?c32 ?k32 ?a33 ?l33 ?c33 ?k33 ?a34 ?l34 ?c34 ?k34 ?a35 ?l35 ?c35 ?k35 ?a36 ?l36 ?c36 ?k36 ?nCC ?nCV ?nCB ?nCS ?nCW ?nCI ?nCN ?a37 ?i37 ?l37 ?c37 ?k37 ?a38 ?i38 ?l38 ?c38 ?k38 ?a39 ?i39 ?l39 ?c39 ?k39 ?a40 ?i40 ?l40 ?c40 ?k40 ?a41 ?i41 ?l41 ?c41 ?k41 ?a42 ?i42 ?l42 ?c42 ?k42 ?a43 ?i43 ?l43 ?c43 ?k43 ?a44 ?i44 ?l44 ?c44 ?k44 ?a45 ?i45 ?l45 ?c45 ?k45 ?a46 ?i46 ?l46 ?c46 ?k46 ?a47 ?i47 ?l47 ?c47 ?k47 ?a48 ?i48 ?l48 ?c48 ?k48 ?a49 ?i49 ?l49 ?c49 ?k49 ?a50 ?i50 ?l50 ?c50 ?k50 ?a51 ?i51 ?l51 ?c51 ?k51 ?asB ?asS ?spV ?rdV ?fiV ?frV ?pgCC ?hdCC ?poCC ?saCC ?mkCC ?kcCC ?noCC_name ?noCC_one ?noCC_other ?noCC_hours ?noCC_depth ?noCC_first ?noCC_growth ?noCC_most ?pgCB ?hdCB ?poCB ?saCB ?mkCB ?kcCB ?noCB_name ?noCB_port ?noCB_hour ?noCB_strength ?noCB_draught ?noCB_cut ?pgCS ?hdCS ?poCS ?saCS ?mkCS ?kcCS ?noCS_name ?noCS_port ?noCS_hour ?noCS_strength ?noCS_draught ?noCS_goal ?pgCW ?hdCW ?poCW ?saCW ?mkCW ?kcCW ?noCW_beginning ?noCW_all_ports ?noCW_all_channels ?noCW_all_breakers ?noCW_all_ships ?clCC ?moCC ?clCB ?moCB ?clCS ?moCS ?xN ?sa ?exC ?tyC ?kC ?iC ?sC ?ga ?gg ?ca ?cg ?ct ?mo ?eqC ?nf ?hdC ?tI ?spI ?rdI ?tyI ?fiI ?gL ?g_MOST_HOUR ?g_MOST_ICE ?g_MOST_DEPTH ?g_MOST_LENGTH ?g_MOST_GROWTH ?g_MOST_BEGIN ?g_MOST_PORTS ?g_MOST_CHANNELS ?g_MOST_BREAKERS ?g_MOST_SHIPS ?g_LAST_HOUR ?g_LONGEST_NAME ?b_isinstance ?b_int ?b_bool ?b_str ?b_list ?b_tuple ?b_dict ?b_len ?b_all ?b_max ?b_min ?b_range ?b_repr
    case a0 => k_is
    case l0 => k_is
    case c0 => k_is
    case k0 => k_is
    case a1 => k_is
    case l1 => k_is
    case c1 => k_is
    case k1 => k_is
    case a2 => k_is
    case l2 => k_is
    case c2 => k_is
    case k2 => k_is
    case a3 => k_is
    case l3 => k_is
    case c3 => k_is
    case k3 => k_is
    case a4 => k_is
    case l4 => k_is
    case c4 => k_is
    case k4 => k_is
    case a5 => k_is
    case l5 => k_is
    case c5 => k_is
    case k5 => k_is
    case a6 => k_is
    case l6 => k_is
    case c6 => k_is
    case k6 => k_is
    case a7 => k_is
    case l7 => k_is
    case c7 => k_is
    case k7 => k_is
    case a8 => k_is
    case l8 => k_is
    case c8 => k_is
    case k8 => k_is
    case a9 => k_is
    case l9 => k_is
    case c9 => k_is
    case k9 => k_is
    case a10 => k_is
    case l10 => k_is
    case c10 => k_is
    case k10 => k_is
    case a11 => k_is
    case l11 => k_is
    case c11 => k_is
    case k11 => k_is
    case a12 => k_is
    case l12 => k_is
    case c12 => k_is
    case k12 => k_is
    case a13 => k_is
    case l13 => k_is
    case c13 => k_is
    case k13 => k_is
    case a14 => k_is
    case l14 => k_is
    case c14 => k_is
    case k14 => k_is
    case a15 => k_is
    case l15 => k_is
    case c15 => k_is
    case k15 => k_is
    case a16 => k_is
    case l16 => k_is
    case c16 => k_is
    case k16 => k_is
    case a17 => k_is
    case l17 => k_is
    case c17 => k_is
    case k17 => k_is
    case a18 => k_is
    case l18 => k_is
    case c18 => k_is
    case k18 => k_is
    case a19 => k_is
    case l19 => k_is
    case c19 => k_is
    case k19 => k_is
    case a20 => k_is
    case l20 => k_is
    case c20 => k_is
    case k20 => k_is
    case a21 => k_is
    case l21 => k_is
    case c21 => k_is
    case k21 => k_is
    case a22 => k_is
    case l22 => k_is
    case c22 => k_is
    case k22 => k_is
    case a23 => k_is
    case l23 => k_is
    case c23 => k_is
    case k23 => k_is
    case a24 => k_is
    case l24 => k_is
    case c24 => k_is
    case k24 => k_is
    case a25 => k_is
    case l25 => k_is
    case c25 => k_is
    case k25 => k_is
    case a26 => k_is
    case l26 => k_is
    case c26 => k_is
    case k26 => k_is
    case a27 => k_is
    case l27 => k_is
    case c27 => k_is
    case k27 => k_is
    case a28 => k_is
    case l28 => k_is
    case c28 => k_is
    case k28 => k_is
    case a29 => k_is
    case l29 => k_is
    case c29 => k_is
    case k29 => k_is
    case a30 => k_is
    case l30 => k_is
    case c30 => k_is
    case k30 => k_is
    case a31 => k_is
    case l31 => k_is
    case c31 => k_is
    case k31 => k_is
    case a32 => k_is
    case l32 => k_is
    case c32 => k_is
    case k32 => k_is
    case a33 => k_is
    case l33 => k_is
    case c33 => k_is
    case k33 => k_is
    case a34 => k_is
    case l34 => k_is
    case c34 => k_is
    case k34 => k_is
    case a35 => k_is
    case l35 => k_is
    case c35 => k_is
    case k35 => k_is
    case a36 => k_is
    case l36 => k_is
    case c36 => k_is
    case k36 => k_is
    case nCC => k_is
    case nCV => k_is
    case nCB => k_is
    case nCS => k_is
    case nCW => k_is
    case nCI => k_is
    case nCN => k_is
    case a37 => k_is
    case i37 => k_is
    case l37 => k_is
    case c37 => k_is
    case k37 => k_is
    case a38 => k_is
    case i38 => k_is
    case l38 => k_is
    case c38 => k_is
    case k38 => k_is
    case a39 => k_is
    case i39 => k_is
    case l39 => k_is
    case c39 => k_is
    case k39 => k_is
    case a40 => k_is
    case i40 => k_is
    case l40 => k_is
    case c40 => k_is
    case k40 => k_is
    case a41 => k_is
    case i41 => k_is
    case l41 => k_is
    case c41 => k_is
    case k41 => k_is
    case a42 => k_is
    case i42 => k_is
    case l42 => k_is
    case c42 => k_is
    case k42 => k_is
    case a43 => k_is
    case i43 => k_is
    case l43 => k_is
    case c43 => k_is
    case k43 => k_is
    case a44 => k_is
    case i44 => k_is
    case l44 => k_is
    case c44 => k_is
    case k44 => k_is
    case a45 => k_is
    case i45 => k_is
    case l45 => k_is
    case c45 => k_is
    case k45 => k_is
    case a46 => k_is
    case i46 => k_is
    case l46 => k_is
    case c46 => k_is
    case k46 => k_is
    case a47 => k_is
    case i47 => k_is
    case l47 => k_is
    case c47 => k_is
    case k47 => k_is
    case a48 => k_is
    case i48 => k_is
    case l48 => k_is
    case c48 => k_is
    case k48 => k_is
    case a49 => k_is
    case i49 => k_is
    case l49 => k_is
    case c49 => k_is
    case k49 => k_is
    case a50 => k_is
    case i50 => k_is
    case l50 => k_is
    case c50 => k_is
    case k50 => k_is
    case a51 => k_is
    case i51 => k_is
    case l51 => k_is
    case c51 => k_is
    case k51 => k_is
    case asB => k_is
    case asS => k_is
    case spV => k_is
    case rdV => k_is
    case fiV => k_is
    case frV => k_is
    case pgCC => k_is
    case hdCC => k_is
    case poCC => k_is
    case saCC => k_is
    case mkCC => k_is
    case kcCC => k_is
    case noCC_name => k_is
    case noCC_one => k_is
    case noCC_other => k_is
    case noCC_hours => k_is
    case noCC_depth => k_is
    case noCC_first => k_is
    case noCC_growth => k_is
    case noCC_most => k_is
    case pgCB => k_is
    case hdCB => k_is
    case poCB => k_is
    case saCB => k_is
    case mkCB => k_is
    case kcCB => k_is
    case noCB_name => k_is
    case noCB_port => k_is
    case noCB_hour => k_is
    case noCB_strength => k_is
    case noCB_draught => k_is
    case noCB_cut => k_is
    case pgCS => k_is
    case hdCS => k_is
    case poCS => k_is
    case saCS => k_is
    case mkCS => k_is
    case kcCS => k_is
    case noCS_name => k_is
    case noCS_port => k_is
    case noCS_hour => k_is
    case noCS_strength => k_is
    case noCS_draught => k_is
    case noCS_goal => k_is
    case pgCW => k_is
    case hdCW => k_is
    case poCW => k_is
    case saCW => k_is
    case mkCW => k_is
    case kcCW => k_is
    case noCW_beginning => k_is
    case noCW_all_ports => k_is
    case noCW_all_channels => k_is
    case noCW_all_breakers => k_is
    case noCW_all_ships => k_is
    case clCC => k_is
    case moCC => k_is
    case clCB => k_is
    case moCB => k_is
    case clCS => k_is
    case moCS => k_is
    case xN => k_is
    case sa => k_is
    case exC => k_is
    case tyC => k_is
    case kC => k_is
    case iC => k_is
    case sC => first | rfl | k_is
    case ga => k_is
    case gg => k_is
    case ca => k_is
    case cg => k_is
    case ct => k_is
    case mo => k_is
    case eqC => k_is
    case nf => k_is
    case hdC => k_is
    case tI => k_is
    case spI => k_is
    case rdI => k_is
    case tyI => k_is
    case fiI => k_is
    case gL => k_is
    case g_MOST_HOUR => k_is
    case g_MOST_ICE => k_is
    case g_MOST_DEPTH => k_is
    case g_MOST_LENGTH => k_is
    case g_MOST_GROWTH => k_is
    case g_MOST_BEGIN => k_is
    case g_MOST_PORTS => k_is
    case g_MOST_CHANNELS => k_is
    case g_MOST_BREAKERS => k_is
    case g_MOST_SHIPS => k_is
    case g_LAST_HOUR => k_is
    case g_LONGEST_NAME => k_is
    case b_isinstance => k_is
    case b_int => k_is
    case b_bool => k_is
    case b_str => k_is
    case b_list => k_is
    case b_tuple => k_is
    case b_dict => k_is
    case b_len => k_is
    case b_all => k_is
    case b_max => k_is
    case b_min => k_is
    case b_range => k_is
    case b_repr => k_is
  case S =>
    intro w H a ns hl hO hS
    refine ⟨a, ns, rfl, hS, fun l h => ?_, hl, fun _ => rfl⟩
    rcases hO a with z | ⟨o, xs, z⟩
    · rw [z] at h
      cases h
    · rw [z] at h
      cases h
end
