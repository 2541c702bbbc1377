import PyProof.Rows.All
import Wide.All
import OpenK.AllK
import Wide.FinOn
import HandS.ForMost
import HandS.Exc
import HandS.WordsExc
import HandS.IsInst
import HandS.TupSets
import HandS.SetBool
import HandS.Strs
import HandS.SortKw
import KE.KMinKey
import HandS.SetFor
import HandS.OwnEq
import PySem.Challenge.RW_kettletones_k32_notes_that_pinch
set_option Elab.async false
set_option linter.all false
set_option maxRecDepth 100000
set_option maxHeartbeats 1000000
namespace Kt
open PySem PySem.Spec PyProof.Rows L2

/-! ## defs that show texts of lists: nothing is being shown around them -/
section
variable {P : Program} {w : World} {K : PySem.W.Frag} {mg : Str → Option Value} {base : Heap} {CX : CXT} {k : Nat} {f : Addr} {fd : FuncData} {ps : List Str} {sp : Sp}
/-- a promise that holds where no object is being shown -/
structure FnG (P : Program) (w : World) (K : PySem.W.Frag) (mg : Str → Option Value) (base : Heap) (CX : CXT) (k : Nat) (f : Addr) (fd : FuncData) (ps : List Str) (sp : Sp) : Prop where
  len : ∀ vs H Q E, sp vs H Q E → vs.length = ps.length
  run : ∀ (A : Around), Room k A → A.guards = some [] → ∀ (outer : List Env) (s : Shared) (H : Hp) (args : Args) (us : List Value) (vs : List V) (Q : VK) (E : XK),
    Env0 P w K mg base A outer s H → BindsTo s fd args (ps.zip us) → Vals vs us → sp vs H Q E → codeAny (model P w) A (.call (.ref f) args) (CR CX outer P w H s Q E) s
theorem FnG.mono {j : Nat} (F : FnG P w K mg base CX j f fd ps sp) (h : j ≤ k) : FnG P w K mg base CX k f fd ps sp :=
  ⟨F.len, fun A hr hg => F.run A (hr.mono h) hg⟩
theorem fnG_of {name qual : Str} {params : Arguments} {body : List Stmt} {scope : Scope} {dV kV doc pm cdv ct oc : Value} {an od : Option Addr} {osl : Array (Option Value)} {N : List Str}
    (lk : K.lookup f = some ⟨oc, od, .func (PySem.W.fnOf name qual params body scope dV kV doc pm an cdv ct), osl⟩) (hcd : PySem.W.codeIn K cdv qual = true) (S : FnScope N ps scope)
    (len : ∀ vs H Q E, sp vs H Q E → vs.length = ps.length)
    (hb : ∀ (A : Around), A.guards = some [] → ∀ (outer : List Env) (s : Shared) (H : Hp) (vs : List V) (Q : VK) (E : XK), Room k (A.deeper (envOfC qual scope s.heap.objs.size f cdv)) → sp vs H Q E →
      ∃ t, PSs (cxOf CX P w K mg base N qual scope f cdv A outer s H E) body t ∧ t { nx := fun _ H' => Q .non H', rt := Q } (start N vs) H) :
    FnG P w K mg base CX (k + 1) f (PySem.W.fnOf name qual params body scope dV kV doc pm an cdv ct) ps sp := by
  constructor
  · exact len
  intro A hr hg outer s H args us vs Q E e0 bd rv hs
  have stays := fun b o (e : base.get? b = some o) => (e0.bs b o e).1
  have inK : K.In s.heap := e0.mod.kin.keeps stays
  refine codeAny_call_function hr.depth (inK _ _ lk) rfl S.co S.gen rfl (PySem.W.codeRec_of inK hcd) (bd _ _ _ _ ?_)
  refine wpAny_newFunctionEnv_cells S.kind ?_ fun env he s1 x => ?_
  · rintro ⟨n, v⟩ hy
    have hn := S.par n (List.of_mem_zip hy).1
    exact hn.imp id fun q => ⟨q, PySem.W.cellsFrom_some _ _ _ (.inl q)⟩
  subst he
  obtain ⟨t, ht, hq⟩ := hb A hg outer s H vs Q E (hr.deeper _) hs
  have I := inv_start (CX := CX) (E := E) S hr.hd e0 (len _ _ _ _ hs) rv x
  refine ⟨(e0.mod.nolimit.keeps stays).keeps x.toInCall.keep, codeAny_func (wpAny_mono (ht.run [] s1 _ H _ I hq) ?_ fun _ _ z => z)⟩
  rintro (_ | _ | _ | u) s' h
  · obtain ⟨_, H', J, q⟩ := h
    exact ⟨.non, H', J.os, J.bare, J.base, J.hok, rfl, q⟩
  · obtain ⟨_, _, _, q⟩ := h
    exact q.elim
  · obtain ⟨_, _, _, q⟩ := h
    exact q.elim
  · obtain ⟨v, _, H', J, r, q⟩ := h
    exact ⟨v, H', J.os, J.bare, J.base, J.hok, r, q⟩
end

/-! ## calls -/
section
variable {P : Program} {w : World} {K : PySem.W.Frag} {mg : Str → Option Value} {base : Heap}
/-- a def of the text under its own name, with its promise -/
structure Cal (P : Program) (w : World) (K : PySem.W.Frag) (mg : Str → Option Value) (base : Heap) (k : Nat) (x : Str) (ps : List Str) (sp : Sp) : Prop where
  ex : ∃ f fd, FnOk P w K mg base (L2.CX P w) k f fd ps sp ∧ mg x = some (.ref f) ∧ PySem.W.keepIn K (.ref f) = true ∧ Binds K fd ps []
structure CalG (P : Program) (w : World) (K : PySem.W.Frag) (mg : Str → Option Value) (base : Heap) (k : Nat) (x : Str) (ps : List Str) (sp : Sp) : Prop where
  ex : ∃ f fd, FnG P w K mg base (L2.CX P w) k f fd ps sp ∧ mg x = some (.ref f) ∧ PySem.W.keepIn K (.ref f) = true ∧ Binds K fd ps []
/-- a method m of the class at C -/
structure CalM (P : Program) (w : World) (K : PySem.W.Frag) (mg : Str → Option Value) (base : Heap) (C : Addr) (k : Nat) (m : Str) (ps : List Str) (sp : Sp) : Prop where
  cls : Cls K C
  ex : ∃ f fd, FnOk P w K mg base (L2.CX P w) k f fd ps sp ∧ Meth K C m f ∧ Binds K fd ps []
/-- a class x at C, made by its own __init__ -/
structure CalC (P : Program) (w : World) (K : PySem.W.Frag) (mg : Str → Option Value) (base : Heap) (C : Addr) (k : Nat) (x : Str) (ps : List Str) (sp : Sp) : Prop where
  ex : ∃ f fd, FnOk P w K mg base (L2.CX P w) k f fd ps sp ∧ Mk K C f ∧ mg x = some (.ref C) ∧ Binds K fd ps []
end
section
variable {X : Cx} {k j : Nat} {x m : Str} {ps : List Str} {sp : Sp} {E : XK} {p pos apos : Pos} {e o : Expr} {es : List Expr} {t : TA} {ta : TE} {C : Addr}
theorem pe_cal (c : Cal X.prog X.w X.K X.mg X.base k x ps sp) (hr : Room j X.A) (hx : Passes (L2.CX X.prog X.w) X E) (ha : PA X (e :: es) t) (hg : Gl X x := by rfl) (hj : k ≤ j := by decide)
    (hdb : (x == ("__debug__" : Str)) = false := by decide) (he : starEach (e :: es) X.env = (false, eval e X.env) :: starEach es X.env := by rfl) (hpl : (backTo pos (starEach es X.env)).any (·.1) = false := by rfl) :
    PE X (.Call (.Name x p) (e :: es) [] pos) (tCall sp [] E t) := by
  obtain ⟨f, fd, F, hm, hk, hb⟩ := c.ex
  exact pe_call F (hr.mono hj) hg hm hk hb .nil hx ha hdb he hpl
theorem pe_calM {pl : Sem Bool} (c : CalM X.prog X.w X.K X.mg X.base C k m ps sp) (hr : Room j X.A) (hx : Passes (L2.CX X.prog X.w) X E) (ho : PE X o ta) (ha : PA X (e :: es) t) (hj : k ≤ j := by decide)
    (hc : eval (.Call (.Attribute o m apos) (e :: es) [] pos) X.env = (do
      let ov ← eval o X.env
      standAt apos.atName
      let (f, first) ← holding [ov] (getMethod ov m pl)
      callWith pos f first (backTo pos (starEach (e :: es) X.env)) (backToKw pos (keywordEach [] X.env))) := by rfl)
    (he : starEach (e :: es) X.env = (false, eval e X.env) :: starEach es X.env := by rfl) (hpl : (backTo pos (starEach es X.env)).any (·.1) = false := by rfl) :
    PE X (.Call (.Attribute o m apos) (e :: es) [] pos) (tMeth C m sp [] E ta t) := by
  obtain ⟨f, fd, F, hm, hb⟩ := c.ex
  exact pe_meth ho c.cls hm F (hr.mono hj) hb .nil hx ha he hpl hc
theorem pe_calM0 {pl : Sem Bool} (c : CalM X.prog X.w X.K X.mg X.base C k m ps sp) (hr : Room j X.A) (hx : Passes (L2.CX X.prog X.w) X E) (ho : PE X o ta) (hj : k ≤ j := by decide)
    (hc : eval (.Call (.Attribute o m apos) [] [] pos) X.env = (do
      let ov ← eval o X.env
      standAt apos.atName
      let (f, first) ← holding [ov] (getMethod ov m pl)
      callWith pos f first (backTo pos (starEach [] X.env)) (backToKw pos (keywordEach [] X.env))) := by rfl) :
    PE X (.Call (.Attribute o m apos) [] [] pos) (tMeth C m sp [] E ta tNil) := by
  obtain ⟨f, fd, F, hm, hb⟩ := c.ex
  exact pe_meth0 ho c.cls hm F (hr.mono hj) hb .nil hx hc
theorem pe_calC (c : CalC X.prog X.w X.K X.mg X.base C k x ps sp) (hr : Room j X.A) (hx : Passes (L2.CX X.prog X.w) X E) (ha : PA X (e :: es) t) (hg : Gl X x := by rfl) (hj : k + 1 ≤ j := by decide)
    (hdb : (x == ("__debug__" : Str)) = false := by decide) (he : starEach (e :: es) X.env = (false, eval e X.env) :: starEach es X.env := by rfl) (hpl : (backTo pos (starEach es X.env)).any (·.1) = false := by rfl) :
    PE X (.Call (.Name x p) (e :: es) [] pos) (tMake C sp [] E t) := by
  obtain ⟨f, fd, F, hM, hm, hb⟩ := c.ex
  exact pe_make hM F (hr.mono hj) hg hm hb .nil hx ha hdb he hpl
theorem pe_calG (hG : X.A.guards = some []) (c : CalG X.prog X.w X.K X.mg X.base k x ps sp) (hr : Room j X.A) (hx : Passes (L2.CX X.prog X.w) X E) (ha : PA X (e :: es) t) (hg : Gl X x := by rfl) (hj : k ≤ j := by decide)
    (hdb : (x == ("__debug__" : Str)) = false := by decide) (he : starEach (e :: es) X.env = (false, eval e X.env) :: starEach es X.env := by rfl) (hpl : (backTo pos (starEach es X.env)).any (·.1) = false := by rfl) :
    PE X (.Call (.Name x p) (e :: es) [] pos) (tCall sp [] E t) := by
  obtain ⟨f, fd, F, hm, hk, hb⟩ := c.ex
  refine ⟨fun pins s σ H Q I h => wpAny_Call_Name_kw (ld_glob I hg hm ?_ hdb) ⟩
  refine PySem.W.callWith_K (h₀ := X.base) I.ok.mod.kin hk (thn (ha.run pos pins s σ H _ I h) ?_) he hpl
  rintro us s1 ⟨vs, H1, I1, r, q⟩
  have hq : sp vs H1 Q E := by rw [List.append_nil] at q; exact q
  have hl : us.length = ps.length := by rw [← r.length]; exact F.len _ _ _ _ hq
  have bd := hb s1 us I1.kIn (by rw [List.append_nil]; exact hl)
  rw [List.append_nil] at bd
  refine ⟨I1.kIn, wpAny_call (codeAny_mono (F.run X.A (hr.mono hj) hG X.stack s1 H1 ⟨us, []⟩ us vs Q E I1.env0 bd r hq) ?_)⟩
  rintro (e' | (_ | _ | _ | u)) s' hq'
  · exact hx pins σ H1 s1 e' s' I1 hq'
  · exact False.elim hq'
  · exact False.elim hq'
  · exact False.elim hq'
  · exact I1.after hq'
end

/-! ## the law's own call, where nothing is being shown -/
theorem law_callG {P : Program} {w : World} {K : PySem.W.Frag} {mg mb : Str → Option Value} {CX : CXT} {k : Nat} {fa a : Addr} {fd : FuncData} {x : Str} {sp : Sp} {s₁ : Shared} {vs : List Value} {ns : List Int}
    (KX : K.In s₁.heap) (hns : s₁.heap.Ns mainGlobals mg) (hb : s₁.heap.Ns builtinsNs mb) (hbb : ∀ x : Str, x ≠ "__name__" → mb x = bootBuiltins x) (hlim : s₁.heap.NoLimit) (hg : s₁.gens = #[])
    (ha : s₁.heap.get? a = some { cls := .type "list", data := .seq vs.toArray }) (hi : IntsAre vs ns) (hl : ns.length ≤ sizeLine) (hr : Room k callerA)
    (F : ∀ base : Heap, K.In base → base.Ns mainGlobals mg → FnG P w K mg base CX k fa fd [x] sp) (hbind : ∀ (s : Shared) (u : Value), BindsTo s fd ⟨[u], []⟩ [(x, u)])
    (hsp : ∀ H : Hp, Only H → SqL K H a (ns.map V.int) → sp [.ref a] H (fun v _ => v = .bl true) fun _ _ _ => False)
    (hCX : ∀ H e s', CX [] H s₁ (fun _ _ _ => False) e s' → False) :
    codeAny (model P w) callerA (.call (.ref fa) ⟨[.ref a], []⟩) (fun r s' => r = .ok (.ret (.bool true)) ∧ OldK s₁.heap s'.heap ∧ s'.os = s₁.os ∧ AllBare s'.gens) s₁ := by
  -- whatever is tracked at the start: nothing, or the script alone
  have go : ∀ H : Hp, Only H → SqL K H a (ns.map V.int) → HOk P w H s₁.heap → (∀ b, H b ≠ none → b = a ∧ K.lookup a = none) →
      codeAny (model P w) callerA (.call (.ref fa) ⟨[.ref a], []⟩) (fun r s' => r = .ok (.ret (.bool true)) ∧ OldK s₁.heap s'.heap ∧ s'.os = s₁.os ∧ AllBare s'.gens) s₁ := by
    intro H hO hS hok hA
    have un : ∀ {b : Addr} {o : Obj}, s₁.heap.get? b = some o → b ≠ a → H b = none := fun {b o} _ n => Classical.byContradiction fun z => n (hA b z).1
    have ns' : ∀ {b : Addr} {m : Str → Option Value}, s₁.heap.Ns b m → (hidT s₁.heap H).Ns b m := fun {b m} ⟨o, es, ep, e, d, r⟩ => ⟨o, es, ep, hidT_get e (un e fun z => by
      rw [z, ha] at e
      have e' := Option.some.inj e
      rw [← e'] at d
      cases d), d, r⟩
    have kb : K.In (hidT s₁.heap H) := fun b o e => hidT_get (KX b o e) (Classical.byContradiction fun z => by
      obtain ⟨rfl, q⟩ := hA b z
      rw [q] at e
      cases e)
    have e0 : Env0 P w K mg (hidT s₁.heap H) callerA [] s₁ H :=
      ⟨rfl, ⟨kb, ns' hns, ⟨mb, ns' hb, hbb⟩, hlim.imp fun _ z => ⟨ns' z.1, z.2⟩⟩, fun b o e => of_hidT e, Nat.le_of_eq (hidT_size _ _), trivial, fun b z => absurd (show b ∈ ([] : List Addr) from z) (by simp), hok, .of_eq hg⟩
    refine codeAny_mono ((F _ kb (ns' hns)).run callerA hr rfl [] s₁ H ⟨[.ref a], []⟩ [.ref a] [.ref a] _ _ e0 (hbind s₁ (.ref a)) (.cons rfl .nil) (hsp H hO hS)) ?_
    rintro (e | (_ | _ | _ | u)) s' h
    · exact (hCX H e s' h).elim
    · exact False.elim h
    · exact False.elim h
    · exact False.elim h
    · obtain ⟨v, H', os, bare, un', hok', r', q⟩ := h
      obtain rfl : v = .bl true := q
      obtain rfl : u = Value.bool true := r'
      refine ⟨rfl, OldK.of_keep fun b o e => ?_, os, bare⟩
      rcases hO b with z | ⟨ob, xs, z⟩
      · exact un'.keep b o e z (fun y => absurd (show b ∈ ([] : List Addr) from y) (by simp)) (by simp)
      · have e1 := (hok b _ z).1
        have e2 := (hok' b _ (un'.frzs b ob _ z)).1
        rw [e] at e1
        rw [e1]
        exact e2
  have rv := vals_ints hi
  cases hk : K.lookup a with
  | some o =>
    have e := (KX a o hk).symm.trans ha
    cases e
    exact go (fun _ => none) (fun _ => .inl rfl) (.inr ⟨_, vs.toArray, _, hk, rfl, rfl, rfl, by rw [List.size_toArray, hi.length]; exact hl, by simpa using rv⟩) (fun b u z => nomatch z) fun b z => absurd rfl z
  | none =>
    refine go (fun b => if b = a then some (.frz { cls := .type "list", data := .seq vs.toArray } (.lst (ns.map V.int))) else none) (fun b => ?_) (.inl (.inr ⟨_, if_pos rfl⟩)) (fun b u z => ?_) (fun b z => ?_)
    · by_cases hb : b = a
      · exact .inr ⟨_, _, if_pos hb⟩
      · exact .inl (if_neg hb)
    · by_cases hb : b = a
      · cases (if_pos hb).symm.trans z
        subst hb
        exact ⟨ha, by rw [List.length_map]; exact hl, vs, _, rv, ha⟩
      · cases (if_neg hb).symm.trans z
    · by_cases hb : b = a
      · exact ⟨hb, hk⟩
      · exact absurd (if_neg hb) z
theorem walk_ofG {l : PySem.W.OpenLaw} {n k : Nat} {q : Program} {loose : List Str} {XP : (Str → Option Value) → Heap → Prop} {YP : World → Heap → Prop} {d : DefRec} {K : Params → PySem.W.Frag} {CX : World → CXT} {sp : World → Sp} {x : Str}
    (hn : l.most = some n) (hn2 : n ≤ sizeLine) (hdf : d.params.defaults = []) (hr : Room k callerA)
    (hY : ∀ (w : World) (h : Heap), YP w h → (K w.params).In h)
    (F : ∀ (w : World) (mg : Str → Option Value) (fa : Addr) (h : Heap), (K w.params).In h → h.Ns mainGlobals mg → mg d.name = some (.ref fa) →
      ∃ fd : FuncData, (∀ (s : Shared) (u : Value), BindsTo s fd ⟨[u], []⟩ [(x, u)]) ∧
        ∀ base : Heap, (K w.params).In base → base.Ns mainGlobals mg → FnG l.prog w (K w.params) mg base (CX w) k fa fd [x] (sp w))
    (hsp : ∀ (w : World) (H : Hp) (a : Addr) (ns : List Int), ns.length ≤ n → Only H → SqL (K w.params) H a (ns.map V.int) → sp w [.ref a] H (fun v _ => v = .bl true) fun _ _ _ => False)
    (hCX : ∀ (w : World) (H : Hp) (s : Shared) (e : Value) (s' : Shared), CX w [] H s (fun _ _ _ => False) e s' → False) :
    PySem.W.WalkO q loose XP YP l.row.toRowW d [] (fun f vs => PySem.call f vs) := by
  refine Att.attach_call hn hdf fun w s₀ s₁ mg mb fa o pm cd doc a vs ns G Y ho hd hcd hmg hobj hints hlen hg => ?_
  obtain ⟨fd, hb, hF⟩ := F w mg fa _ (hY w _ Y) G.T.g hmg
  exact law_callG (hY w _ Y) G.T.g G.T.b G.T.builtins G.T.nolimit hg hobj hints (Nat.le_trans hlen hn2) hr hF hb (fun H hO hS => hsp w H a ns hlen hO hS) fun H e s' => hCX w H s₁ e s'
theorem cx_none {P : Program} {w : World} {H : Hp} {s : Shared} {e : Value} {s' : Shared} (h : L2.CX P w [] H s (fun _ _ _ => False) e s') : False := by
  obtain ⟨_, _, _, _, _, _, _, _, _, _, _, _, z⟩ := h
  exact z
section
variable {P : Program} {w : World} {K : PySem.W.Frag} {mg : Str → Option Value} {base : Heap}
theorem _root_.L2.Fun.okG {x qual : Str} {st : Stmt} {f : Addr} {fd : FuncData} {N ps : List Str} {k : Nat} {sp : Sp} (F : Fun K x qual st f fd) (S : FnScope N ps (defScope st)) (len : ∀ vs H Q E, sp vs H Q E → vs.length = ps.length)
    (hb : ∀ (cdv : Value) (A : Around), A.guards = some [] → ∀ (outer : List Env) (s : Shared) (H : Hp) (vs : List V) (Q : VK) (E : XK), Room k (A.deeper (envOfC qual (defScope st) s.heap.objs.size f cdv)) → sp vs H Q E →
      ∃ t, PSs (cxOf (L2.CX P w) P w K mg base N qual (defScope st) f cdv A outer s H E) (defBody st) t ∧ t { nx := fun _ H' => Q .non H', rt := Q } (start N vs) H) : FnG P w K mg base (L2.CX P w) (k + 1) f fd ps sp := by
  obtain ⟨oc, od, kV, doc, pm, an, cdv, ct, osl, rfl, lk, hcd⟩ := F.ex
  exact fnG_of lk hcd S len fun A hG outer s H vs Q E hr hsp => hb cdv A hG outer s H vs Q E hr hsp
end
end Kt
namespace Kt
open PySem PySem.Spec PyProof.Rows L2

/-! ## readings, one step each -/
section
variable {σ : L2.St} {H : Hp} {Q : VK} {D : Ends} {ta tb tc te tl : TE} {tt tu : TT} {t1 t2 : TS} {aa ar : TA} {r r' : R2} {K : PySem.W.Frag} {x y v : V} {i j : Nat}
theorem w_var (h : σ[i]? = some (some v)) (q : Q v H) : tVar i σ H Q := ⟨v, h, q⟩
theorem w_c (q : Q v H) : tC v σ H Q := q
theorem w_op (q : ta σ H fun x H1 => tb σ H1 fun y H2 => r x y H2 Q) : tOp r ta tb σ H Q := q
theorem w_un {r : V → Hp → VK → Prop} (q : ta σ H fun x H1 => r x H1 Q) : tUn r ta σ H Q := q
theorem w_I0 {g : Int → Int → V} {a b : Int} (q : Q (g a b) H) : rI0 g (.int a) (.int b) H Q := ⟨a, b, rfl, rfl, q⟩
theorem w_I {C : Int → Int → Prop} {g : Int → Int → V} {a b : Int} (c : C a b) (q : Q (g a b) H) : rI C g (.int a) (.int b) H Q := ⟨a, b, rfl, rfl, c, q⟩
theorem w_U {g : Int → V} {a : Int} (q : Q (g a) H) : rU g (.int a) H Q := ⟨a, rfl, q⟩
theorem w_eqI {a b : Int} (q : Q (.bl (decide (a = b))) H) : rEq (.int a) (.int b) H Q := ⟨rfl, by
  have e : decide (V.int a = V.int b) = decide (a = b) := by rw [dec_int]; simp [Bool.beq_eq_decide_eq]
  rw [e]; exact q⟩
theorem w_neI {a b : Int} (q : Q (.bl (!decide (a = b))) H) : rNe (.int a) (.int b) H Q := ⟨rfl, by
  have e : decide (V.int a = V.int b) = decide (a = b) := by rw [dec_int]; simp [Bool.beq_eq_decide_eq]
  rw [e]; exact q⟩
theorem w_eqS {a b : Str} (q : Q (.bl (decide (a = b))) H) : rEq (.str a) (.str b) H Q := ⟨rfl, by
  have e : decide (V.str a = V.str b) = decide (a = b) := by rw [dec_str]; simp [Bool.beq_eq_decide_eq]
  rw [e]; exact q⟩
theorem at_nat {α : Type} {xs : List α} {n : Int} {v : α} (hn : 0 ≤ n) (e : xs[n.toNat]? = some v) : atI xs n = some v := by
  have z : ((n.toNat : Nat) : Int) = n := Int.toNat_of_nonneg hn
  rw [← z]
  exact atI_nat e
theorem w_ixL {p : Addr} {xs : List V} {n : Int} (h : H p = some (.lst xs)) (hn : 0 ≤ n) (e : xs[n.toNat]? = some v) (q : Q v H) : rIxL K (.ref p) (.int n) H Q := ⟨p, xs, n, v, rfl, rfl, SqL.of h, at_nat hn e, q⟩
theorem w_ixT {p : Addr} {xs : List V} {n : Int} (h : H p = some (.tup xs)) (hn : 0 ≤ n) (e : xs[n.toNat]? = some v) (q : Q v H) : rIxT K (.ref p) (.int n) H Q := ⟨p, xs, n, v, rfl, rfl, SqT.of h, at_nat hn e, q⟩
theorem w_setL {p : Addr} {xs : List V} {n : Int} {R : Hp → Prop} (h : H p = some (.lst xs)) (hn : 0 ≤ n) (hl : n.toNat < xs.length) (q : R (upd H p (.lst (xs.set n.toNat v)))) : rSetL (.ref p) (.int n) v H R :=
  ⟨p, xs, n, n.toNat, rfl, rfl, h, by unfold ixN; rw [if_pos hn, if_pos (by omega)], q⟩
theorem w_test {Q : Bool → Hp → Prop} (q : te σ H fun x H' => ∃ k, x = .bl k ∧ Q k H') : tTest te σ H Q := q
theorem w_tB {Q : Bool → Hp → Prop} (q : te σ H fun x H' => ∃ k, x = .bl k ∧ Q k H') : tB te σ H Q := q
theorem w_bl {b : Bool} {Q : Bool → Hp → Prop} (q : Q b H) : ∃ k, V.bl b = .bl k ∧ Q k H := ⟨b, rfl, q⟩
theorem w_not {Q : Bool → Hp → Prop} (q : tt σ H fun c H1 => Q (!c) H1) : tNot tt σ H Q := q
theorem w_and {Q : Bool → Hp → Prop} (q : tt σ H fun c H1 => if c = true then tu σ H1 Q else Q false H1) : tAnd tt tu σ H Q := q
theorem w_or {Q : Bool → Hp → Prop} (q : tt σ H fun c H1 => if c = true then Q true H1 else tu σ H1 Q) : tOr tt tu σ H Q := q
theorem w_andV (q : ta σ H fun x H1 => ∃ c, x = .bl c ∧ if c = true then tb σ H1 Q else Q (.bl false) H1) : tAndV ta tb σ H Q := q
theorem w_orV (q : ta σ H fun x H1 => ∃ c, x = .bl c ∧ if c = true then Q (.bl true) H1 else tb σ H1 Q) : tOrV ta tb σ H Q := q
theorem w_notV (q : ta σ H fun x H1 => ∃ c, x = .bl c ∧ Q (.bl (!c)) H1) : tNotV ta σ H Q := q
theorem w_blV {b : Bool} {F : Bool → Prop} (q : F b) : ∃ c, V.bl b = .bl c ∧ F c := ⟨b, rfl, q⟩
theorem w_if (q : tt σ H fun c H1 => if c = true then ta σ H1 Q else tb σ H1 Q) : tIf tt ta tb σ H Q := q
theorem w_ifS (q : tt σ H fun b H1 => if b = true then t1 D σ H1 else t2 D σ H1) : tIfS tt t1 t2 D σ H := q
theorem w_chain (q : ta σ H fun x H1 => tb σ H1 fun y H2 => r x y H2 fun z H3 => ∃ k, z = .bl k ∧ if k = true then tc σ H3 fun w' H4 => r' y w' H4 Q else Q (.bl false) H3) : tChain r r' ta tb tc σ H Q := q
theorem w_seq (q : t1 { D with nx := t2 D } σ H) : tSeq t1 t2 D σ H := q
theorem w_next (q : D.nx σ H) : tNext D σ H := q
theorem w_set (q : te σ H fun x H1 => D.nx (σ.set i (some x)) H1) : tAsg te (gName i) D σ H := q
theorem w_asg {g : TG} (q : te σ H fun x H1 => g x σ H1 D.nx) : tAsg te g D σ H := q
theorem w_gname {R : L2.St → Hp → Prop} (q : R (σ.set i (some v)) H) : gName i v σ H R := q
theorem w_gsub {to ti : TE} {t : TSet} {R : L2.St → Hp → Prop} (q : to σ H fun o H1 => ti σ H1 fun i H2 => t o i v H2 fun H3 => R σ H3) : gSub to ti t v σ H R := q
theorem w_gtup {p : Addr} {xs : List V} {n : Nat} {t : TGs} {R : L2.St → Hp → Prop} (h : H p = some (.tup xs)) (hl : xs.length = n) (q : t xs σ H R) : gTup K n t (.ref p) σ H R := ⟨p, xs, rfl, SqT.of h, hl, q⟩
theorem w_gcons {t : TG} {u : TGs} {vs : List V} {R : L2.St → Hp → Prop} (q : t v σ H fun σ' H' => u vs σ' H' R) : gCons t u (v :: vs) σ H R := ⟨v, vs, rfl, q⟩
theorem w_gnil {R : L2.St → Hp → Prop} (q : R σ H) : gNil [] σ H R := ⟨rfl, q⟩
theorem w_par (q : aa σ H fun vs H1 => ∃ v w, vs = [v, w] ∧ D.nx ((σ.set i (some v)).set j (some w)) H1) : tPar i j aa D σ H := q
theorem w_par2 {u : V} {F : V → V → Prop} (q : F v u) : ∃ a b, [v, u] = [a, b] ∧ F a b := ⟨v, u, rfl, q⟩
theorem w_drop (q : te σ H fun _ H1 => D.nx σ H1) : tDrop te D σ H := q
theorem w_ret (q : te σ H D.rt) : tRet te D σ H := q
theorem w_retN (q : D.rt .non H) : tRetN D σ H := q
theorem w_nil {R : List V → Hp → Prop} (q : R [] H) : tNil σ H R := q
theorem w_cons {R : List V → Hp → Prop} (q : ta σ H fun x H1 => ar σ H1 fun xs H2 => R (x :: xs) H2) : tCons ta ar σ H R := q
theorem w_lst (q : aa σ H fun xs H1 => xs.length ≤ sizeLine ∧ ∀ p, H1 p = none → Q (.ref p) (upd H1 p (.lst xs))) : tLst aa σ H Q := q
theorem w_tup (q : aa σ H fun xs H1 => xs.length ≤ sizeLine ∧ ∀ p, H1 p = none → Q (.ref p) (upd H1 p (.tup xs))) : tTup aa σ H Q := q
theorem w_call {sp : Sp} {dvs : List V} {E : XK} (q : aa σ H fun vs H1 => sp (vs ++ dvs) H1 Q E) : tCall sp dvs E aa σ H Q := q
theorem w_cb {f : List V → Hp → VK → Prop} (q : aa σ H fun vs H1 => f vs H1 Q) : tCB f aa σ H Q := q
theorem w_len {p : Addr} {xs : List V} (h : H p = some (.lst xs)) (q : Q (.int xs.length) H) : (∃ p' ys, [V.ref p] = [.ref p'] ∧ (SqL K H p' ys ∨ SqT K H p' ys) ∧ Q (.int ys.length) H) := ⟨p, xs, rfl, .inl (SqL.of h), q⟩
theorem w_lenT {p : Addr} {xs : List V} (h : H p = some (.tup xs)) (q : Q (.int xs.length) H) : (∃ p' ys, [V.ref p] = [.ref p'] ∧ (SqL K H p' ys ∨ SqT K H p' ys) ∧ Q (.int ys.length) H) := ⟨p, xs, rfl, .inr (SqT.of h), q⟩
theorem w_int2 {a b : Int} {F : Int → Int → Prop} (q : F a b) : ∃ i j, [V.int a, V.int b] = [.int i, .int j] ∧ F i j := ⟨a, b, rfl, q⟩
theorem w_fld {p C dx : Addr} {fs : List (Str × V)} {f : Str} {v : V} (q : ta σ H fun x H1 => ∃ a C dx fs v, x = .ref a ∧ H1 a = some (.ins C dx fs) ∧ Cls K C ∧ NoAttr K C f ∧ fs.lookup f = some v ∧ Q v H1) : tFld K ta f σ H Q := q
theorem w_isN (q : Q (.bl (decide (x = .non))) H) : (y = .non → False) ∨ True → V.non = .non ∧ Q (.bl (decide (x = .non))) H := fun _ => ⟨rfl, q⟩
theorem ifT {c : Prop} [Decidable c] {A B : Prop} (h : c) (q : A) : if decide c = true then A else B := by rw [if_pos (decide_eq_true h)]; exact q
theorem ifF {c : Prop} [Decidable c] {A B : Prop} (h : ¬ c) (q : B) : if decide c = true then A else B := by rw [if_neg (by rw [decide_eq_false h]; decide)]; exact q
theorem if2 {c : Prop} [Decidable c] {A B : Prop} (h1 : c → A) (h2 : ¬ c → B) : if decide c = true then A else B := by
  by_cases h : c
  · exact ifT h (h1 h)
  · exact ifF h (h2 h)
theorem ifNT {c : Prop} [Decidable c] {A B : Prop} (h : ¬ c) (q : A) : if (!decide c) = true then A else B := by rw [decide_eq_false h]; exact iteT q
theorem ifNF {c : Prop} [Decidable c] {A B : Prop} (h : c) (q : B) : if (!decide c) = true then A else B := by rw [decide_eq_true h]; exact iteF q
theorem ifN2 {c : Prop} [Decidable c] {A B : Prop} (h1 : ¬ c → A) (h2 : c → B) : if (!decide c) = true then A else B := by
  by_cases h : c
  · exact ifNF h (h2 h)
  · exact ifNT h (h1 h)
end
theorem iteTn {A B : Prop} (q : A) : if (!false) = true then A else B := q
theorem iteFn {A B : Prop} (q : B) : if (!true) = true then A else B := iteF q
theorem sz (n : Nat) (h : n ≤ 1000 := by decide) : n ≤ sizeLine := Nat.le_trans h (by decide)
theorem szl {n : Nat} (h : n ≤ 1000) : n < sizeLine := Nat.lt_of_le_of_lt h (by decide)
/-! ## the law's box of digits -/
/-- a box at b: its three ints, at most n numbers mixed so far -/
def Bx (H : Hp) (b : Addr) (n : Nat) : Prop := ∃ g m c : Int, H b = some (.lst [.int g, .int m, .int c]) ∧ 0 ≤ g ∧ 0 ≤ m ∧ m < 2147483629 ∧ 0 ≤ c ∧ c ≤ n
/-- all but the box stays -/
structure Ex (b : Addr) (H H' : Hp) : Prop where
  at_ : ∀ a o, a ≠ b → H a = some o → H' a = some o
  tup : ∀ a xs, H a = some (.tup xs) → H' a = some (.tup xs)
def spTake : Sp := fun vs H Q _ => ∃ (b : Addr) (m : Int) (n : Nat), vs = [.ref b, .int m] ∧ Bx H b n ∧ 0 < m ∧ m < 1073741824 ∧ n < 1000000 ∧
  ∀ (r : Int) (H' : Hp), 0 ≤ r → r < m → Ex b H H' → Bx H' b (n + 1) → Q (.int r) H'
theorem Ex.put {H : Hp} {b : Addr} {xs ys : List V} (h : H b = some (.lst xs)) : Ex b H (upd H b (.lst ys)) :=
  ⟨fun a o n e => by rw [upd_ne n]; exact e, fun a zs e => by rw [upd_ne (fun z => by rw [z, h] at e; cases e)]; exact e⟩
end Kt
namespace Kt
open PySem PySem.Spec PyProof.Rows L2

/-! ## data in the heap -/
structure Note where
  s : Int
  e : Int
  p : Int
  deriving DecidableEq
def Note.l (n : Note) : List Int := [n.s, n.e, n.p]
def Note.ok (n : Note) : Prop := 0 ≤ n.s ∧ n.s ≤ n.e ∧ n.e ≤ 9999 ∧ 0 ≤ n.p ∧ n.p ≤ 119
def Note.key (n : Note) : Int := n.s * 1073741824 + (n.e * 32768 + n.p)
def pl (x : Int × Int) : List Int := [x.1, x.2]
def pkey (x : Int × Int) : Int := x.1 * 32768 + x.2
def refs {α : Type} (ks : List (Addr × α)) : List V := ks.map fun k => V.ref k.1
/-- at each address a tuple of ints -/
def Tus {α : Type} (f : α → List Int) (H : Hp) (ks : List (Addr × α)) : Prop := ∀ k ∈ ks, H k.1 = some (.tup ((f k.2).map V.int))
/-- a list of tuples of ints -/
structure TL {α : Type} (f : α → List Int) (H : Hp) (a : Addr) (ks : List (Addr × α)) : Prop where
  lst : H a = some (.lst (refs ks))
  tus : Tus f H ks
abbrev NL (H : Hp) (a : Addr) (ks : List (Addr × Note)) : Prop := TL Note.l H a ks
abbrev vals {α : Type} (ks : List (Addr × α)) : List α := ks.map (·.2)
/-- a part at p whose list is ks -/
def PartAt (C : Addr) (H : Hp) (p : Addr) (ks : List (Addr × Note)) : Prop := ∃ dx l, H p = some (.ins C dx [(("part_notes" : Str), V.ref l)]) ∧ NL H l ks
/-- tuples stay -/
def Tp (H H' : Hp) : Prop := ∀ a xs, H a = some (.tup xs) → H' a = some (.tup xs)
theorem Same.tp {H H' : Hp} (h : Same H H') : Tp H H' := fun a xs e => h a _ e
theorem Ex.tp {b : Addr} {H H' : Hp} (h : Ex b H H') : Tp H H' := h.tup
theorem Same.new {H : Hp} {p : Addr} {o : HO} (h : H p = none) : Same H (upd H p o) := fun b x e => by
  rw [upd_ne (ne_of_none e h)]; exact e
theorem Same.mut {H H' : Hp} {p : Addr} {o : HO} (e : Same H H') (h : H p = none) : Same H (upd H' p o) := fun a u ha => by
  rw [upd_ne (ne_of_none ha h)]; exact e a u ha
section
variable {α : Type} {f : α → List Int} {H H' : Hp} {a b p : Addr} {ks : List (Addr × α)} {o : HO}
theorem Tus.tp (h : Tus f H ks) (t : Tp H H') : Tus f H' ks := fun k hk => t _ _ (h k hk)
theorem Tus.nil : Tus f H ([] : List (Addr × α)) := fun k hk => absurd hk (by simp)
theorem Tus.append {k : Addr × α} (h : Tus f H ks) (hk : H k.1 = some (.tup ((f k.2).map V.int))) : Tus f H (ks ++ [k]) := fun x hx => by
  rcases List.mem_append.mp hx with hx | hx
  · exact h x hx
  · rw [List.mem_singleton.mp hx]; exact hk
theorem refs_append (ks js : List (Addr × α)) : refs (ks ++ js) = refs ks ++ refs js := List.map_append
theorem refs_length (ks : List (Addr × α)) : (refs ks).length = ks.length := List.length_map _
theorem refs_get {i : Nat} {k : Addr × α} (h : ks[i]? = some k) : (refs ks)[i]? = some (V.ref k.1) := by
  show (ks.map _)[i]? = _
  rw [List.getElem?_map, h]; rfl
theorem of_refs {i : Nat} {v : V} (h : (refs ks)[i]? = some v) : ∃ k, ks[i]? = some k ∧ v = .ref k.1 := by
  have h' : (ks.map fun k => V.ref k.1)[i]? = some v := h
  rw [List.getElem?_map] at h'
  cases e : ks[i]? with
  | none => rw [e] at h'; cases h'
  | some k => rw [e] at h'; exact ⟨k, rfl, (Option.some.inj h').symm⟩
theorem TL.same (h : TL f H a ks) (e : Same H H') : TL f H' a ks := ⟨e _ _ h.lst, h.tus.tp (Same.tp e)⟩
theorem refs_box (ks : List (Addr × α)) (g m c : Int) : refs ks ≠ [.int g, .int m, .int c] := by
  cases ks with
  | nil => intro z; cases z
  | cons k r => intro z; cases z
theorem TL.ne {n : Nat} (h : TL f H a ks) (hb : Bx H b n) : a ≠ b := fun z => by
  obtain ⟨g, m, c, e, _⟩ := hb
  have q := h.lst
  rw [z, e] at q
  have q' := HO.lst.inj (Option.some.inj q)
  exact refs_box ks g m c q'.symm
theorem TL.ex {n : Nat} (h : TL f H a ks) (hb : Bx H b n) (e : Ex b H H') : TL f H' a ks := ⟨e.at_ _ _ (h.ne hb) h.lst, h.tus.tp e.tup⟩
theorem PartAt.same {C : Addr} {js : List (Addr × Note)} (h : PartAt C H p js) (e : Same H H') : PartAt C H' p js := by
  obtain ⟨dx, l, h1, h2⟩ := h
  exact ⟨dx, l, e _ _ h1, TL.same h2 e⟩
theorem PartAt.ex {C : Addr} {js : List (Addr × Note)} {n : Nat} (h : PartAt C H p js) (hb : Bx H b n) (e : Ex b H H') : PartAt C H' p js := by
  obtain ⟨dx, l, h1, h2⟩ := h
  refine ⟨dx, l, e.at_ _ _ ?_ h1, TL.ex h2 hb e⟩
  intro z
  obtain ⟨g, m, c, q, _⟩ := hb
  rw [z, q] at h1
  cases h1
theorem Bx.same {n : Nat} (h : Bx H b n) (e : Same H H') : Bx H' b n := by
  obtain ⟨g, m, c, q, r⟩ := h
  exact ⟨g, m, c, e _ _ q, r⟩
theorem Bx.ne {n : Nat} (h : Bx H b n) (hp : H p = none) : p ≠ b := fun z => by
  obtain ⟨g, m, c, q, r⟩ := h
  rw [z, q] at hp
  cases hp
theorem Bx.le {n m : Nat} (h : Bx H b n) (hm : n ≤ m) : Bx H b m := by
  obtain ⟨g, mm, c, q, r1, r2, r3, r4, r5⟩ := h
  exact ⟨g, mm, c, q, r1, r2, r3, r4, by omega⟩
theorem Bx.put {n : Nat} {l : Addr} {o : HO} (h : Bx H b n) (hl : l ≠ b) : Bx (upd H l o) b n := by
  obtain ⟨g, m, c, q, r⟩ := h
  exact ⟨g, m, c, by rw [upd_ne (Ne.symm hl)]; exact q, r⟩
theorem Ex.of (h : Same H H') : Ex b H H' := ⟨fun a o _ e => h a o e, fun a xs e => h a _ e⟩
theorem Ex.refl : Ex b H H := Ex.of (Same.refl H)
theorem Ex.trans {H2 : Hp} (h : Ex b H H') (g : Ex b H' H2) : Ex b H H2 := ⟨fun a o n e => g.at_ a o n (h.at_ a o n e), fun a xs e => g.tup a xs (h.tup a xs e)⟩
theorem Ex.mut {l : Addr} (h : Ex b H H') (hl : H l = none) : Ex b H (upd H' l o) :=
  ⟨fun a u n e => by rw [upd_ne (ne_of_none e hl)]; exact h.at_ a u n e, fun a xs e => by rw [upd_ne (ne_of_none e hl)]; exact h.tup a xs e⟩
/-- fresh ahead of a growth is fresh before (all but the box) -/
theorem Ex.free (h : Ex b H H') {l : Addr} (hn : l ≠ b) (hl : H' l = none) : H l = none := by
  cases e : H l with
  | none => rfl
  | some o => rw [h.at_ l o hn e] at hl; cases hl
end
theorem perm_refs {α : Type} {ys : List V} {zs : List V} (h : ys.Perm zs) : ∀ ks : List (Addr × α), zs = refs ks → ∃ js : List (Addr × α), js.Perm ks ∧ ys = refs js := by
  induction h with
  | nil =>
    intro ks e
    cases ks with
    | nil => exact ⟨[], List.Perm.nil, rfl⟩
    | cons k r => cases e
  | cons x h ih =>
    intro ks e
    cases ks with
    | nil => cases e
    | cons k r =>
      obtain ⟨e1, e2⟩ := List.cons.inj (show _ :: _ = V.ref k.1 :: refs r from e)
      obtain ⟨js, p, q⟩ := ih r e2
      exact ⟨k :: js, p.cons k, by rw [q, e1]; rfl⟩
  | swap x y l =>
    intro ks e
    match ks, e with
    | k :: m :: r, e =>
      obtain ⟨e1, e2⟩ := List.cons.inj (show _ :: _ = V.ref k.1 :: refs (m :: r) from e)
      obtain ⟨e3, e4⟩ := List.cons.inj (show _ :: _ = V.ref m.1 :: refs r from e2)
      exact ⟨m :: k :: r, List.Perm.swap k m r, by rw [e1, e3, e4]; rfl⟩
  | trans _ _ ih1 ih2 =>
    intro ks e
    obtain ⟨js, p, q⟩ := ih2 ks e
    obtain ⟨is, p2, q2⟩ := ih1 js q
    exact ⟨is, p2.trans p, q2⟩

/-! ## sorted -/
section
variable {X : Cx}
/-- sorted of a list of tuples of ints, by a key that orders them as Python does -/
def rSortT {α : Type} (f : α → List Int) (key : α → Int) (good : α → Prop) : List V → Hp → VK → Prop := fun vs H Q => ∃ (a : Addr) (ks : List (Addr × α)), vs = [V.ref a] ∧ TL f H a ks ∧ ks.length < 64 ∧ (∀ k ∈ ks, good k.2) ∧
  ∀ (js : List (Addr × α)) (p : Addr), js.Perm ks → js.Pairwise (fun x y => key x.2 ≤ key y.2) → H p = none → Q (.ref p) (upd H p (.lst (refs js)))
theorem tupI_inj {K : PySem.W.Frag} {H : Hp} {t : Addr} {ns ms : List Int} (h : H t = some (.tup (ns.map V.int))) (hu : TupI K H (.ref t) ms) : SqT K H t (ms.map V.int) := by
  obtain ⟨t', e, q⟩ := hu
  cases e
  exact q
theorem cr_sortOf {α : Type} (f : α → List Int) (key : α → Int) (good : α → Prop) (d : Nat) (hd : 1 ≤ d) (hf : ∀ x, good x → (f x).length = d ∧ TS.Bd 32768 (f x)) (hk : ∀ x, TS.code 32768 (f x) = key x) :
    CallR X (.builtin "sorted") (rSortT f key good) := by
  intro pins s σ H vs us Q I r h
  obtain ⟨a, ks, rfl, hl, h64, hg, q⟩ := h
  refine cr_sortT (d := d) (B := 32768) hd pins s σ H _ us Q I r ⟨a, refs ks, rfl, SqL.of hl.lst, by rw [refs_length]; exact h64, fun x hx => ?_, fun ys p hp hw hn => ?_⟩
  · obtain ⟨k, hk', rfl⟩ := List.mem_map.mp hx
    exact ⟨f k.2, ⟨k.1, rfl, SqT.of (hl.tus k hk')⟩, (hf _ (hg k hk')).1, (hf _ (hg k hk')).2⟩
  · obtain ⟨js, pj, rfl⟩ := perm_refs hp ks rfl
    refine q js p pj ?_ hn
    have hw' : (js.map fun k => V.ref k.1).Pairwise _ := hw
    rw [List.pairwise_map] at hw'
    refine hw'.imp_of_mem fun {x y} hx hy z => ?_
    have z' := z (f x.2) (f y.2) ⟨x.1, rfl, SqT.of (hl.tus x (pj.mem_iff.mp hx))⟩ ⟨y.1, rfl, SqT.of (hl.tus y (pj.mem_iff.mp hy))⟩
    rw [hk, hk] at z'
    exact z'
end

theorem bd3 {n : Note} (h : n.ok) : (n.l).length = 3 ∧ TS.Bd 32768 n.l := ⟨rfl, fun m hm => by
  obtain ⟨h1, h2, h3, h4, h5⟩ := h
  simp only [Note.l, List.mem_cons, List.not_mem_nil, or_false] at hm
  omega⟩
theorem key3 (n : Note) : TS.code 32768 n.l = n.key := by
  simp only [Note.l, TS.code, Note.key, List.length_cons, List.length_nil]
  omega
def pok (x : Int × Int) : Prop := 0 ≤ x.1 ∧ x.1 < 32768 ∧ 0 ≤ x.2 ∧ x.2 < 32768
theorem bd2 {x : Int × Int} (h : pok x) : (pl x).length = 2 ∧ TS.Bd 32768 (pl x) := ⟨rfl, fun m hm => by
  obtain ⟨h1, h2, h3, h4⟩ := h
  simp only [pl, List.mem_cons, List.not_mem_nil, or_false] at hm
  omega⟩
theorem key2 (x : Int × Int) : TS.code 32768 (pl x) = pkey x := by
  simp only [pl, TS.code, pkey, List.length_cons, List.length_nil]
  omega
abbrev rSort3 : List V → Hp → VK → Prop := rSortT Note.l Note.key Note.ok
abbrev rSort2 : List V → Hp → VK → Prop := rSortT pl pkey pok
theorem cr_sort3 {X : Cx} : CallR X (.builtin "sorted") rSort3 := cr_sortOf Note.l Note.key Note.ok 3 (by decide) (fun _ h => bd3 h) key3
theorem cr_sort2 {X : Cx} : CallR X (.builtin "sorted") rSort2 := cr_sortOf pl pkey pok 2 (by decide) (fun _ h => bd2 h) key2

/-! ## texts of data -/
/-- what may be compared and shown -/
structure Fine (d : PyData) : Prop where
  lay : d.canLay0 = true
  dep : d.depth ≤ 8
  show_ : d.showable = true
  len : d.shown.length ≤ sizeLine
theorem Fine.shaped {d : PyData} (h : Fine d) : SeqAt.shaped d = true := by
  unfold SeqAt.shaped
  rw [h.lay, decide_eq_true (show d.depth ≤ 64 by have := h.dep; omega)] <;> rfl
theorem Fine.nodict {d : PyData} (h : Fine d) : d.hasDict = false := PyData.hasDict_of_canLay d h.lay
def rRepr (K : PySem.W.Frag) : List V → Hp → VK → Prop := fun vs H Q => ∃ x d, vs = [x] ∧ Dp K H x d ∧ Fine d ∧ Q (.str d.shown) H
theorem call_repr {X : Cx} {k : Nat} (hG : X.A.guards = some []) (hr : Room k X.A) : CallR X (.builtin "repr") (rRepr X.K) := by
  intro pins s σ H vs us Q I r h
  obtain ⟨x, d, rfl, hd, hf, q⟩ := h
  obtain ⟨u, rfl, ru⟩ := vals1 r
  cases hd with
  | non =>
    cases (show u = Value.none from ru)
    exact PySem.P.repr_of_none ⟨.str _, H, I.tok _, ⟨_, rfl⟩, q⟩
  | bl b =>
    cases (show u = Value.bool b from ru)
    exact PySem.P.repr_of_bool ⟨.str _, H, I.tok _, ⟨_, rfl⟩, q⟩
  | int i =>
    obtain ⟨t, e⟩ := (show ∃ t, u = Value.int i t from ru)
    subst e
    exact PySem.P.repr_of_int (by have := hf.show_; simpa [PyData.showable] using this) ⟨.str _, H, I.tok _, ⟨_, rfl⟩, q⟩
  | str y =>
    obtain ⟨t, e⟩ := (show ∃ t, u = Value.str y t from ru)
    subst e
    exact PySem.P.repr_of_str ⟨.str _, H, I.tok _, ⟨_, rfl⟩, q⟩ (by have := hf.len; simpa [PyData.shown] using this)
  | lst hs ha =>
    obtain ⟨as, rd⟩ := Dp.reads I _ _ _ (Dp.lst hs ha) ru
    cases (show u = Value.ref _ from ru)
    exact repr_of_reads' rd hf.show_ (fun z => by rw [hf.nodict] at z; cases z) hG (by have := hr.un; have := hf.dep; omega) (fun _ _ e => e) (fun h' u' tk k' => ⟨.str _, H, I.kept k', ⟨_, rfl⟩, q⟩) hf.len
  | tup hs ha =>
    obtain ⟨as, rd⟩ := Dp.reads I _ _ _ (Dp.tup hs ha) ru
    cases (show u = Value.ref _ from ru)
    exact repr_of_reads' rd hf.show_ (fun z => by rw [hf.nodict] at z; cases z) hG (by have := hr.un; have := hf.dep; omega) (fun _ _ e => e) (fun h' u' tk k' => ⟨.str _, H, I.kept k', ⟨_, rfl⟩, q⟩) hf.len
end Kt
namespace Kt
open PySem PySem.Spec PyProof.Rows L2

/-! ## max of a list of ints, with a default -/
section
variable {prog : Program} {w : World} {A : Around} {R : Result → Shared → Prop} {I : Addr} {fp wr : List Addr} {n : Nat} {P : Nat → Value → Prop} {St : Nat → Heap → Prop}
/-- the best so far, among the first j -/
def Bst (P : Nat → Value → Prop) (bt : Nat → Nat → Bool) (j : Nat) (its : Array Value) : Prop := (j = 0 ∧ its = #[]) ∨ ∃ v, 0 < j ∧ its = #[v, v] ∧ P (argBest bt (j - 1)) v
theorem maxD_loop (W : Walks prog w A.in1 I fp wr n P St) (bt : Nat → Nat → Bool) (hcmp : CmpOf prog w A.in1 .Gt P bt) (S : Addr) (hSf : S ∉ fp) (d : Value) :
    ∀ (k j : Nat) (s : Shared) (its : Array Value) (c : Nat), n - j = k → j ≤ n → St j s.heap → Bst P bt j its →
    s.heap.get? S = some { cls := .type "list", dict := none, data := .seq its c, slots := #[] } →
    (∀ v h' tk, ((n = 0 ∧ v = d) ∨ (0 < n ∧ P (argBest bt (n - 1)) v)) → (∀ b o, b ∉ wr → b ≠ S → s.heap.get? b = some o → h'.get? b = some o) → R (.ok (.ret v)) { s with heap := h', toks := tk }) →
    codeAny (model prog w) A (.builtin "max.loop" ⟨[.ref I, .none, .ref S], [(Str.ofString "default", d)]⟩) R s := by
  have hSw : S ∉ wr := fun h => hSf (W.sub _ h)
  have hname : (toString "max" ++ toString ".loop" : String) = "max.loop" := by decide
  intro k
  induction k with
  | zero =>
    intro j s its c hk hj hst hB hS hR
    have hin : j = n := by omega
    refine codeAny_builtin PySem.F.entry_max_loop ?_
    rw [Around.under_plainId PySem.F.plain_max_loop _]
    show wpAny _ A.in1 (seqItems? (.ref S) >>= _) _ _ s
    refine wpAny_bind (wpAny_seqItems hS rfl ?_)
    show wpAny _ A.in1 (tryCatch (pyNext (.ref I)) _ >>= _) _ _ s
    refine wpAny_bind (wpAny_tryCatch (W.done s _ _ (hin ▸ hst) fun h' tk hk' => ?_))
    have hS' := hk' S _ hSw hS
    rcases hB with ⟨j0, rfl⟩ | ⟨v, j0, rfl, hp⟩
    · show wpAny _ A.in1 (rule _ >>= fun _ => ret d) _ _ _
      refine wpAny_bind (wpAny_rule (wpAny_pure ?_))
      exact hR d h' tk (.inl ⟨by omega, rfl⟩) fun b o hbw hbS e => hk' b o hbw e
    · show wpAny _ A.in1 (updateSeq S (fun _ => #[]) >>= _) _ _ _
      refine wpAny_bind (wpAny_updateSeq hS' rfl (wpAny_bind (wpAny_letGo (wpAny_pure ?_))))
      exact hR v _ tk (.inr ⟨by omega, by rw [← hin]; exact hp⟩) fun b o hbw hbS e => (Heap.get?_update_other _ _ (Ne.symm hbS)).trans (hk' b o hbw e)
  | succ k ih =>
    intro j s its c hk hj hst hB hS hR
    have hlt : j < n := by omega
    refine codeAny_builtin PySem.F.entry_max_loop ?_
    rw [Around.under_plainId PySem.F.plain_max_loop _]
    show wpAny _ A.in1 (seqItems? (.ref S) >>= _) _ _ s
    refine wpAny_bind (wpAny_seqItems hS rfl ?_)
    show wpAny _ A.in1 (tryCatch (pyNext (.ref I)) _ >>= _) _ _ s
    refine wpAny_bind (wpAny_tryCatch (W.item j s _ _ hlt hst fun v h' tk hP hst' hk' => ?_))
    have hS' := hk' S _ hSw hS
    have old : ∀ {h2 : Heap} {b : Addr} {o : Obj}, b ≠ S → (h2.get? b = h'.get? b) → h'.get? b = some o → h2.get? b = some o := fun _ e1 e2 => e1.trans e2
    -- the next turn, with a new best or the old one
    have turn : ∀ (s2 : Shared) (its' : Array Value), s2.os = s.os → s2.gens = s.gens → s2.drawn = s.drawn → Bst P bt (j + 1) its' → (∃ c', s2.heap.get? S = some { cls := .type "list", dict := none, data := .seq its' c', slots := #[] }) →
        (∀ b, b ≠ S → s2.heap.get? b = h'.get? b) → codeAny (model prog w) A (.builtin "max.loop" ⟨[.ref I, .none, .ref S], [(Str.ofString "default", d)]⟩) R s2 := by
      intro s2 its' e1 e2 e3 hB' ⟨c', hS2⟩ hsame
      obtain ⟨hp2, g2, d2, t2, o2⟩ := s2
      obtain ⟨hp, g, dr, t, o⟩ := s
      simp only at e1 e2 e3
      subst e1 e2 e3
      refine ih (j + 1) _ its' c' (by omega) (by omega) (W.frame _ _ _ hst' fun b hbf o e => (hsame b (fun z => hSf (z ▸ hbf))).trans e) hB' hS2 fun v' h'' tk'' hP' hk'' => ?_
      exact hR v' h'' tk'' hP' fun b o hbw hbS e => hk'' b o hbw hbS ((hsame b hbS).trans (hk' b o hbw e))
    rcases hB with ⟨j0, rfl⟩ | ⟨vb, j0, rfl, hPb⟩
    · show wpAny _ A.in1 (updateSeq S (fun _ => #[v, v]) >>= _) _ _ _
      refine wpAny_bind (wpAny_updateSeq hS' rfl ?_)
      rw [hname]
      refine wpAny_pure ⟨plainId_quiet PySem.F.plain_max_loop _, turn _ #[v, v] rfl rfl rfl (.inr ⟨v, by omega, rfl, ?_⟩) ⟨_, Heap.get?_update_self _ hS' rfl⟩ fun b hb => Heap.get?_update_other _ _ (Ne.symm hb)⟩
      rw [Nat.add_sub_cancel, j0]
      rw [j0] at hP
      exact hP
    · show wpAny _ A.in1 (tryCatch (holding [v, v] (richCompare .Gt v vb >>= _)) _ >>= _) _ _ _
      refine wpAny_bind (wpAny_tryCatch (wpAny_holding (wpAny_bind (hcmp j (argBest bt (j - 1)) v vb _ _ _ hP hPb ?_))))
      refine wpAny_bind (wpAny_holding (wpAny_truthy_bool ?_))
      refine wpAny_bind (wpAny_letGo (wpAny_pure ?_))
      obtain ⟨i, rfl⟩ : ∃ i, j = i + 1 := ⟨j - 1, by omega⟩
      rw [Nat.add_sub_cancel] at hPb ⊢
      cases hb : bt (i + 1) (argBest bt i) with
      | true =>
        simp only [if_true]
        refine wpAny_bind (wpAny_updateSeq hS' rfl (wpAny_bind (wpAny_letGo ?_)))
        rw [hname]
        exact wpAny_pure ⟨plainId_quiet PySem.F.plain_max_loop _, turn _ #[v, v] rfl rfl rfl (.inr ⟨v, by omega, rfl, by rw [Nat.add_sub_cancel]; simp only [argBest, hb, if_true]; exact hP⟩) ⟨_, Heap.get?_update_self _ hS' rfl⟩ fun b hb => Heap.get?_update_other _ _ (Ne.symm hb)⟩
      | false =>
        simp only [Bool.false_eq_true, if_false]
        refine wpAny_bind (wpAny_letGo ?_)
        rw [hname]
        exact wpAny_pure ⟨plainId_quiet PySem.F.plain_max_loop _, turn _ #[vb, vb] rfl rfl rfl (.inr ⟨vb, by omega, rfl, by rw [Nat.add_sub_cancel]; simp only [argBest, hb, Bool.false_eq_true, if_false]; exact hPb⟩) ⟨_, hS'⟩ fun b _ => rfl⟩
end
theorem argsD (a d : Value) : argsOk "max" ⟨[a], [(Str.ofString "default", d)]⟩ := by unfold argsOk; kernel_rfl
theorem bindD (d : Value) : Builtin.Builtins.bindParams "max" ["key", "default"] 0 ⟨[], [(Str.ofString "default", d)]⟩ = pure [none, some d] := by kernel_rfl
section
variable {prog : Program} {w : World} {A : Around} {E : Value → Shared → Prop} {s : Shared}
theorem maxD_raw {l : Addr} {its : List Value} {ns : List Int} {d : Value} {Q : Value → Shared → Prop} (hh : A.handled = none) (hl : s.heap.IsList l its.toArray) (hi : IntsAre its ns)
    (h : ∀ v h' tk, (∀ b o, s.heap.get? b = some o → h'.get? b = some o) → ((ns = [] ∧ v = d) ∨ ∃ M t, v = .int M t ∧ M ∈ ns ∧ ∀ a, a ∈ ns → a ≤ M) → Q v { s with heap := h', toks := tk }) :
    wpAny (model prog w) A (call (.builtin "max") [.ref l] [(Str.ofString "default", d)]) Q E s := by
  have hname : (toString "max" ++ toString ".loop" : String) = "max.loop" := by decide
  obtain ⟨xs, e⟩ := hi.allInts.items
  have hn : numsOf (intItems xs).toList = ns := by rw [← e]; exact hi.numsOf
  rw [nums_intItems] at hn
  subst hn
  rw [e] at hl
  refine PyProof.Rows.kmk_tree PySem.F.kind_max PySem.F.plain_max PySem.F.entry_max (argsD _ _) ?_
  show wpAny _ A.in1 (Builtin.Builtins.bindParams "max" ["key", "default"] 0 ⟨[], [(Str.ofString "default", d)]⟩ >>= _) _ _ s
  refine wpAny_bind (wpAny_of_eq (bindD d) ?_)
  refine wpAny_bind (wpAny_pure (wpAny_bind (iter_intList hl fun s₂ es st hfp hlI => ?_)))
  subst es
  refine wpAny_bind (wpAny_newObj_type ?_)
  rw [hname]
  refine wpAny_pure ⟨plainId_quiet PySem.F.plain_max_loop _, ?_⟩
  have W := Walks.list (prog := prog) (w := w) (A := A.in1) hh s.heap.objs.size l hlI (intItems xs)
  refine maxD_loop W (fun i j => decide (numAt xs i > numAt xs j)) (CmpOf.ints_gt (numAt xs) (fun _ _ => intItems_at)) _ (fun hm => Nat.lt_irrefl _ (hfp _ hm)) d _ 0 _ #[] _ rfl (Nat.zero_le _) (W.frame _ _ _ st fun b _ o e => Heap.get?_push_of_some _ e) (.inl ⟨rfl, rfl⟩) (Heap.get?_push_size _ rfl) fun v h' tk hv hk => ?_
  have lt := fun {b : Addr} {o : Obj} (e : s.heap.get? b = some o) => Heap.lt_size e
  have k0 : ∀ b o, s.heap.get? b = some o → h'.get? b = some o := fun b o e =>
    hk b o (fun z => Nat.lt_irrefl _ ((List.mem_singleton.mp z) ▸ lt e)) (fun z => by
      have l1 := lt e
      rw [z] at l1
      exact absurd (Nat.lt_of_lt_of_le l1 (by rw [Heap.size_push]; exact Nat.le_succ _)) (Nat.lt_irrefl _)) (Heap.get?_push_of_some _ (Heap.get?_push_of_some _ e))
  have hz : (intItems xs).size = xs.size := by simp [intItems]
  rcases hv with ⟨h0, rfl⟩ | ⟨h0, hp⟩
  · exact h _ _ _ k0 (.inl ⟨by
      have : xs.size = 0 := by omega
      have e2 : xs = #[] := Array.eq_empty_of_size_eq_zero this
      rw [e2]
      rfl, rfl⟩)
  · have hp' : (intItems xs)[argBest (fun i j => decide (numAt xs i > numAt xs j)) (xs.size - 1)]? = some v := by rw [hz] at hp; exact hp
    obtain ⟨t, rfl⟩ := intItems_at hp'
    obtain ⟨h1, h2⟩ := argBest_gt (numAt xs) (xs.size - 1)
    refine h _ _ _ k0 (.inr ⟨_, t, rfl, ?_, fun a ha => ?_⟩)
    · rw [numAt_eq]
      exact PySem.getD_mem (by rw [List.length_map, Array.length_toList]; omega)
    · obtain ⟨j, hj, rfl⟩ := mem_getD ha
      rw [List.length_map, Array.length_toList] at hj
      rw [← numAt_eq]
      exact h2 j (by omega)
end
/-- max(xs, default=d), xs a list of ints, d an int -/
def rMaxD : List V → List V → Hp → VK → Prop := fun vs zs H Q => ∃ (a : Addr) (ns : List Int) (d : Int), vs = [V.ref a] ∧ zs = [V.int d] ∧ H a = some (.lst (ns.map V.int)) ∧
  ∀ m, ((ns = [] ∧ m = d) ∨ (m ∈ ns ∧ ∀ x, x ∈ ns → x ≤ m)) → Q (.int m) H
theorem cr_maxD {X : Cx} (hc : X.calm = true) : CallRK X (.builtin "max") [Str.ofString "default"] rMaxD := by
  intro pins s σ H xs zs us ws Q I r rz h
  obtain ⟨a, ns, d, rfl, rfl, hs, q⟩ := h
  obtain ⟨its, rv, hl, hz⟩ := I.list (SqL.of hs)
  obtain ⟨u, rfl, ru⟩ := vals1 r
  obtain ⟨w', rfl, rw'⟩ := vals1 rz
  cases (show u = Value.ref a from ru)
  obtain ⟨t, rfl⟩ := (show ∃ t, w' = Value.int d t from rw')
  refine maxD_raw (I.ok.hd hc) (PlainL.isList hl) (Vals.ints rv) fun v h' tk k hv => ?_
  rcases hv with ⟨e, rfl⟩ | ⟨M, t', rfl, h1, h2⟩
  · exact ⟨.int d, H, I.kept k, ⟨_, rfl⟩, q d (.inl ⟨e, rfl⟩)⟩
  · exact ⟨.int M, H, I.kept k, ⟨_, rfl⟩, q M (.inr ⟨h1, h2⟩)⟩
end Kt
namespace Kt
open PySem PySem.Spec PyProof.Rows L2
/-! ## more steps: walks, comprehensions, dicts, fields -/
section
variable {σ : L2.St} {H : Hp} {Q : VK} {D : Ends} {ta tb tc te tl : TE} {tt tu : TT} {t1 t2 : TS} {aa ar : TA} {K : PySem.W.Frag} {x y v : V} {i j : Nat}
theorem w_for {wi : TI} {g : TG} (q : wi σ H fun J H1 => ∃ W : Nat → Nat → L2.St → Hp → Prop, (∃ m, W 0 m σ H1) ∧ ∀ i m σ H, W i m σ H →
  (J.stop i H ∧ D.nx σ H) ∨ (J.go i H ∧ ∃ N : L2.St → Hp → Prop, (∀ σ' H', N σ' H' → ∃ m', m' < m ∧ W (i + 1) m' σ' H') ∧ ∀ x H', J.yld i H x H' → g x σ H' fun σ2 H2 => t1 { D with nx := N, ct := N, bk := D.nx } σ2 H2)) : tFor wi g t1 D σ H := q
theorem w_iList {R : It → Hp → Prop} (q : tl σ H fun x H1 => ∃ a, x = .ref a ∧ (∃ xs, SqL K H1 a xs) ∧ R (Itl K a) H1) : iList K tl σ H R := q
theorem w_iTup {R : It → Hp → Prop} (q : tl σ H fun x H1 => ∃ a, x = .ref a ∧ (∃ xs, SqT K H1 a xs) ∧ R (Itt K a) H1) : iTup K tl σ H R := q
theorem w_iRng1 {R : It → Hp → Prop} (q : aa σ H fun vs H1 => ∃ j : Int, vs = [.int j] ∧ -(2 ^ 62) ≤ j ∧ j < 2 ^ 62 ∧ R (Itr 0 j.toNat) H1) : iRng1 aa σ H R := q
theorem w_iRng2 {R : It → Hp → Prop} (q : aa σ H fun vs H1 => ∃ i j : Int, vs = [.int i, .int j] ∧ (-(2 ^ 62) ≤ i ∧ i < 2 ^ 62 ∧ -(2 ^ 62) ≤ j ∧ j < 2 ^ 62) ∧ R (Itr i (j - i).toNat) H1) : iRng2 aa σ H R := q
theorem w_iEnum {R : It → Hp → Prop} (q : aa σ H fun vs H1 => ∃ a xs, vs = [.ref a] ∧ SqL K H1 a xs ∧ R (Ite K a) H1) : iEnum K aa σ H R := q
theorem w_lc {wi : TI} {g : TG} {vs : List Nat} (q : wi σ H fun J H1 => ∀ D, H1 D = none → ∃ W : Nat → Nat → Hp → Prop, (∃ m, W 0 m (upd H1 D (.lst []))) ∧ ∀ i m H, W i m H →
  (J.stop i H ∧ Q (.ref D) H) ∨ (J.go i H ∧ ∃ Nx : Hp → Prop, (∀ H', Nx H' → ∃ m', m' < m ∧ W (i + 1) m' H') ∧ ∀ x H', J.yld i H x H' → g x (wipe σ vs) H' fun σ2 H2 => wipe σ2 vs = wipe σ vs ∧ tt σ2 H2 fun b H3 =>
    if b = true then te σ2 H3 fun y H4 => ∃ acc, H4 D = some (.lst acc) ∧ acc.length < sizeLine ∧ Nx (upd H4 D (.lst (acc ++ [y]))) else Nx H3)) : tLc wi g tt te vs σ H Q := q
theorem w_fldI {p C dx : Addr} {f : Str} (h : H p = some (.ins C dx [(f, v)])) (c : Cls K C) (n : NoAttr K C f) (q : Q v H) : (∃ a C dx fs v, V.ref p = .ref a ∧ H a = some (.ins C dx fs) ∧ Cls K C ∧ NoAttr K C f ∧ fs.lookup f = some v ∧ Q v H) :=
  ⟨p, C, dx, _, v, rfl, h, c, n, by simp [List.lookup], q⟩
theorem w_fld0 {f : Str} (q : ta σ H fun x H1 => ∃ a C dx fs v, x = .ref a ∧ H1 a = some (.ins C dx fs) ∧ Cls K C ∧ NoAttr K C f ∧ fs.lookup f = some v ∧ Q v H1) : tFld K ta f σ H Q := q
/-- a turn over enumerate: the pair as a new tuple -/
theorem for_enum {a : Addr} {xs : List V} {g : TG} {tb : TS} (Pv : Nat → L2.St → Hp → Prop) (h0 : Pv 0 σ H) (hl : ∀ i σ H, i ≤ xs.length → Pv i σ H → SqL K H a xs)
    (hs : ∀ (i : Nat) x T σ H, xs[i]? = some x → Pv i σ H → H T = none → g (.ref T) σ (upd H T (.tup [.int (i : Nat), x])) fun σ2 H2 => tb { D with nx := Pv (i + 1), ct := Pv (i + 1), bk := D.nx } σ2 H2) (hd : ∀ σ H, Pv xs.length σ H → D.nx σ H) :
    ∃ W : Nat → Nat → L2.St → Hp → Prop, (∃ m, W 0 m σ H) ∧ ∀ i m σ H, W i m σ H →
      ((Ite K a).stop i H ∧ D.nx σ H) ∨ ((Ite K a).go i H ∧ ∃ N : L2.St → Hp → Prop, (∀ σ' H', N σ' H' → ∃ m', m' < m ∧ W (i + 1) m' σ' H') ∧ ∀ v H', (Ite K a).yld i H v H' → g v σ H' fun σ2 H2 => tb { D with nx := N, ct := N, bk := D.nx } σ2 H2) := by
  refine ⟨fun i m σ H => m = xs.length - i ∧ i ≤ xs.length ∧ Pv i σ H, ⟨xs.length, rfl, Nat.zero_le _, h0⟩, ?_⟩
  rintro i m σ H ⟨rfl, hi, p⟩
  have hq := hl i σ H hi p
  by_cases hlt : i < xs.length
  · refine .inr ⟨⟨xs, xs[i], hq, List.getElem?_eq_getElem hlt⟩, Pv (i + 1), fun σ' H' p' => ⟨xs.length - (i + 1), by omega, rfl, hlt, p'⟩, ?_⟩
    rintro v H' ⟨T, x, rfl, hT, rfl, hx⟩
    exact hs i x T σ H (hx xs hq) p hT
  · refine .inl ⟨⟨xs, hq, by omega⟩, hd σ H ?_⟩
    rw [show xs.length = i by omega]
    exact p
/-- a comprehension over the values of a dict that stands locked -/
theorem lc_vals {d : Addr} {od : Obj} {kvs : List (Key × V)} {g : TG} {vs : List Nat} {H1 : Hp} {L : Addr} {Qd : Hp → Prop} (Pv : Nat → Hp → Prop) (h0 : Pv 0 (upd H1 L (.lst []))) (hl : ∀ i H, i ≤ kvs.length → Pv i H → H d = some (.frz od (.dK kvs)))
    (hs : ∀ i k x H, kvs[i]? = some (k, x) → Pv i H → g x (wipe σ vs) H fun σ2 H2 => wipe σ2 vs = wipe σ vs ∧ tt σ2 H2 fun b H3 =>
      if b = true then te σ2 H3 fun y H4 => ∃ acc, H4 L = some (.lst acc) ∧ acc.length < sizeLine ∧ Pv (i + 1) (upd H4 L (.lst (acc ++ [y]))) else Pv (i + 1) H3) (hd : ∀ H, Pv kvs.length H → Qd H) :
    ∃ W : Nat → Nat → Hp → Prop, (∃ m, W 0 m (upd H1 L (.lst []))) ∧ ∀ i m H, W i m H →
      ((Itd d od kvs).stop i H ∧ Qd H) ∨ ((Itd d od kvs).go i H ∧ ∃ Nx : Hp → Prop, (∀ H', Nx H' → ∃ m', m' < m ∧ W (i + 1) m' H') ∧ ∀ x H', (Itd d od kvs).yld i H x H' → g x (wipe σ vs) H' fun σ2 H2 => wipe σ2 vs = wipe σ vs ∧ tt σ2 H2 fun b H3 =>
        if b = true then te σ2 H3 fun y H4 => ∃ acc, H4 L = some (.lst acc) ∧ acc.length < sizeLine ∧ Nx (upd H4 L (.lst (acc ++ [y]))) else Nx H3) := by
  refine ⟨fun i m H => m = kvs.length - i ∧ i ≤ kvs.length ∧ Pv i H, ⟨kvs.length, rfl, Nat.zero_le _, h0⟩, ?_⟩
  rintro i m H ⟨rfl, hi, p⟩
  have hq := hl i H hi p
  by_cases hlt : i < kvs.length
  · refine .inr ⟨⟨hq, hlt⟩, Pv (i + 1), fun H' p' => ⟨kvs.length - (i + 1), by omega, rfl, hlt, p'⟩, ?_⟩
    rintro x H' ⟨rfl, k, hk⟩
    exact hs i k x _ hk p
  · refine .inl ⟨⟨hq, by omega⟩, hd H ?_⟩
    rw [show kvs.length = i by omega]
    exact p
end
/-- a module's int -/
theorem pe_globI {X : Cx} {x : Str} {n : Int} {pos : Pos} (hg : Gl X x) (hm : ∃ t, X.mg x = some (.int n t)) (hd : (x == ("__debug__" : Str)) = false := by decide) : PE X (.Name x pos) (tC (.int n)) := by
  obtain ⟨t, hm⟩ := hm
  exact pe_glob hg hm ⟨t, rfl⟩ hd
/-- what isinstance wants to know of an own class -/
structure ClsF (K : PySem.W.Frag) (C : Addr) : Prop where
  cl : Cls K C
  ha : PySem.W.findIn K (.ref C) "__class__" = some (some (.builtin "object.__class__"))
  hn : PySem.W.specialIn K (.builtin "object.__class__") "__get__" = some (some (.builtin "getset_descriptor.__get__"))
  ht : PySem.W.takesIn K (.builtin "object.__class__") = some true
  hm : PySem.W.mroIn K C (.type "object") = some true
  self : PySem.W.kitOne K (.ref C) (.ref C) = some true
  noint : PySem.W.kitOne K (.ref C) (.type "int") = some false
theorem ClsF.ty {K : PySem.W.Frag} {C : Addr} (c : ClsF K C) {H : Hp} {a dx : Addr} {fs : List (Str × V)} (h : H a = some (.ins C dx fs)) : TyX K H (.ref a) (.ref C) := .base (.ins h c.cl c.ha c.hn c.ht c.hm)
section
variable {K : PySem.W.Frag} {H : Hp} {Q : VK} {x : V}
theorem w_isi {t u : Value} {c : V} {b : Bool} (hc : ClsV c u) (ht : TyX K H x t) (e : PySem.W.kitOne K t u = some b) (q : Q (.bl b) H) : rIsi K [x, c] H Q := ⟨x, c, t, u, b, rfl, hc, ht, e, q⟩
theorem w_isiT {t : Value} {us : List Value} {cs : List V} {p : Addr} {b : Bool} (hp : H p = some (.tup cs)) (hc : Paired ClsV cs us) (ht : TyX K H x t) (e : PySem.W.kitAny K t us = some b) (q : Q (.bl b) H) : rIsiT K [x, .ref p] H Q := ⟨x, p, cs, t, us, b, rfl, hp, hc, ht, e, q⟩
theorem kit_int_int : PySem.W.kitOne K (.type "int") (.type "int") = some true := kit_ty (by decide +kernel)
theorem kit_int_bool : PySem.W.kitOne K (.type "int") (.type "bool") = some false := kit_ty (by decide +kernel)
theorem kit_bool_int : PySem.W.kitOne K (.type "bool") (.type "int") = some true := kit_ty (by decide +kernel)
theorem kit_bool_bool : PySem.W.kitOne K (.type "bool") (.type "bool") = some true := kit_ty (by decide +kernel)
theorem kit_tuple_tuple : PySem.W.kitOne K (.type "tuple") (.type "tuple") = some true := kit_ty (by decide +kernel)
theorem kit_list_lt : PySem.W.kitAny K (.type "list") [.type "list", .type "tuple"] = some true := kitAny_cons (b := true) (kit_ty (by decide +kernel)) (fun z => nomatch z) fun _ => rfl
theorem kit_tuple_lt : PySem.W.kitAny K (.type "tuple") [.type "list", .type "tuple"] = some true := kitAny_cons (b := false) (kit_ty (by decide +kernel)) (fun _ => kitAny_cons (b := true) (kit_ty (by decide +kernel)) (fun z => nomatch z) fun _ => rfl) fun z => nomatch z
end
end Kt
namespace Kt
open PySem PySem.Spec PyProof.Rows L2
/-- notes that a part may have: each a note, none of one pitch at the same moment -/
structure GoodL (ns : List Note) : Prop where
  ok : ∀ n ∈ ns, n.ok
  apart : ns.Pairwise fun n m => n.p = m.p → n.e < m.s ∨ m.e < n.s
theorem GoodL.perm {ns ms : List Note} (h : GoodL ns) (p : ms.Perm ns) : GoodL ms :=
  ⟨fun n hn => h.ok n (p.mem_iff.mp hn), p.symm.pairwise h.apart (fun {a b} z e => (z e.symm).symm)⟩
theorem key_le {n m : Note} (h1 : n.ok) (h2 : m.ok) (h : n.key ≤ m.key) : n.s ≤ m.s := by
  obtain ⟨a1, a2, a3, a4, a5⟩ := h1
  obtain ⟨b1, b2, b3, b4, b5⟩ := h2
  unfold Note.key at h
  omega
theorem key_inj {n m : Note} (h1 : n.ok) (h2 : m.ok) (h : n.key = m.key) : n = m := by
  obtain ⟨a1, a2, a3, a4, a5⟩ := h1
  obtain ⟨b1, b2, b3, b4, b5⟩ := h2
  unfold Note.key at h
  obtain ⟨s, e, p⟩ := n
  obtain ⟨s', e', p'⟩ := m
  simp only at *
  have e1 : s = s' := by omega
  have e2 : e = e' := by omega
  have e3 : p = p' := by omega
  rw [e1, e2, e3]
/-- in order, notes of one pitch follow each other -/
theorem GoodL.follow {ns : List Note} (h : GoodL ns) (hs : ns.Pairwise fun n m => n.key ≤ m.key) : ns.Pairwise fun n m => n.p = m.p → n.e < m.s := by
  have := h.apart.and hs
  refine this.imp_of_mem fun {n m} hn hm z e => ?_
  have k := key_le (h.ok n hn) (h.ok m hm) z.2
  have o1 := h.ok n hn
  have o2 := h.ok m hm
  obtain ⟨a1, a2, a3, a4, a5⟩ := o1
  obtain ⟨b1, b2, b3, b4, b5⟩ := o2
  rcases z.1 e with q | q <;> omega
theorem pairwise_get {α : Type} {R : α → α → Prop} {l : List α} (h : l.Pairwise R) {i j : Nat} {x y : α} (hij : i < j) (hx : l[i]? = some x) (hy : l[j]? = some y) : R x y := by
  obtain ⟨h1, rfl⟩ := List.getElem?_eq_some_iff.mp hx
  obtain ⟨h2, rfl⟩ := List.getElem?_eq_some_iff.mp hy
  exact List.pairwise_iff_getElem.mp h i j h1 h2 hij
section
variable {σ : L2.St} {H : Hp} {Q : VK} {D : Ends} {td ty tv ta : TE} {K : PySem.W.Frag} {f : Str}
theorem w_din (q : ty σ H fun y H1 => td σ H1 fun x H2 => ∃ a o, x = .ref a ∧ DGet H2 a y o ∧ Q (.bl o.isSome) H2) : tDIn ty td σ H Q := q
theorem w_dnotin (q : ty σ H fun y H1 => td σ H1 fun x H2 => ∃ a o, x = .ref a ∧ DGet H2 a y o ∧ Q (.bl (!o.isSome)) H2) : tDNotIn ty td σ H Q := q
theorem w_dget (q : td σ H fun x H1 => ty σ H1 fun y H2 => ∃ a v, x = .ref a ∧ DGet H2 a y (some v) ∧ Q v H2) : tDGet td ty σ H Q := q
theorem w_dinI {d : Addr} {kvs : List (Key × V)} {k : Int} (h : H d = some (.dK kvs)) (q : Q (.bl (valV kvs (Sum.inl k)).isSome) H) : ∃ a o, V.ref d = .ref a ∧ DGet H a (.int k) o ∧ Q (.bl o.isSome) H := ⟨d, _, rfl, DGet.k (k := Sum.inl k) h, q⟩
theorem w_dninI {d : Addr} {kvs : List (Key × V)} {k : Int} (h : H d = some (.dK kvs)) (q : Q (.bl (!(valV kvs (Sum.inl k)).isSome)) H) : ∃ a o, V.ref d = .ref a ∧ DGet H a (.int k) o ∧ Q (.bl (!o.isSome)) H := ⟨d, _, rfl, DGet.k (k := Sum.inl k) h, q⟩
theorem w_dgetI {d : Addr} {kvs : List (Key × V)} {k : Int} {v : V} (h : H d = some (.dK kvs)) (e : valV kvs (Sum.inl k) = some v) (q : Q v H) : ∃ a v, V.ref d = .ref a ∧ DGet H a (.int k) (some v) ∧ Q v H := ⟨d, v, rfl, e ▸ DGet.k (k := Sum.inl k) h, q⟩
theorem w_dnew (q : ∀ p, H p = none → Q (.ref p) (upd H p (.dK []))) : tDNewK σ H Q := q
theorem w_dput (q : tv σ H fun v H1 => td σ H1 fun x H2 => ty σ H2 fun y H3 => ∃ a H4, x = .ref a ∧ DPut H3 a y v H4 ∧ D.nx σ H4) : sDPut td ty tv D σ H := q
theorem w_dputI {d : Addr} {kvs : List (Key × V)} {k : Int} {v : V} {R : Hp → Prop} (h : H d = some (.dK kvs)) (hl : kvs.length ≤ 1000) (q : R (upd H d (.dK (putK kvs (Sum.inl k) v)))) : ∃ a H4, V.ref d = .ref a ∧ DPut H a (.int k) v H4 ∧ R H4 := ⟨d, _, rfl, DPut.k (k := Sum.inl k) h (szl hl), q⟩
theorem w_sfld (q : tv σ H fun y H1 => ta σ H1 fun x H2 => ∃ a C dx fs, x = .ref a ∧ H2 a = some (.ins C dx fs) ∧ Cls K C ∧ NoAttr K C f ∧ fs.length < 1000 ∧ D.nx σ (upd H2 a (.ins C dx (putF f y fs)))) : sFld K ta tv f D σ H := q
theorem w_meth {C : Addr} {m : Str} {sp : Sp} {dvs : List V} {E : XK} {t : TA} (q : ta σ H fun x H1 => ∃ a dx fs, x = .ref a ∧ H1 a = some (.ins C dx fs) ∧ fs.lookup m = none ∧ t σ H1 fun vs H2 => sp (x :: (vs ++ dvs)) H2 Q E) : tMeth C m sp dvs E ta t σ H Q := q
theorem w_make {C : Addr} {sp : Sp} {dvs : List V} {E : XK} {t : TA} (q : t σ H fun vs H1 => ∀ x dx, H1 x = none → H1 dx = none → dx ≠ x → sp (.ref x :: (vs ++ dvs)) (upd (upd H1 dx (.own x)) x (.ins C dx [])) (fun v H2 => v = .non ∧ Q (.ref x) H2) E) : tMake C sp dvs E t σ H Q := q
theorem w_insI {p C dx : Addr} {m : Str} {v : V} {F : Prop} (h : H p = some (.ins C dx [(("part_notes" : Str), v)])) (hm : (m == ("part_notes" : Str)) = false) (q : F) : ∃ a dx fs, V.ref p = .ref a ∧ H a = some (.ins C dx fs) ∧ fs.lookup m = none ∧ F := ⟨p, dx, _, rfl, h, by simp [List.lookup, hm], q⟩
end
theorem kV_int (k : Int) : kV (Sum.inl k) = .int k := rfl
end Kt
namespace Kt
theorem lk1 {f : PySem.Str} {v : L2.V} : List.lookup f [(f, v)] = some v := by simp [List.lookup]
end Kt
namespace Kt
open L2
theorem iteNo {A B : Prop} (q : B) : if (none : Option V).isSome = true then A else B := by simpa using q
theorem iteSo {x : V} {A B : Prop} (q : A) : if (some x).isSome = true then A else B := by simpa using q
theorem iteNNo {A B : Prop} (q : A) : if (!(none : Option V).isSome) = true then A else B := by simpa using q
theorem iteNSo {x : V} {A B : Prop} (q : B) : if (!(some x).isSome) = true then A else B := by simpa using q
end Kt
namespace Kt
/-! ## the nearest notes of the other pitches: what their rows are -/
/-- rows (start, index), in order: for the note at a place, of each other pitch a note that ends no earlier and begins first -/
structure NR (ns : List Note) (at_ : Nat) (rs : List (Int × Int)) : Prop where
  ord : rs.Pairwise fun x y => pkey x ≤ pkey y
  sound : ∀ r ∈ rs, ∃ (j : Nat) (m n : Note), r.2 = (j : Int) ∧ ns[j]? = some m ∧ ns[at_]? = some n ∧ r.1 = m.s ∧ n.e ≤ m.e ∧ m.p ≠ n.p
  apart : rs.Pairwise fun x y => ∀ (i j : Nat) (m n : Note), x.2 = (i : Int) → y.2 = (j : Int) → ns[i]? = some m → ns[j]? = some n → m.p ≠ n.p
  full : ∀ (j : Nat) (m n : Note), ns[j]? = some m → ns[at_]? = some n → n.e ≤ m.e → m.p ≠ n.p → ∃ r ∈ rs, ∃ (i : Nat) (m' : Note), r.2 = (i : Int) ∧ ns[i]? = some m' ∧ m'.p = m.p ∧ r.1 ≤ m.s
end Kt
namespace Kt
open PySem PySem.Spec PyProof.Rows L2
def rLenK (K : PySem.W.Frag) : List V → Hp → VK → Prop := fun xs H Q => ∃ p ys, xs = [.ref p] ∧ (SqL K H p ys ∨ SqT K H p ys) ∧ Q (.int ys.length) H
theorem cr_len {X : Cx} : CallR X (.builtin "len") (rLenK X.K) := call_len_seq
def rListK (K : PySem.W.Frag) : List V → Hp → VK → Prop := fun xs H Q => ∃ p ys, xs = [.ref p] ∧ (SqL K H p ys ∨ SqT K H p ys) ∧ ∀ l, H l = none → Q (.ref l) (upd H l (.lst ys))
theorem cr_list {X : Cx} : CallR X (.type "list") (rListK X.K) := call_list_of
end Kt
namespace Kt
open PySem PySem.Spec PyProof.Rows L2
section
variable {σ : L2.St} {H : Hp} {Q : VK} {K : PySem.W.Frag} {v : V}
theorem w_ixN {p : Addr} {xs : List V} {n : Nat} (h : H p = some (.lst xs)) (e : xs[n]? = some v) (q : Q v H) : rIxL K (.ref p) (.int (n : Nat)) H Q := ⟨p, xs, n, v, rfl, rfl, SqL.of h, atI_nat e, q⟩
theorem w_pairs1 {tk tv : TE} {R : List (V × V) → Hp → Prop} (q : tk σ H fun x H1 => tv σ H1 fun y H2 => R [(x, y)] H2) : tPairs [(tk, tv)] σ H R := q
theorem w_maxD {aa ak : TA} {r : List V → List V → Hp → VK → Prop} (q : aa σ H fun vs H1 => ak σ H1 fun zs H2 => r vs zs H2 Q) : tCKw r aa ak σ H Q := q
end
theorem putK_one (k : Key) (v : V) : mergeK [] [(k, v)] = [(k, v)] := by
  unfold mergeK putK
  rfl
/-- a dict from ints to places, as its pairs in order -/
def kd (L : List (Int × Nat)) : List (Key × V) := L.map fun x => (Sum.inl x.1, V.int (x.2 : Nat))
theorem kd_none {L : List (Int × Nat)} {z : Int} : valV (kd L) (Sum.inl z) = none ↔ ∀ x ∈ L, x.1 ≠ z := by
  induction L with
  | nil => exact ⟨fun _ x h => absurd h (by simp), fun _ => rfl⟩
  | cons y r ih =>
    have e : kd (y :: r) = (Sum.inl y.1, V.int (y.2 : Nat)) :: kd r := rfl
    rw [e]
    by_cases h : y.1 = z
    · rw [valV_pos (by rw [h])]
      exact ⟨fun q => (by cases q), fun q => absurd h (q y List.mem_cons_self)⟩
    · rw [valV_neg (fun q => h (Sum.inl.inj q)), ih]
      exact ⟨fun q x hx => by
        rcases List.mem_cons.mp hx with rfl | hx
        · exact h
        · exact q x hx, fun q x hx => q x (List.mem_cons_of_mem _ hx)⟩
theorem kd_put {L : List (Int × Nat)} {z : Int} {n : Nat} (h : ∀ x ∈ L, x.1 ≠ z) : putK (kd L) (Sum.inl z) (V.int (n : Nat)) = kd (L ++ [(z, n)]) := by
  rw [putK_new _ (kd_none.mpr h)]
  unfold kd
  rw [List.map_append]
  rfl
/-- the dict of the first notes, behind i turns -/
structure Fst (ns : List Note) (at_ : Nat) (p e : Int) (i : Nat) (L : List (Int × Nat)) : Prop where
  head : ∃ R, L = (p, at_) :: R
  nd : (L.map (·.1)).Nodup
  sound : ∀ x ∈ L, x.1 = p ∨ ∃ m, ns[x.2]? = some m ∧ m.p = x.1 ∧ e ≤ m.e ∧ x.2 < i
  full : ∀ j m, j < i → ns[j]? = some m → e ≤ m.e → ∃ x ∈ L, x.1 = m.p ∧ (x.1 = p ∨ x.2 ≤ j)
theorem Fst.start {ns : List Note} {at_ : Nat} {p e : Int} : Fst ns at_ p e 0 [(p, at_)] :=
  ⟨⟨[], rfl⟩, by simp, fun x hx => .inl (by rw [List.mem_singleton.mp hx]), fun j m h => absurd h (Nat.not_lt_zero _)⟩
theorem Fst.skip {ns : List Note} {at_ : Nat} {p e : Int} {i : Nat} {L : List (Int × Nat)} (h : Fst ns at_ p e i L) {m : Note} (hm : ns[i]? = some m) (hs : ¬ e ≤ m.e ∨ ∃ x ∈ L, x.1 = m.p) : Fst ns at_ p e (i + 1) L := by
  refine ⟨h.head, h.nd, fun x hx => (h.sound x hx).imp id fun ⟨m', a, b, c, d⟩ => ⟨m', a, b, c, by omega⟩, fun j m' hj hm' he => ?_⟩
  by_cases hji : j < i
  · exact h.full j m' hji hm' he
  · obtain rfl : j = i := by omega
    rw [hm] at hm'
    cases hm'
    rcases hs with hs | ⟨x, hx, e1⟩
    · exact absurd he hs
    · refine ⟨x, hx, e1, ?_⟩
      rcases h.sound x hx with q | ⟨_, _, _, _, q⟩
      · exact .inl q
      · exact .inr (by omega)
theorem Fst.put {ns : List Note} {at_ : Nat} {p e : Int} {i : Nat} {L : List (Int × Nat)} (h : Fst ns at_ p e i L) {m : Note} (hm : ns[i]? = some m) (he : e ≤ m.e) (hn : ∀ x ∈ L, x.1 ≠ m.p) : Fst ns at_ p e (i + 1) (L ++ [(m.p, i)]) := by
  obtain ⟨R, hR⟩ := h.head
  refine ⟨⟨R ++ [(m.p, i)], by rw [hR]; rfl⟩, ?_, fun x hx => ?_, fun j m' hj hm' he' => ?_⟩
  · rw [List.map_append, List.nodup_append]
    refine ⟨h.nd, by simp, fun a ha b hb => ?_⟩
    obtain ⟨x, hx, rfl⟩ := List.mem_map.mp ha
    rw [List.map_cons, List.map_nil, List.mem_singleton] at hb
    rw [hb]
    exact hn x hx
  · rcases List.mem_append.mp hx with hx | hx
    · exact (h.sound x hx).imp id fun ⟨m', a, b, c, d⟩ => ⟨m', a, b, c, by omega⟩
    · rw [List.mem_singleton.mp hx]
      exact .inr ⟨m, hm, rfl, he, by show i < i + 1; omega⟩
  · by_cases hji : j < i
    · obtain ⟨x, hx, q⟩ := h.full j m' hji hm' he'
      exact ⟨x, List.mem_append_left _ hx, q⟩
    · obtain rfl : j = i := by omega
      rw [hm] at hm'
      cases hm'
      exact ⟨(m.p, j), List.mem_append_right _ (List.mem_singleton.mpr rfl), rfl, .inr (Nat.le_refl _)⟩
end Kt

namespace Kt
open PySem PySem.Spec PyProof.Rows L2
theorem w_iVals {σ : L2.St} {H : Hp} {td : TE} {R : It → Hp → Prop} (q : td σ H fun x H1 => ∃ d o kvs, x = .ref d ∧ H1 d = some (.frz o (.dK kvs)) ∧ R (Itd d o kvs) H1) : iVals td σ H R := q
/-- the rows of the first notes: start and place -/
def rowsOf (ns : List Note) (at_ : Nat) (L : List (Int × Nat)) : List (Int × Int) := (L.filter fun x => decide (x.2 ≠ at_)).map fun x => (((ns[x.2]?).map (·.s)).getD 0, (x.2 : Int))
theorem rowsOf_snoc {ns : List Note} {at_ : Nat} {L : List (Int × Nat)} {i : Nat} {x : Int × Nat} (h : L[i]? = some x) :
    rowsOf ns at_ (L.take (i + 1)) = rowsOf ns at_ (L.take i) ++ (if x.2 = at_ then [] else [(((ns[x.2]?).map (·.s)).getD 0, (x.2 : Int))]) := by
  unfold rowsOf
  rw [List.take_add_one, h, List.filter_append, List.map_append]
  congr 1
  by_cases e : x.2 = at_
  · rw [if_pos e]
    simp [e]
  · rw [if_neg e]
    simp [e]
theorem mem_rowsOf {ns : List Note} {at_ : Nat} {L : List (Int × Nat)} {r : Int × Int} (h : r ∈ rowsOf ns at_ L) : ∃ x ∈ L, x.2 ≠ at_ ∧ r = (((ns[x.2]?).map (·.s)).getD 0, (x.2 : Int)) := by
  obtain ⟨x, hx, rfl⟩ := List.mem_map.mp h
  obtain ⟨h1, h2⟩ := List.mem_filter.mp hx
  exact ⟨x, h1, of_decide_eq_true h2, rfl⟩
theorem Fst.nr {ns : List Note} {at_ : Nat} {n : Note} {L : List (Int × Nat)} {rs : List (Int × Int)} (h : Fst ns at_ n.p n.e ns.length L) (hn : ns[at_]? = some n) (hok : ∀ m ∈ ns, m.ok) (ho : ns.Pairwise fun x y => x.key ≤ y.key)
    (pr : rs.Perm (rowsOf ns at_ L)) (po : rs.Pairwise fun x y => pkey x ≤ pkey y) : NR ns at_ rs := by
  -- the pitch of a note at another place of L is another one
  have other : ∀ x ∈ L, x.2 ≠ at_ → ∃ m, ns[x.2]? = some m ∧ m.p = x.1 ∧ n.e ≤ m.e ∧ m.p ≠ n.p := by
    intro x hx hne
    obtain ⟨R, rfl⟩ := h.head
    have nd := h.nd
    rw [List.map_cons, List.nodup_cons] at nd
    rcases List.mem_cons.mp hx with rfl | hx'
    · exact absurd rfl hne
    · have hp : x.1 ≠ n.p := fun z => nd.1 (List.mem_map.mpr ⟨x, hx', z⟩)
      rcases h.sound x hx with q | ⟨m, a, b, c, d⟩
      · exact absurd q hp
      · exact ⟨m, a, b, c, by rw [b]; exact hp⟩
  refine ⟨po, fun r hr => ?_, ?_, fun j m n' hm hn' he hp => ?_⟩
  · obtain ⟨x, hx, hne, rfl⟩ := mem_rowsOf (pr.mem_iff.mp hr)
    obtain ⟨m, a, b, c, d⟩ := other x hx hne
    exact ⟨x.2, m, n, rfl, a, hn, by rw [a]; rfl, c, d⟩
  · have base : (rowsOf ns at_ L).Pairwise fun x y => ∀ (i j : Nat) (m n : Note), x.2 = (i : Int) → y.2 = (j : Int) → ns[i]? = some m → ns[j]? = some n → m.p ≠ n.p := by
      unfold rowsOf
      rw [List.pairwise_map]
      have nd := h.nd
      unfold List.Nodup at nd
      rw [List.pairwise_map] at nd
      refine (nd.filter _).imp_of_mem fun {x y} hx hy z i j m m' e1 e2 h1 h2 => ?_
      obtain ⟨hx1, hx2⟩ := List.mem_filter.mp hx
      obtain ⟨hy1, hy2⟩ := List.mem_filter.mp hy
      obtain ⟨mx, a, b, _⟩ := other x hx1 (of_decide_eq_true hx2)
      obtain ⟨my, a', b', _⟩ := other y hy1 (of_decide_eq_true hy2)
      have e1' : x.2 = i := Int.ofNat.inj e1
      have e2' : y.2 = j := Int.ofNat.inj e2
      rw [← e1', a] at h1
      rw [← e2', a'] at h2
      cases h1
      cases h2
      rw [b, b']
      exact z
    exact pr.symm.pairwise base fun {x y} z i j m m' e1 e2 h1 h2 q => z j i m' m e2 e1 h2 h1 q.symm
  · rw [hn] at hn'
    cases hn'
    obtain ⟨x, hx, e1, e2⟩ := h.full j m (List.getElem?_eq_some_iff.mp hm).1 hm he
    have hx1 : x.1 ≠ n.p := by rw [e1]; exact hp
    have hxj : x.2 ≤ j := e2.resolve_left hx1
    have hne : x.2 ≠ at_ := fun z => by
      rcases h.sound x hx with q | ⟨m', a, b, c, d⟩
      · exact hx1 q
      · rw [z, hn] at a
        cases a
        exact hx1 b.symm
    obtain ⟨m', a, b, c, d⟩ := other x hx hne
    refine ⟨(((ns[x.2]?).map (·.s)).getD 0, (x.2 : Int)), pr.mem_iff.mpr (List.mem_map.mpr ⟨x, List.mem_filter.mpr ⟨hx, decide_eq_true hne⟩, rfl⟩), x.2, m', rfl, a, by rw [b, e1], ?_⟩
    rw [a]
    show m'.s ≤ m.s
    by_cases hjx : x.2 = j
    · rw [hjx, hm] at a
      cases a
      exact Int.le_refl _
    · exact key_le (hok _ (List.mem_of_getElem? a)) (hok _ (List.mem_of_getElem? hm)) (pairwise_get ho (by omega) a hm)
end Kt
namespace Kt
theorem vals_append {α : Type} (ks js : List (PySem.Addr × α)) : vals (ks ++ js) = vals ks ++ vals js := List.map_append
theorem vals_get {α : Type} {ks : List (PySem.Addr × α)} {i : Nat} {k : PySem.Addr × α} (h : ks[i]? = some k) : (vals ks)[i]? = some k.2 := by
  show (ks.map _)[i]? = _
  rw [List.getElem?_map, h]; rfl
theorem vals_length {α : Type} (ks : List (PySem.Addr × α)) : (vals ks).length = ks.length := List.length_map _
theorem of_vals {α : Type} {ks : List (PySem.Addr × α)} {i : Nat} {m : α} (h : (vals ks)[i]? = some m) : ∃ k, ks[i]? = some k ∧ k.2 = m := by
  have h' : (ks.map (·.2))[i]? = some m := h
  rw [List.getElem?_map] at h'
  cases e : ks[i]? with
  | none => rw [e] at h'; cases h'
  | some k => rw [e] at h'; exact ⟨k, rfl, Option.some.inj h'⟩
theorem mem_vals {α : Type} {ks : List (PySem.Addr × α)} {m : α} (h : m ∈ vals ks) : ∃ k ∈ ks, k.2 = m := List.mem_map.mp h
end Kt
namespace Kt
open PySem PySem.Spec PyProof.Rows L2
theorem range_succ_fm {β : Type} (f : Nat → Option β) (i : Nat) : (List.range (i + 1)).filterMap f = (List.range i).filterMap f ++ (match f i with | some v => [v] | none => []) := by
  rw [List.range_succ, List.filterMap_append]
  congr 1
  cases h : f i <;> simp [h]
section
variable {σ : L2.St} {H : Hp} {Q : VK} {K : PySem.W.Frag} {v : V}
/-- a comprehension over a list whose turns only make objects: f what a turn gives -/
theorem lc_pure {a : Addr} {xs : List V} {g : TG} {tt : TT} {te : TE} {vs : List Nat} {H1 : Hp} {D : Addr} {Qd : Hp → Prop} (f : Nat → Option V) (hx : SqL K H1 a xs) (hD : H1 D = none) (hl : xs.length ≤ 900)
    (hs : ∀ i x H, xs[i]? = some x → Same H1 H → ∀ (N : V → Hp → Prop) (M : Hp → Prop), (∀ v H', f i = some v → Same H H' → N v H') → (∀ H', f i = none → Same H H' → M H') →
      g x (wipe σ vs) H fun σ2 H2 => wipe σ2 vs = wipe σ vs ∧ tt σ2 H2 fun b H3 => if b = true then te σ2 H3 fun y H4 => N y H4 else M H3)
    (hd : ∀ H, Same H1 H → H D = some (.lst ((List.range xs.length).filterMap f)) → Qd H) :
    ∃ W : Nat → Nat → Hp → Prop, (∃ m, W 0 m (upd H1 D (.lst []))) ∧ ∀ i m H, W i m H →
      ((Itl K a).stop i H ∧ Qd H) ∨ ((Itl K a).go i H ∧ ∃ Nx : Hp → Prop, (∀ H', Nx H' → ∃ m', m' < m ∧ W (i + 1) m' H') ∧ ∀ x H', (Itl K a).yld i H x H' → g x (wipe σ vs) H' fun σ2 H2 => wipe σ2 vs = wipe σ vs ∧ tt σ2 H2 fun b H3 =>
        if b = true then te σ2 H3 fun y H4 => ∃ acc, H4 D = some (.lst acc) ∧ acc.length < sizeLine ∧ Nx (upd H4 D (.lst (acc ++ [y]))) else Nx H3) := by
  have len : ∀ i, ((List.range i).filterMap f).length ≤ i := fun i => Nat.le_trans (List.length_filterMap_le _ _) (by rw [List.length_range]; exact Nat.le_refl _)
  refine lc_list (xs := xs) (fun i H => Same H1 H ∧ H D = some (.lst ((List.range i).filterMap f))) ⟨Same.new hD, upd_same⟩ (fun i H _ p => Same.seq p.1 hx) (fun i x H hi p => ?_) (fun H p => hd H p.1 p.2)
  have hlt := (List.getElem?_eq_some_iff.mp hi).1
  refine hs i x H hi p.1 (fun y H4 => ∃ acc, H4 D = some (.lst acc) ∧ acc.length < sizeLine ∧ Same H1 (upd H4 D (.lst (acc ++ [y]))) ∧ (upd H4 D (.lst (acc ++ [y]))) D = some (.lst ((List.range (i + 1)).filterMap f))) (fun H3 => Same H1 H3 ∧ H3 D = some (.lst ((List.range (i + 1)).filterMap f))) (fun v H' e s => ?_) (fun H' e s => ?_)
  · refine ⟨_, s _ _ p.2, szl (Nat.le_trans (len i) (by omega)), Same.mut (p.1.trans s) hD, ?_⟩
    rw [upd_same, range_succ_fm, e]
  · refine ⟨p.1.trans s, ?_⟩
    rw [range_succ_fm, e, s _ _ p.2]
    simp
theorem filterMap_take {α β : Type} (l : List α) (h : α → β) (f : Nat → Option β) (hf : ∀ i x, l[i]? = some x → f i = some (h x)) : ∀ n, n ≤ l.length → (List.range n).filterMap f = (l.take n).map h
  | 0, _ => rfl
  | n + 1, hn => by
    have hx : l[n]? = some l[n] := List.getElem?_eq_getElem (by omega)
    rw [range_succ_fm, filterMap_take l h f hf n (by omega), hf n _ hx, List.take_add_one, hx, List.map_append]
    rfl
theorem filterMap_all {α β : Type} (l : List α) (h : α → β) (f : Nat → Option β) (hf : ∀ i x, l[i]? = some x → f i = some (h x)) : (List.range l.length).filterMap f = l.map h := by
  rw [filterMap_take l h f hf _ (Nat.le_refl _), List.take_length]
end
theorem cut_to {xs : List V} (k : Nat) : cutV xs none (some (k : Int)) = xs.take k := by
  unfold cutV
  rw [show HT.sIx xs.length xs.length (some (k : Int)) = min k xs.length from HT.sIx_nat _ _ _, HT.sIx_none]
  rw [List.drop_zero, Nat.sub_zero]
  by_cases h : k ≤ xs.length
  · rw [Nat.min_eq_left h]
  · rw [Nat.min_eq_right (by omega), List.take_length, List.take_of_length_le (by omega)]
theorem cut_from {xs : List V} (k : Nat) : cutV xs (some (k : Int)) none = xs.drop k := by
  unfold cutV
  rw [show HT.sIx xs.length 0 (some (k : Int)) = min k xs.length from HT.sIx_nat _ _ _, HT.sIx_none]
  by_cases h : k ≤ xs.length
  · rw [Nat.min_eq_left h, List.take_of_length_le (by rw [List.length_drop]; exact Nat.le_refl _)]
  · rw [Nat.min_eq_right (by omega), Nat.sub_self, List.take_zero, List.drop_of_length_le (by omega)]
/-- is None, by the value -/
def rIsN_ : R2 := fun x y H Q => y = .non ∧ Q (.bl (decide (x = .non))) H
def rNotN_ : R2 := fun x y H Q => y = .non ∧ Q (.bl (!decide (x = .non))) H
theorem op_isN_ {X : Cx} : OpR X (compareOp .Is) rIsN_ := op_isN
theorem op_notN_ {X : Cx} : OpR X (compareOp .IsNot) rNotN_ := op_notN
section
variable {H : Hp} {Q : VK}
theorem w_isN0 (q : Q (.bl true) H) : rIsN_ .non .non H Q := ⟨rfl, q⟩
theorem w_isNr {p : Addr} (q : Q (.bl false) H) : rIsN_ (.ref p) .non H Q := ⟨rfl, by rw [decide_eq_false (fun z => nomatch z)]; exact q⟩
theorem w_isNi {n : Int} (q : Q (.bl false) H) : rIsN_ (.int n) .non H Q := ⟨rfl, by rw [decide_eq_false (fun z => nomatch z)]; exact q⟩
theorem w_notN0 (q : Q (.bl false) H) : rNotN_ .non .non H Q := ⟨rfl, q⟩
theorem w_notNr {p : Addr} (q : Q (.bl true) H) : rNotN_ (.ref p) .non H Q := ⟨rfl, by rw [decide_eq_false (fun z => nomatch z)]; exact q⟩
theorem w_notNi {n : Int} (q : Q (.bl true) H) : rNotN_ (.int n) .non H Q := ⟨rfl, by rw [decide_eq_false (fun z => nomatch z)]; exact q⟩
/-- a slice's parts -/
theorem w_sl {r : V → Option Int → Option Int → Hp → VK → Prop} {te : TE} {tl th : TO} {σ : L2.St} (q : te σ H fun x H1 => tl σ H1 fun l H2 => th σ H2 fun u H3 => r x l u H3 Q) : tSl r te tl th σ H Q := q
theorem w_nopart {σ : L2.St} {R : Option Int → Hp → Prop} (q : R none H) : tNoPart σ H R := q
theorem w_part {σ : L2.St} {t : TE} {R : Option Int → Hp → Prop} (q : t σ H fun x H1 => ∃ i, x = .int i ∧ R (some i) H1) : tPart t σ H R := q
theorem w_cat {l b : Addr} {xs zs : List V} (h1 : H l = some (.lst xs)) (h2 : H b = some (.lst zs)) (hz : xs.length + zs.length ≤ 1000) (q : ∀ p, H p = none → Q (.ref p) (upd H p (.lst (xs ++ zs)))) : rCat (.ref l) (.ref b) H Q :=
  ⟨l, b, xs, zs, rfl, rfl, h1, h2, sz _ hz, q⟩
end
/-- the greatest of a list -/
def IsMax (l : List Int) (m : Int) : Prop := m ∈ l ∧ ∀ x ∈ l, x ≤ m
end Kt
namespace Kt
open PySem PySem.Spec PyProof.Rows L2
theorem PartAt.at_ {C : Addr} {H : Hp} {p : Addr} {ks : List (Addr × Note)} (h : PartAt C H p ks) (m : Str) (hm : (m == ("part_notes" : Str)) = false := by decide) : ∃ dx fs, H p = some (.ins C dx fs) ∧ fs.lookup m = none := by
  obtain ⟨dx, l, h1, _⟩ := h
  exact ⟨dx, _, h1, by simp [List.lookup, hm]⟩
theorem refs_take {α : Type} (ks : List (Addr × α)) (n : Nat) : (refs ks).take n = refs (ks.take n) := by
  unfold refs
  rw [List.map_take]
theorem vals_take {α : Type} (ks : List (Addr × α)) (n : Nat) : (vals ks).take n = vals (ks.take n) := by
  show (ks.map _).take n = _
  rw [← List.map_take]
end Kt
namespace Kt
open L2
theorem w_yes {σ : L2.St} {H : Hp} {Q : Bool → Hp → Prop} (q : Q true H) : tYes σ H Q := q
end Kt
namespace Kt
open PySem PySem.Spec PyProof.Rows L2

/-! ## data that may be compared and shown -/
structure FD (k w : Nat) (d : PyData) : Prop where
  lay : d.canLay0 = true
  dep : d.depth ≤ k
  sho : d.showable = true
  lea : d.leavesShort 13 = true
  wt : d.weight ≤ w
structure FDs (k w : Nat) (ds : List PyData) : Prop where
  lay : PyData.canLayAll0 ds = true
  dep : PyData.depthAll ds ≤ k
  sho : PyData.showableAll ds = true
  lea : PyData.leavesShortAll 13 ds = true
  wt : PyData.weightAll ds ≤ w
theorem FD.mono {k w k' w' : Nat} {d : PyData} (h : FD k w d) (hk : k ≤ k') (hw : w ≤ w') : FD k' w' d := ⟨h.lay, Nat.le_trans h.dep hk, h.sho, h.lea, Nat.le_trans h.wt hw⟩
theorem FDs.mono {k w k' w' : Nat} {d : List PyData} (h : FDs k w d) (hk : k ≤ k') (hw : w ≤ w') : FDs k' w' d := ⟨h.lay, Nat.le_trans h.dep hk, h.sho, h.lea, Nat.le_trans h.wt hw⟩
theorem FD.fine {k w : Nat} {d : PyData} (h : FD k w d) (hk : k ≤ 8 := by decide) (hw : w ≤ 2 ^ 20 := by decide) : Fine d :=
  ⟨h.lay, Nat.le_trans h.dep hk, h.sho, PyData.shown_fits (B := 13) (by decide) (by decide) h.lea (Nat.le_trans h.wt hw)⟩
theorem FD.none : FD 0 0 .none := ⟨by simp [PyData.canLay0], by simp [PyData.depth], by simp [PyData.showable], by simp [PyData.leavesShort], by simp [PyData.weight]⟩
theorem FD.bool {b : Bool} : FD 0 0 (.bool b) := ⟨by simp [PyData.canLay0], by simp [PyData.depth], by simp [PyData.showable], by simp [PyData.leavesShort], by simp [PyData.weight]⟩
theorem FD.int {n : Int} (h : n.natAbs < 10 ^ 12) : FD 0 40 (.int n) := by
  have h2 : n.natAbs < 2 ^ 40 := Nat.lt_of_lt_of_le h (by decide)
  have hl : n.natAbs.log2 < 40 := by
    by_cases z : n.natAbs = 0
    · rw [z]; decide
    · exact (Nat.log2_lt z).mpr h2
  refine ⟨by simp [PyData.canLay0], by simp [PyData.depth], by simp [PyData.showable]; omega, ?_, ?_⟩
  · simp only [PyData.leavesShort]
    exact decide_eq_true (PyData.shown_int_le h)
  · simp only [PyData.weight]
    split <;> omega
theorem FD.str {x : Str} (h : PyData.strOk x = true) : FD 0 x.cps.size (.str x) :=
  ⟨by simpa [PyData.canLay0] using h, by simp [PyData.depth], by simp [PyData.showable], PyData.leavesShort_of_canLay0 13 _ (by simpa [PyData.canLay0] using h) (by simp [PyData.intsShort]), by simp [PyData.weight]⟩
theorem FD.list {k w : Nat} {ds : List PyData} (h : FDs k w ds) : FD (k + 1) w (.list ds) :=
  ⟨by simpa [PyData.canLay0] using h.lay, by have := h.dep; simp only [PyData.depth]; omega, by simpa [PyData.showable] using h.sho, by simpa [PyData.leavesShort] using h.lea, by simpa [PyData.weight] using h.wt⟩
theorem FD.tuple {k w : Nat} {ds : List PyData} (h : FDs k w ds) : FD (k + 1) w (.tuple ds) :=
  ⟨by simpa [PyData.canLay0] using h.lay, by have := h.dep; simp only [PyData.depth]; omega, by simpa [PyData.showable] using h.sho, by simpa [PyData.leavesShort] using h.lea, by simpa [PyData.weight] using h.wt⟩
theorem FDs.nil {k : Nat} : FDs k 0 [] := ⟨by simp [PyData.canLayAll0], by simp [PyData.depthAll], by simp [PyData.showableAll], by simp [PyData.leavesShortAll], by simp [PyData.weightAll]⟩
theorem FDs.cons {k v w : Nat} {d : PyData} {ds : List PyData} (h : FD k v d) (hs : FDs k w ds) : FDs k (v + 1 + w) (d :: ds) :=
  ⟨by simp [PyData.canLayAll0, h.lay, hs.lay], by have := h.dep; have := hs.dep; simp only [PyData.depthAll]; omega, by simp [PyData.showableAll, h.sho, hs.sho], by simp [PyData.leavesShortAll, h.lea, hs.lea], by have := h.wt; have := hs.wt; simp only [PyData.weightAll]; omega⟩
theorem FDs.map {α : Type} {k w : Nat} {g : α → PyData} : ∀ l : List α, (∀ x ∈ l, FD k w (g x)) → FDs k ((w + 1) * l.length) (l.map g)
  | [], _ => FDs.nil
  | x :: r, h => by
    have h1 := FDs.cons (h x List.mem_cons_self) (FDs.map r fun y hy => h y (List.mem_cons_of_mem _ hy))
    refine h1.mono (Nat.le_refl _) ?_
    rw [List.length_cons, Nat.mul_succ]
    omega
/-- a tuple of ints, as data -/
def dT (ns : List Int) : PyData := .tuple (ns.map .int)
def dL (ns : List Int) : PyData := .list (ns.map .int)
def dTs {α : Type} (f : α → List Int) (xs : List α) : PyData := .list (xs.map fun x => dT (f x))
section
variable {K : PySem.W.Frag} {H : Hp}
theorem DpAll.ints : ∀ ns : List Int, DpAll K H (ns.map V.int) (ns.map .int)
  | [] => .nil
  | n :: r => .cons (.int n) (DpAll.ints r)
theorem Dp.ints {t : Addr} {ns : List Int} (h : H t = some (.tup (ns.map V.int))) : Dp K H (.ref t) (dT ns) := .tup (SqT.of h) (DpAll.ints ns)
theorem Dp.lints {t : Addr} {ns : List Int} (h : H t = some (.lst (ns.map V.int))) : Dp K H (.ref t) (dL ns) := .lst (SqL.of h) (DpAll.ints ns)
theorem DpAll.rows {α : Type} {f : α → List Int} : ∀ ks : List (Addr × α), Tus f H ks → DpAll K H (refs ks) ((vals ks).map fun x => dT (f x))
  | [], _ => .nil
  | k :: r, h => .cons (Dp.ints (h k List.mem_cons_self)) (DpAll.rows r fun x hx => h x (List.mem_cons_of_mem _ hx))
theorem Dp.rows {α : Type} {f : α → List Int} {a : Addr} {ks : List (Addr × α)} (h : TL f H a ks) : Dp K H (.ref a) (dTs f (vals ks)) := .lst (SqL.of h.lst) (DpAll.rows ks h.tus)
end
theorem FD.dT {ns : List Int} (h : ∀ n ∈ ns, n.natAbs < 10 ^ 12) : FD 1 (41 * ns.length) (Kt.dT ns) := FD.tuple (FDs.map ns fun n hn => FD.int (h n hn))
theorem FD.dL {ns : List Int} (h : ∀ n ∈ ns, n.natAbs < 10 ^ 12) : FD 1 (41 * ns.length) (Kt.dL ns) := FD.list (FDs.map ns fun n hn => FD.int (h n hn))
theorem FD.dTs {α : Type} {f : α → List Int} {m : Nat} {xs : List α} (h : ∀ x ∈ xs, (f x).length ≤ m ∧ ∀ n ∈ f x, n.natAbs < 10 ^ 12) : FD 2 ((41 * m + 1) * xs.length) (Kt.dTs f xs) :=
  FD.list (FDs.map xs fun x hx => (FD.dT (h x hx).2).mono (Nat.le_refl _) (Nat.mul_le_mul_left _ (h x hx).1))
theorem FD.dTs0 {α : Type} {f : α → List Int} {xs : List α} (h : ∀ x ∈ xs, (f x).length = 3) : SeqAt.shaped (Kt.dTs f xs) = true := by
  have lay : ∀ ns : List Int, PyData.canLayAll0 (ns.map .int) = true := fun ns => by
    induction ns with
    | nil => simp [PyData.canLayAll0]
    | cons a r ih => simp [PyData.canLayAll0, PyData.canLay0]; exact ih
  have dep : ∀ ns : List Int, PyData.depthAll (ns.map .int) = 0 := fun ns => by
    induction ns with
    | nil => simp [PyData.depthAll]
    | cons a r ih => simp only [List.map_cons, PyData.depthAll, PyData.depth, ih]; rfl
  have lay2 : ∀ xs : List α, PyData.canLayAll0 (xs.map fun x => Kt.dT (f x)) = true := fun xs => by
    induction xs with
    | nil => simp [PyData.canLayAll0]
    | cons a r ih =>
      simp only [List.map_cons, PyData.canLayAll0, Kt.dT, PyData.canLay0, lay, Bool.true_and]
      exact ih
  have dep2 : ∀ xs : List α, PyData.depthAll (xs.map fun x => Kt.dT (f x)) ≤ 1 := fun xs => by
    induction xs with
    | nil => simp [PyData.depthAll]
    | cons a r ih =>
      simp only [List.map_cons, PyData.depthAll, Kt.dT, PyData.depth, dep]
      have := ih
      simp only [Kt.dT] at this
      omega
  unfold SeqAt.shaped Kt.dTs
  simp only [PyData.canLay0, PyData.depth, lay2, Bool.true_and]
  have := dep2 xs
  exact decide_eq_true (by omega)
theorem lay_ints (ns : List Int) : PyData.canLayAll0 (ns.map .int) = true := by
  induction ns with
  | nil => simp [PyData.canLayAll0]
  | cons a r ih => simp [PyData.canLayAll0, PyData.canLay0]; exact ih
theorem dep_ints (ns : List Int) : PyData.depthAll (ns.map .int) = 0 := by
  induction ns with
  | nil => simp [PyData.depthAll]
  | cons a r ih => simp only [List.map_cons, PyData.depthAll, PyData.depth, ih]; rfl
theorem FD.dLS (ns : List Int) : SeqAt.shaped (Kt.dL ns) = true := by
  unfold SeqAt.shaped Kt.dL
  simp only [PyData.canLay0, PyData.depth, lay_ints, dep_ints, Bool.true_and]
  decide
theorem FD.dTsS {α : Type} (f : α → List Int) (xs : List α) : SeqAt.shaped (Kt.dTs f xs) = true := by
  have lay2 : ∀ xs : List α, PyData.canLayAll0 (xs.map fun x => Kt.dT (f x)) = true := fun xs => by
    induction xs with
    | nil => simp [PyData.canLayAll0]
    | cons a r ih =>
      simp only [List.map_cons, PyData.canLayAll0, Kt.dT, PyData.canLay0, lay_ints, Bool.true_and]
      exact ih
  have dep2 : ∀ xs : List α, PyData.depthAll (xs.map fun x => Kt.dT (f x)) ≤ 1 := fun xs => by
    induction xs with
    | nil => simp [PyData.depthAll]
    | cons a r ih =>
      simp only [List.map_cons, PyData.depthAll, Kt.dT, PyData.depth, dep_ints]
      have := ih
      simp only [Kt.dT] at this
      omega
  unfold SeqAt.shaped Kt.dTs
  simp only [PyData.canLay0, PyData.depth, lay2, Bool.true_and]
  have := dep2 xs
  exact decide_eq_true (by omega)
theorem eqv_nil {ds : List PyData} : PyData.eqv (.list ds) (.list []) = ds.isEmpty := by
  cases ds <;> simp [PyData.eqv, PyData.eqvAll]
theorem eqv_nil_rows {α : Type} {f : α → List Int} {xs : List α} : PyData.eqv (dTs f xs) (.list []) = xs.isEmpty := by
  unfold dTs
  rw [eqv_nil]
  cases xs <;> rfl
theorem shaped_nil : SeqAt.shaped (.list []) = true := by decide +kernel
end Kt
namespace Kt
open PySem PySem.Spec PyProof.Rows L2
section
variable {K : PySem.W.Frag} {H : Hp} {Q : VK}
theorem w_pickI {l : Addr} {ns : List Int} {r : Int} (h : H l = some (.lst (ns.map V.int))) (h0 : 0 ≤ r) (h1 : r < (ns.length : Nat)) (q : ∀ m ∈ ns, Q (.int m) H) : rIxL K (.ref l) (.int r) H Q := by
  have hr : r.toNat < ns.length := by omega
  exact w_ixL h h0 (v := .int ns[r.toNat]) (by rw [List.getElem?_map, List.getElem?_eq_getElem hr]; rfl) (q _ (List.getElem_mem hr))
theorem Bx.new {b : Addr} {n : Nat} {p : Addr} {o : HO} (h : Bx H b n) (hp : H p = none) : Bx (upd H p o) b n := h.same (Same.new hp)
theorem Ex.new {b : Addr} {H' : Hp} {p : Addr} {o : HO} (h : Ex b H H') (hp : H' p = none) : Ex b H (upd H' p o) := h.trans (Ex.of (Same.new hp))
end
end Kt
namespace Kt
open PySem PySem.Spec PyProof.Rows L2
theorem range_bind {α β : Type} (g : α → Option β) (l : List α) : (List.range l.length).filterMap (fun j => (l[j]?).bind g) = l.filterMap g := by
  have h : ∀ n, n ≤ l.length → (List.range n).filterMap (fun j => (l[j]?).bind g) = (l.take n).filterMap g := by
    intro n
    induction n with
    | zero => intro _; rfl
    | succ n ih =>
      intro hn
      have hx : l[n]? = some l[n] := List.getElem?_eq_getElem (by omega)
      rw [range_succ_fm, ih (by omega), List.take_add_one, hx, List.filterMap_append]
      congr 1
      show _ = List.filterMap g [l[n]]
      cases e : g l[n] <;> simp [e]
  rw [h _ (Nat.le_refl _), List.take_length]
theorem refs_filter {α : Type} (c : Addr × α → Prop) [DecidablePred c] (ks : List (Addr × α)) : ks.filterMap (fun k => if c k then some (V.ref k.1) else none) = refs (ks.filter fun k => decide (c k)) := by
  induction ks with
  | nil => rfl
  | cons k r ih =>
    by_cases h : c k
    · rw [List.filterMap_cons_some (b := V.ref k.1) (by rw [if_pos h]), List.filter_cons_of_pos (by exact decide_eq_true h), ih]
      rfl
    · rw [List.filterMap_cons_none (by rw [if_neg h]), List.filter_cons_of_neg (by rw [decide_eq_false h]; decide), ih]
theorem TL.filter {α : Type} {f : α → List Int} {H : Hp} {a : Addr} {ks : List (Addr × α)} {p : Addr × α → Bool} (h : Tus f H ks) (ha : H a = some (.lst (refs (ks.filter p)))) : TL f H a (ks.filter p) :=
  ⟨ha, fun k hk => h k (List.mem_filter.mp hk).1⟩
theorem w_eqRows {α : Type} {f : α → List Int} {K : PySem.W.Frag} {H : Hp} {Q : VK} {a b : Addr} {ks : List (Addr × α)} (h : TL f H a ks) (hb : H b = some (.lst [])) (h3 : ∀ x, (f x).length = 3) (q : Q (.bl ks.isEmpty) H) : rEqD K (.ref a) (.ref b) H Q :=
  ⟨_, .list [], Dp.rows h, .lst (SqL.of hb) .nil, FD.dTs0 fun x _ => h3 x, shaped_nil, by
    rw [eqv_nil_rows]
    have e : (vals ks).isEmpty = ks.isEmpty := by cases ks <;> rfl
    rw [e]
    exact q⟩
end Kt
namespace Kt
open PySem PySem.Spec PyProof.Rows L2
theorem w_bm {K : PySem.W.Frag} {T : String} {r : V → List V → Hp → VK → Prop} {to : TE} {t : TA} {σ : L2.St} {H : Hp} {Q : VK} (q : to σ H fun x H1 => tyV K T x H1 ∧ t σ H1 fun xs H2 => r x xs H2 Q) : tBM K T r to t σ H Q := q
theorem w_app {l : Addr} {xs : List V} {y : V} {H : Hp} {Q : VK} (h : H l = some (.lst xs)) (hz : xs.length ≤ 1000) (q : Q .non (upd H l (.lst (xs ++ [y])))) : rAppend (.ref l) [y] H Q := ⟨l, xs, y, rfl, rfl, h, szl hz, q⟩
theorem GoodL.snoc {ns : List Note} {m : Note} (h : GoodL ns) (ho : m.ok) (hs : ∀ n ∈ ns, n.p = m.p → n.e < m.s) : GoodL (ns ++ [m]) :=
  ⟨fun n hn => by
    rcases List.mem_append.mp hn with hn | hn
    · exact h.ok n hn
    · rw [List.mem_singleton.mp hn]; exact ho,
   List.pairwise_append.mpr ⟨h.apart, List.pairwise_singleton _ _, fun a ha b hb e => by
    rw [List.mem_singleton.mp hb] at e ⊢
    exact .inl (hs a ha e)⟩⟩
end Kt
namespace Kt
open PySem PySem.Spec PyProof.Rows L2
theorem inV_ints {z : Int} (ns : List Int) : inV (.int z) (ns.map V.int) = decide (z ∈ ns) := by
  induction ns with
  | nil => simp [inV]
  | cons a r ih =>
    have e : inV (.int z) ((a :: r).map V.int) = (eqV (.int a) (.int z) || inV (.int z) (r.map V.int)) := rfl
    rw [e, ih]
    have e2 : eqV (.int a) (.int z) = decide (z = a) := by
      show (a == z) = _
      by_cases h : a = z
      · rw [h, beq_self_eq_true, decide_eq_true rfl]
      · rw [beq_eq_false_iff_ne.mpr h, decide_eq_false (Ne.symm h)]
    rw [e2, Bool.eq_iff_iff]
    simp
theorem flat_ints (ns : List Int) : (ns.map V.int).all flatV = true := by
  rw [List.all_eq_true]
  intro x hx
  obtain ⟨n, _, rfl⟩ := List.mem_map.mp hx
  rfl
theorem w_inI {K : PySem.W.Frag} {H : Hp} {Q : VK} {z : Int} {p : Addr} {ns : List Int} (h : H p = some (.lst (ns.map V.int))) (q : Q (.bl (decide (z ∈ ns))) H) : rIn K false (.int z) (.ref p) H Q :=
  ⟨p, _, rfl, .inl (SqL.of h), rfl, flat_ints ns, by rw [inV_ints]; exact q⟩
theorem w_ninI {K : PySem.W.Frag} {H : Hp} {Q : VK} {z : Int} {p : Addr} {ns : List Int} (h : H p = some (.lst (ns.map V.int))) (q : Q (.bl (!decide (z ∈ ns))) H) : rIn K true (.int z) (.ref p) H Q :=
  ⟨p, _, rfl, .inl (SqL.of h), rfl, flat_ints ns, by rw [inV_ints]; exact q⟩
end Kt
namespace Kt
/-- strictly ascending -/
abbrev SD (l : List Int) : Prop := l.Pairwise (· < ·)
theorem sd_of {l m : List Int} (p : l.Perm m) (nd : m.Nodup) (s : l.Pairwise (· ≤ ·)) : SD l := by
  have nd' : l.Nodup := p.nodup_iff.mpr nd
  exact (nd'.and s).imp fun {a b} h => by
    have := h.1
    have := h.2
    omega
theorem sd_ext : ∀ {l m : List Int}, SD l → SD m → (∀ x, x ∈ l ↔ x ∈ m) → l = m
  | [], [], _, _, _ => rfl
  | [], b :: m, _, _, h => absurd ((h b).mpr List.mem_cons_self) (by simp)
  | a :: l, [], _, _, h => absurd ((h a).mp List.mem_cons_self) (by simp)
  | a :: l, b :: m, hl, hm, h => by
    have hl' := List.pairwise_cons.mp hl
    have hm' := List.pairwise_cons.mp hm
    have e : a = b := by
      rcases List.mem_cons.mp ((h a).mp List.mem_cons_self) with e | e
      · exact e
      · rcases List.mem_cons.mp ((h b).mpr List.mem_cons_self) with e' | e'
        · exact e'.symm
        · have := hl'.1 b e'
          have := hm'.1 a e
          omega
    subst e
    rw [sd_ext hl'.2 hm'.2 fun x => ?_]
    constructor
    · intro hx
      have hlt := hl'.1 x hx
      rcases List.mem_cons.mp ((h x).mp (List.mem_cons_of_mem _ hx)) with e | e
      · omega
      · exact e
    · intro hx
      have hlt := hm'.1 x hx
      rcases List.mem_cons.mp ((h x).mpr (List.mem_cons_of_mem _ hx)) with e | e
      · omega
      · exact e
theorem mem_take_succ {α : Type} {l : List α} {i : Nat} {x : α} (h : l[i]? = some x) (P : α → Prop) : (∃ n ∈ l.take (i + 1), P n) ↔ ((∃ n ∈ l.take i, P n) ∨ P x) := by
  rw [List.take_add_one, h]
  constructor
  · rintro ⟨n, hn, p⟩
    rcases List.mem_append.mp hn with hn | hn
    · exact .inl ⟨n, hn, p⟩
    · rw [show n = x by simpa using hn] at p
      exact .inr p
  · rintro (⟨n, hn, p⟩ | p)
    · exact ⟨n, List.mem_append_left _ hn, p⟩
    · exact ⟨x, List.mem_append_right _ (by simp), p⟩
/-- the pitch x is busy at m, with tuning time t -/
def Busy (ns : List Note) (t m x : Int) : Prop := ∃ n ∈ ns, n.p = x ∧ n.s ≤ m ∧ m ≤ n.e + t - 1
/-- the pitches that are busy, in order -/
structure IsBusy (ns : List Note) (t m : Int) (bs : List Int) : Prop where
  sd : SD bs
  mem : ∀ x, x ∈ bs ↔ Busy ns t m x
structure IsPitches (ns : List Note) (bs : List Int) : Prop where
  sd : SD bs
  mem : ∀ x, x ∈ bs ↔ ∃ n ∈ ns, n.p = x
/-- new at the end: what a search for different ones keeps -/
theorem nodup_snoc {l : List Int} {x : Int} (h : l.Nodup) (hx : x ∉ l) : (l ++ [x]).Nodup := by
  rw [List.nodup_append]
  refine ⟨h, by simp, fun a ha b hb => ?_⟩
  rw [List.mem_singleton.mp hb]
  exact fun z => hx (z ▸ ha)
end Kt
namespace Kt
open PySem PySem.Spec PyProof.Rows L2
theorem Same.fresh {H H' : Hp} (e : Same H H') {p : Addr} (h : H' p = none) : H p = none := by
  cases q : H p with
  | none => rfl
  | some o => rw [e _ _ q] at h; cases h
end Kt
namespace Kt
def busyL (ns : List Note) (t m : Int) : List Int := ((List.range 120).map Int.ofNat).filter fun x => decide (∃ n ∈ ns, n.p = x ∧ n.s ≤ m ∧ m ≤ n.e + t - 1)
theorem sd_range (n : Nat) : SD ((List.range n).map Int.ofNat) := by
  show List.Pairwise _ _
  rw [List.pairwise_map]
  exact List.pairwise_lt_range.imp fun h => Int.ofNat_lt.mpr h
theorem mem_rangeI {n : Nat} {x : Int} : x ∈ (List.range n).map Int.ofNat ↔ 0 ≤ x ∧ x < n := by
  rw [List.mem_map]
  constructor
  · rintro ⟨k, hk, rfl⟩
    rw [List.mem_range] at hk
    simp only [Int.ofNat_eq_natCast]
    omega
  · rintro ⟨h0, h1⟩
    exact ⟨x.toNat, List.mem_range.mpr (by omega), by simp only [Int.ofNat_eq_natCast]; omega⟩
theorem busyL_is {ns : List Note} (ok : ∀ n ∈ ns, n.ok) (t m : Int) : IsBusy ns t m (busyL ns t m) := by
  refine ⟨(sd_range 120).filter _, fun x => ?_⟩
  unfold busyL
  rw [List.mem_filter, mem_rangeI]
  constructor
  · rintro ⟨_, h⟩
    have h' := of_decide_eq_true h
    exact h'
  · intro h
    have h : ∃ n ∈ ns, n.p = x ∧ n.s ≤ m ∧ m ≤ n.e + t - 1 := h
    refine ⟨?_, decide_eq_true h⟩
    obtain ⟨n, hn, e, _⟩ := h
    obtain ⟨h1, h2, h3, h4, h5⟩ := ok n hn
    omega
def cnt (ns : List Note) (t m : Int) : Nat := (busyL ns t m).length
theorem IsBusy.cnt {ns : List Note} {t m : Int} {bs : List Int} (h : IsBusy ns t m bs) (ok : ∀ n ∈ ns, n.ok) : bs.length = Kt.cnt ns t m := by
  have h2 := busyL_is ok t m
  rw [sd_ext h.sd h2.sd fun x => (h.mem x).trans (h2.mem x).symm]
  rfl
/-- the most pitches busy at one of the starts -/
def Most (ns : List Note) (t m : Int) : Prop := (ns = [] ∧ m = 0) ∨ ((∃ n ∈ ns, m = cnt ns t n.s) ∧ ∀ n ∈ ns, (cnt ns t n.s : Int) ≤ m)
end Kt
namespace Kt
/-! ## the plain law of slowest and pinch: the gap of the tightest notes -/
theorem nodup_sub {α : Type} [DecidableEq α] : ∀ {l m : List α}, l.Nodup → (∀ x ∈ l, x ∈ m) → l.length ≤ m.length
  | [], m, _, _ => Nat.zero_le _
  | x :: r, m, nd, h => by
    have nd' := List.nodup_cons.mp nd
    have hx := h x List.mem_cons_self
    have h1 : r.length ≤ (m.erase x).length := nodup_sub nd'.2 fun y hy => (List.mem_erase_of_ne (fun z : y = x => nd'.1 (z ▸ hy))).mpr (h y (List.mem_cons_of_mem _ hy))
    rw [List.length_erase_of_mem hx] at h1
    have h2 : 0 < m.length := List.length_pos_of_mem hx
    rw [List.length_cons]
    omega
/-- the pitch of a row's note -/
def rowP (ns : List Note) (r : Int × Int) : Int := ((ns[r.2.toNat]?).map (·.p)).getD 0
theorem rowP_eq {ns : List Note} {r : Int × Int} {i : Nat} {m : Note} (h : r.2 = (i : Int)) (hm : ns[i]? = some m) : rowP ns r = m.p := by
  unfold rowP
  rw [h, Int.toNat_natCast, hm]
  rfl
/-- a row's starts grow -/
theorem NR.starts {ns : List Note} {j : Nat} {rs : List (Int × Int)} (h : NR ns j rs) (hl : ns.length ≤ 60) : rs.Pairwise fun x y => x.1 ≤ y.1 := by
  refine h.ord.imp_of_mem fun {x y} hx hy z => ?_
  obtain ⟨i, m, n, e1, e2, _⟩ := h.sound x hx
  obtain ⟨i', m', n', e1', e2', _⟩ := h.sound y hy
  have l1 := (List.getElem?_eq_some_iff.mp e2).1
  have l2 := (List.getElem?_eq_some_iff.mp e2').1
  unfold pkey at z
  omega
theorem take_filter_le {rs : List (Int × Int)} {c : Int} (h : rs.Pairwise fun x y => x.1 ≤ y.1) {i : Nat} (hi : i < (rs.filter fun r => decide (r.1 ≤ c)).length) : ∃ r, rs[i]? = some r ∧ r.1 ≤ c := by
  induction rs generalizing i with
  | nil => simp at hi
  | cons r rs ih =>
    have h' := List.pairwise_cons.mp h
    by_cases hr : r.1 ≤ c
    · rw [List.filter_cons_of_pos (by exact decide_eq_true hr), List.length_cons] at hi
      cases i with
      | zero => exact ⟨r, rfl, hr⟩
      | succ i => exact ih h'.2 (by omega)
    · exfalso
      have e : (r :: rs).filter (fun r => decide (r.1 ≤ c)) = [] := by
        rw [List.filter_eq_nil_iff]
        intro x hx
        rcases List.mem_cons.mp hx with rfl | hx
        · simpa using hr
        · have := h'.1 x hx
          have hh : ¬ x.1 ≤ c := by omega
          simpa using hh
      rw [e] at hi
      simp at hi
theorem argmin {ns : List Note} (P : Note → Prop) (h : ∃ n ∈ ns, P n) : ∃ (j : Nat) (n : Note), ns[j]? = some n ∧ P n ∧ ∀ m ∈ ns, P m → n.e ≤ m.e := by
  induction ns with
  | nil => obtain ⟨n, hn, _⟩ := h; simp at hn
  | cons a r ih =>
    by_cases hr : ∃ n ∈ r, P n
    · obtain ⟨j, n, hj, hp, hm⟩ := ih hr
      by_cases ha : P a ∧ a.e ≤ n.e
      · refine ⟨0, a, rfl, ha.1, fun m hm' pm => ?_⟩
        rcases List.mem_cons.mp hm' with rfl | hm'
        · exact Int.le_refl _
        · exact Int.le_trans ha.2 (hm m hm' pm)
      · refine ⟨j + 1, n, hj, hp, fun m hm' pm => ?_⟩
        rcases List.mem_cons.mp hm' with rfl | hm'
        · have : ¬ m.e ≤ n.e := fun z => ha ⟨pm, z⟩
          omega
        · exact hm m hm' pm
    · obtain ⟨n, hn, pn⟩ := h
      rcases List.mem_cons.mp hn with rfl | hn
      · refine ⟨0, n, rfl, pn, fun m hm' pm => ?_⟩
        rcases List.mem_cons.mp hm' with rfl | hm'
        · exact Int.le_refl _
        · exact absurd ⟨m, hm', pm⟩ hr
      · exact absurd ⟨n, hn, pn⟩ hr
theorem max_ex (a : Int) (l : List Int) : ∃ m, IsMax (a :: l) m := by
  induction l generalizing a with
  | nil => exact ⟨a, List.mem_cons_self, fun x hx => by rw [List.mem_singleton.mp hx]; exact Int.le_refl _⟩
  | cons b r ih =>
    obtain ⟨m, h1, h2⟩ := ih b
    by_cases h : a ≤ m
    · refine ⟨m, List.mem_cons_of_mem _ h1, fun x hx => ?_⟩
      rcases List.mem_cons.mp hx with rfl | hx
      · exact h
      · exact h2 x hx
    · refine ⟨a, List.mem_cons_self, fun x hx => ?_⟩
      rcases List.mem_cons.mp hx with rfl | hx
      · exact Int.le_refl _
      · have := h2 x hx
        omega
/-- many pitches busy at a moment: some note has that many near it, with a gap below the tuning time -/
theorem busy_gap {ns : List Note} {R : Nat → List (Int × Int)} {d : Nat} {t m0 : Int} {bs : List Int} (hl : ns.length ≤ 60) (hR : ∀ j, j < ns.length → NR ns j (R j)) (hb : IsBusy ns t m0 bs) (hd : d + 1 ≤ bs.length) :
    ∃ (j : Nat) (n : Note) (g : Int), ns[j]? = some n ∧ d ≤ (R j).length ∧ IsMax (n.s :: ((R j).take d).map (·.1)) (g + n.e) ∧ g ≤ t - 1 := by
  have hex : ∃ n ∈ ns, n.s ≤ m0 ∧ m0 ≤ n.e + t - 1 := by
    cases bs with
    | nil => simp at hd
    | cons x r =>
      obtain ⟨n, hn, _, h1, h2⟩ := (hb.mem x).mp List.mem_cons_self
      exact ⟨n, hn, h1, h2⟩
  obtain ⟨j, n, hj, ⟨n1, n2⟩, hmin⟩ := argmin _ hex
  have hjl := (List.getElem?_eq_some_iff.mp hj).1
  have nr := hR j hjl
  let S := (R j).filter fun r => decide (r.1 ≤ m0)
  have nd : bs.Nodup := hb.sd.imp fun {a b} h => by omega
  have hsub : ∀ x ∈ bs.filter (fun x => decide (x ≠ n.p)), x ∈ S.map (rowP ns) := by
    intro x hx
    obtain ⟨hx1, hx2⟩ := List.mem_filter.mp hx
    have hx2 : x ≠ n.p := of_decide_eq_true hx2
    obtain ⟨m, hm, e, h1, h2⟩ := (hb.mem x).mp hx1
    obtain ⟨i, hi, hmi⟩ := List.getElem_of_mem hm
    have hmi' : ns[i]? = some m := by rw [List.getElem?_eq_getElem hi, hmi]
    obtain ⟨r, hr, i', m', e1, e2, e3, e4⟩ := nr.full i m n hmi' hj (hmin m hm ⟨h1, h2⟩) (by rw [e]; exact hx2)
    refine List.mem_map.mpr ⟨r, List.mem_filter.mpr ⟨hr, decide_eq_true (by omega)⟩, ?_⟩
    rw [rowP_eq e1 e2, e3, e]
  have hlen : (bs.filter (fun x => decide (x ≠ n.p))).length ≤ S.length := by
    have := nodup_sub (nd.filter _) hsub
    rwa [List.length_map] at this
  have hlen2 : bs.length ≤ (bs.filter (fun x => decide (x ≠ n.p))).length + 1 := by
    have h3 : ∀ x ∈ bs, x ∈ n.p :: bs.filter (fun x => decide (x ≠ n.p)) := fun x hx => by
      by_cases e : x = n.p
      · rw [e]; exact List.mem_cons_self
      · exact List.mem_cons_of_mem _ (List.mem_filter.mpr ⟨hx, decide_eq_true e⟩)
    have := nodup_sub nd h3
    rwa [List.length_cons] at this
  have hS : d ≤ S.length := by omega
  have hSl : S.length ≤ (R j).length := List.length_filter_le _ _
  obtain ⟨M, hM⟩ := max_ex n.s (((R j).take d).map (·.1))
  have hMle : M ≤ m0 := by
    rcases List.mem_cons.mp hM.1 with e | hm
    · rw [e]; exact n1
    · obtain ⟨r, hr, e⟩ := List.mem_map.mp hm
      obtain ⟨i, hi, hri⟩ := List.getElem_of_mem hr
      rw [List.length_take] at hi
      rw [List.getElem_take] at hri
      obtain ⟨r', hr', hle⟩ := take_filter_le (nr.starts hl) (i := i) (c := m0) (by show i < S.length; omega)
      rw [List.getElem?_eq_getElem (by omega)] at hr'
      have := Option.some.inj hr'
      rw [hri] at this
      rw [← e, this]
      exact hle
  exact ⟨j, n, M - n.e, hj, by omega, by rw [Int.sub_add_cancel]; exact hM, by omega⟩
/-- the pitches of a note and of the first rows near it: all different, all busy -/
theorem gap_pitches {ns : List Note} {j d : Nat} {n : Note} {rs : List (Int × Int)} (hR : NR ns j rs) (hj : ns[j]? = some n) (hd : d ≤ rs.length) :
    (n.p :: (rs.take d).map (rowP ns)).Nodup ∧ (n.p :: (rs.take d).map (rowP ns)).length = d + 1 := by
  refine ⟨List.nodup_cons.mpr ⟨fun h => ?_, ?_⟩, by rw [List.length_cons, List.length_map, List.length_take, Nat.min_eq_left hd]⟩
  · obtain ⟨r, hr, e⟩ := List.mem_map.mp h
    obtain ⟨i, m, n', e1, e2, e3, _, _, e4⟩ := hR.sound r (List.mem_of_mem_take hr)
    rw [hj] at e3
    cases e3
    rw [rowP_eq e1 e2] at e
    exact e4 e
  · unfold List.Nodup
    rw [List.pairwise_map]
    have h1 : (rs.take d).Pairwise fun x y => ∀ (i j : Nat) (m n : Note), x.2 = (i : Int) → y.2 = (j : Int) → ns[i]? = some m → ns[j]? = some n → m.p ≠ n.p := hR.apart.sublist (List.take_sublist _ _)
    refine h1.imp_of_mem fun {x y} hx hy z => ?_
    obtain ⟨i, m, n', e1, e2, _⟩ := hR.sound x (List.mem_of_mem_take hx)
    obtain ⟨i', m', n'', e1', e2', _⟩ := hR.sound y (List.mem_of_mem_take hy)
    rw [rowP_eq e1 e2, rowP_eq e1' e2']
    exact z i i' m m' e1 e1' e2 e2'
theorem gap_few {ns : List Note} {j d : Nat} {n : Note} {rs : List (Int × Int)} {ps : List Int} (hR : NR ns j rs) (hj : ns[j]? = some n) (hd : d ≤ rs.length) (hp : IsPitches ns ps) : d + 1 ≤ ps.length := by
  obtain ⟨nd, hl⟩ := gap_pitches hR hj hd
  rw [← hl]
  refine nodup_sub nd fun x hx => (hp.mem x).mpr ?_
  rcases List.mem_cons.mp hx with rfl | hx
  · exact ⟨n, List.mem_of_getElem? hj, rfl⟩
  · obtain ⟨r, hr, rfl⟩ := List.mem_map.mp hx
    obtain ⟨i, m, n', e1, e2, _⟩ := hR.sound r (List.mem_of_mem_take hr)
    exact ⟨m, List.mem_of_getElem? e2, (rowP_eq e1 e2).symm⟩
/-- a gap below the tuning time: so many pitches are busy at once, where one of the notes begins -/
theorem gap_busy {ns : List Note} {j d : Nat} {n : Note} {rs : List (Int × Int)} {t g : Int} (ok : ∀ n ∈ ns, n.ok) (hR : NR ns j rs) (hj : ns[j]? = some n) (hd : d ≤ rs.length) (hM : IsMax (n.s :: (rs.take d).map (·.1)) (g + n.e)) (hg : g ≤ t - 1) :
    ∃ m ∈ ns, m.s = g + n.e ∧ d + 1 ≤ cnt ns t m.s := by
  have hst : ∃ m ∈ ns, m.s = g + n.e := by
    rcases List.mem_cons.mp hM.1 with e | hm
    · exact ⟨n, List.mem_of_getElem? hj, e.symm⟩
    · obtain ⟨r, hr, e⟩ := List.mem_map.mp hm
      obtain ⟨i, m, n', e1, e2, _, e3, _⟩ := hR.sound r (List.mem_of_mem_take hr)
      exact ⟨m, List.mem_of_getElem? e2, by rw [← e3, e]⟩
  obtain ⟨m, hm, em⟩ := hst
  refine ⟨m, hm, em, ?_⟩
  obtain ⟨nd, hl⟩ := gap_pitches hR hj hd
  rw [← hl, em]
  refine nodup_sub nd fun x hx => ((busyL_is ok t (g + n.e)).mem x).mpr ?_
  rcases List.mem_cons.mp hx with rfl | hx
  · exact ⟨n, List.mem_of_getElem? hj, rfl, hM.2 _ List.mem_cons_self, by omega⟩
  · obtain ⟨r, hr, rfl⟩ := List.mem_map.mp hx
    obtain ⟨i, m', n', e1, e2, e0, e3, e4, _⟩ := hR.sound r (List.mem_of_mem_take hr)
    rw [hj] at e0
    cases e0
    have := hM.2 _ (List.mem_cons_of_mem _ (List.mem_map.mpr ⟨r, hr, rfl⟩))
    exact ⟨m', List.mem_of_getElem? e2, (rowP_eq e1 e2).symm, by omega, by omega⟩
/-- no note with so many near it: no more pitches than drums -/
theorem none_few {ns : List Note} {R : Nat → List (Int × Int)} {d : Nat} (hl : ns.length ≤ 60) (ok : ∀ n ∈ ns, n.ok) (hR : ∀ j, j < ns.length → NR ns j (R j)) (h : ∀ j, j < ns.length → (R j).length + 1 < d + 1) {ps : List Int} (hp : IsPitches ns ps) : ps.length ≤ d := by
  refine Classical.byContradiction fun hc => ?_
  have hb : IsBusy ns 20000 9999 ps := ⟨hp.sd, fun x => by
    rw [hp.mem]
    constructor
    · rintro ⟨n, hn, e⟩
      obtain ⟨h1, h2, h3, h4, h5⟩ := ok n hn
      exact ⟨n, hn, e, by omega, by omega⟩
    · rintro ⟨n, hn, e, _⟩
      exact ⟨n, hn, e⟩⟩
  obtain ⟨j, n, g, hj, hd, _⟩ := busy_gap (d := d) hl hR hb (by omega)
  have := h j (List.getElem?_eq_some_iff.mp hj).1
  omega
/-- slowest is right -/
theorem slow_some {ns : List Note} {R : Nat → List (Int × Int)} {d : Nat} (hl : ns.length ≤ 60) (ok : ∀ n ∈ ns, n.ok) (hR : ∀ j, j < ns.length → NR ns j (R j)) {g : Int} {j : Nat} {n : Note} (hj : ns[j]? = some n) (hd : d + 1 ≤ (R j).length + 1)
    (hM : IsMax (n.s :: ((R j).take d).map (·.1)) (g + n.e))
    (hmin : ∀ (j' : Nat) (n' : Note) (g' : Int), j' < ns.length → ns[j']? = some n' → d + 1 ≤ (R j').length + 1 → IsMax (n'.s :: ((R j').take d).map (·.1)) (g' + n'.e) → g ≤ g') :
    ∀ f, f = (if g > 0 then g else 0) → 0 ≤ f ∧ f ≤ 9999 ∧ (∀ ps, IsPitches ns ps → (d : Int) < ps.length) ∧ (f = 0 ∨ ∀ m, Most ns f m → m ≤ d) ∧ ∀ m, Most ns (f + 1) m → d < m := by
  intro f hf
  have hjl := (List.getElem?_eq_some_iff.mp hj).1
  have hn := List.mem_of_getElem? hj
  obtain ⟨m0, hm0, e0, c0⟩ := gap_busy (t := f + 1) ok (hR j hjl) hj (by omega) hM (by rw [hf]; split <;> omega)
  have ok0 := ok m0 hm0
  have okn := ok n hn
  obtain ⟨a1, a2, a3, a4, a5⟩ := ok0
  obtain ⟨b1, b2, b3, b4, b5⟩ := okn
  refine ⟨by rw [hf]; split <;> omega, by rw [hf]; split <;> omega, fun ps hp => ?_, ?_, fun m hm => ?_⟩
  · have := gap_few (d := d) (hR j hjl) hj (by omega) hp
    omega
  · by_cases hg : g > 0
    · refine .inr fun m hm => ?_
      rw [hf, if_pos hg] at hm
      rcases hm with ⟨_, rfl⟩ | ⟨⟨n1, hn1, rfl⟩, _⟩
      · omega
      · refine Classical.byContradiction fun hc => ?_
        obtain ⟨j', n', g', hj', hd', hM', hg'⟩ := busy_gap (d := d) hl hR (busyL_is ok g n1.s) (by unfold cnt at hc; omega)
        have := hmin j' n' g' (List.getElem?_eq_some_iff.mp hj').1 hj' (by omega) hM'
        omega
    · exact .inl (by rw [hf, if_neg hg])
  · rcases hm with ⟨e, rfl⟩ | ⟨_, h2⟩
    · rw [e] at hn
      simp at hn
    · have := h2 m0 hm0
      omega
end Kt
namespace Kt
open PySem PySem.Spec PyProof.Rows L2
/-! ## what laws share -/
instance (n : Note) : Decidable n.ok := by unfold Note.ok; infer_instance
theorem sorted_eq : ∀ {l m : List Note}, l.Perm m → l.Pairwise (fun x y => x.key ≤ y.key) → m.Pairwise (fun x y => x.key ≤ y.key) → (∀ n ∈ m, n.ok) → l = m
  | [], m, p, _, _, _ => p.nil_eq
  | a :: l, [], p, _, _, _ => absurd p.length_eq (by simp)
  | a :: l, b :: m, p, hl, hm, ok => by
    have hl' := List.pairwise_cons.mp hl
    have hm' := List.pairwise_cons.mp hm
    have ha : a ∈ b :: m := p.mem_iff.mp List.mem_cons_self
    have hb : b ∈ a :: l := p.mem_iff.mpr List.mem_cons_self
    have e : a = b := by
      rcases List.mem_cons.mp ha with e | ha'
      · exact e
      · rcases List.mem_cons.mp hb with e | hb'
        · exact e.symm
        · exact key_inj (ok a ha) (ok b List.mem_cons_self) (Int.le_antisymm (hl'.1 b hb') (hm'.1 a ha'))
    subst e
    rw [sorted_eq ((List.perm_cons _).mp p) hl'.2 hm'.2 fun n hn => ok n (List.mem_cons_of_mem _ hn)]
theorem vals_sorted {js ks : List (Addr × Note)} (p : js.Perm ks) (hj : js.Pairwise fun x y => x.2.key ≤ y.2.key) (hk : ks.Pairwise fun x y => x.2.key ≤ y.2.key) (ok : ∀ k ∈ ks, k.2.ok) : vals js = vals ks := by
  refine sorted_eq (p.map _) ?_ ?_ fun n hn => ?_
  · rw [List.pairwise_map]; exact hj
  · rw [List.pairwise_map]; exact hk
  · obtain ⟨k, hk', rfl⟩ := mem_vals hn
    exact ok k hk'
theorem vals_sorted' {js ks : List (Addr × Note)} {ns : List Note} (p : js.Perm ks) (hj : js.Pairwise fun x y => x.2.key ≤ y.2.key) (pn : (vals ks).Perm ns) (hn : ns.Pairwise fun x y => x.key ≤ y.key) (ok : ∀ n ∈ ns, n.ok) : vals js = ns := by
  refine sorted_eq ((p.map _).trans pn) ?_ hn ok
  rw [List.pairwise_map]
  exact hj
section
variable {H H1 H2 : Hp} {b : Addr}
theorem Ex.same (h : Ex b H1 H2) (e : Same H H1) (hb : H b = none) : Same H H2 := fun a o q => h.at_ a o (fun z => by rw [z, hb] at q; cases q) (e a o q)
/-- an object made by its class: all that was stays -/
theorem Same.make {x dx : Addr} {o1 o2 : HO} {H' : Hp} (hx : H x = none) (hd : H dx = none) (keep : ∀ b o, b ≠ x → (upd (upd H dx o1) x o2) b = some o → H' b = some o) : Same H H' := fun a o e => by
  have na := ne_of_none e hx
  refine keep a o na ?_
  rw [upd_ne na, upd_ne (ne_of_none e hd)]
  exact e
end
theorem of_ints {ns : List Int} {i : Nat} {x : V} (h : (ns.map V.int)[i]? = some x) : ∃ z, ns[i]? = some z ∧ x = .int z := by
  rw [List.getElem?_map] at h
  cases e : ns[i]? with
  | none => rw [e] at h; cases h
  | some z => rw [e] at h; exact ⟨z, rfl, (Option.some.inj h).symm⟩
/-! ## the counts -/
theorem busyL_mono {ns : List Note} {t t' m : Int} (h : t ≤ t') : ∀ x ∈ busyL ns t m, x ∈ busyL ns t' m := fun x hx => by
  unfold busyL at hx ⊢
  obtain ⟨h1, h2⟩ := List.mem_filter.mp hx
  refine List.mem_filter.mpr ⟨h1, ?_⟩
  obtain ⟨n, hn, e, h3, h4⟩ := of_decide_eq_true h2
  exact decide_eq_true ⟨n, hn, e, h3, by omega⟩
theorem cnt_mono {ns : List Note} {t t' m : Int} (h : t ≤ t') : cnt ns t m ≤ cnt ns t' m := by
  unfold cnt
  refine nodup_sub ?_ (busyL_mono h)
  have := (sd_range 120).filter fun x => decide (∃ n ∈ ns, n.p = x ∧ n.s ≤ m ∧ m ≤ n.e + t - 1)
  exact this.imp fun {a b} h => by omega
theorem most_ex (ns : List Note) (t : Int) : ∃ m, Most ns t m := by
  cases ns with
  | nil => exact ⟨0, .inl ⟨rfl, rfl⟩⟩
  | cons a r =>
    obtain ⟨m, h1, h2⟩ := max_ex (cnt (a :: r) t a.s : Int) (r.map fun n => (cnt (a :: r) t n.s : Int))
    have e : (cnt (a :: r) t a.s : Int) :: (r.map fun n => (cnt (a :: r) t n.s : Int)) = (a :: r).map fun n => (cnt (a :: r) t n.s : Int) := rfl
    rw [e] at h1 h2
    refine ⟨m, .inr ⟨?_, fun n hn => h2 _ (List.mem_map.mpr ⟨n, hn, rfl⟩)⟩⟩
    obtain ⟨n, hn, e⟩ := List.mem_map.mp h1
    exact ⟨n, hn, e.symm⟩
/-- what slowest must return, v, for d drums -/
def SlowOk (ns : List Note) (d : Int) (v : V) : Prop := (v = .non ∧ ∀ ps, IsPitches ns ps → (ps.length : Int) ≤ d) ∨
  ∃ f : Int, v = .int f ∧ 0 ≤ f ∧ f ≤ 9999 ∧ (∀ ps, IsPitches ns ps → d < ps.length) ∧ (f = 0 ∨ ∀ m, Most ns f m → m ≤ d) ∧ ∀ m, Most ns (f + 1) m → d < m
theorem SlowOk.non {ns : List Note} {d : Int} {v : V} (h : SlowOk ns d v) {ps : List Int} (hp : IsPitches ns ps) (hd : (ps.length : Int) ≤ d) : v = .non := by
  rcases h with h | ⟨f, _, _, _, h, _⟩
  · exact h.1
  · have := h ps hp
    omega
theorem SlowOk.int {ns : List Note} {d : Int} {v : V} (h : SlowOk ns d v) {ps : List Int} (hp : IsPitches ns ps) (hd : d < ps.length) (F : Int) (h0 : F = 0 ∨ 0 ≤ F ∧ ∀ n ∈ ns, (cnt ns F n.s : Int) ≤ d) (h1 : ∃ n ∈ ns, d < cnt ns (F + 1) n.s) : v = .int F := by
  rcases h with ⟨_, h⟩ | ⟨f, rfl, f0, f1, _, hlow, hhigh⟩
  · have := h ps hp
    omega
  · congr 1
    refine Classical.byContradiction fun hne => ?_
    by_cases hlt : f < F
    · obtain ⟨m, hm⟩ := most_ex ns (f + 1)
      have hdm := hhigh m hm
      rcases hm with ⟨rfl, rfl⟩ | ⟨⟨n, hn, rfl⟩, _⟩
      · obtain ⟨n, hn, _⟩ := h1
        simp at hn
      · rcases h0 with rfl | ⟨_, h0⟩
        · omega
        · have := h0 n hn
          have := cnt_mono (ns := ns) (t := f + 1) (t' := F) (m := n.s) (by omega)
          omega
    · obtain ⟨n, hn, hc⟩ := h1
      obtain ⟨m, hm⟩ := most_ex ns f
      have hF : 0 ≤ F := by rcases h0 with h0 | h0 <;> omega
      have hle := (hlow.resolve_left (by omega)) m hm
      rcases hm with ⟨rfl, rfl⟩ | ⟨_, h2⟩
      · simp at hn
      · have := h2 n hn
        have := cnt_mono (ns := ns) (t := F + 1) (t' := f) (m := n.s) (by omega)
        omega
end Kt
namespace Kt
open PySem PySem.Spec PyProof.Rows L2
section
variable {H : Hp}
theorem NL.nil {l : Addr} (h : H l = some (.lst [])) : NL H l [] := ⟨h, Tus.nil⟩
theorem tus1 {ks : List (Addr × Note)} {t : Addr} {n : Note} (h : H t = some (.tup [.int n.s, .int n.e, .int n.p])) (hs : Tus Note.l H ks) : Tus Note.l H ((t, n) :: ks) := fun k hk => by
  rcases List.mem_cons.mp hk with rfl | hk
  · exact h
  · exact hs k hk
theorem tus0 : Tus Note.l H [] := Tus.nil
end
theorem goodL_of {ns : List Note} (h : (ns.all fun n => decide n.ok) = true) (h2 : ns.Pairwise fun n m => n.p = m.p → n.e < m.s ∨ m.e < n.s) : GoodL ns := ⟨fun n hn => of_decide_eq_true (List.all_eq_true.mp h n hn), h2⟩
theorem pitches_of {ns : List Note} {ps : List Int} (h : SD ps) (h1 : ∀ n ∈ ns, n.p ∈ ps) (h2 : ∀ x ∈ ps, ∃ n ∈ ns, n.p = x) : IsPitches ns ps := ⟨h, fun x => ⟨fun hx => h2 x hx, fun ⟨n, hn, e⟩ => e ▸ h1 n hn⟩⟩
end Kt
namespace Kt
open PySem PySem.Spec PyProof.Rows L2
def Note.o (n : Note) : HO := .tup [.int n.s, .int n.e, .int n.p]
theorem mk2 {H : Hp} {t1 t2 l : Addr} (a b : Note) (h1 : H t1 = none) (h2 : (upd H t1 a.o) t2 = none) (h4 : (upd (upd H t1 a.o) t2 b.o) l = none) :
    NL (upd (upd (upd H t1 a.o) t2 b.o) l (.lst [.ref t1, .ref t2])) l [(t1, a), (t2, b)] ∧ Same H (upd (upd (upd H t1 a.o) t2 b.o) l (.lst [.ref t1, .ref t2])) := by
  have s1 := Same.new (o := a.o) h1
  have s2 := Same.new (o := b.o) h2
  have s4 := Same.new (o := .lst [.ref t1, .ref t2]) h4
  refine ⟨⟨upd_same, tus1 ?_ (tus1 ?_ tus0)⟩, s1.trans (s2.trans s4)⟩
  · exact s4 _ _ (s2 _ _ upd_same)
  · exact s4 _ _ upd_same
theorem mk3 {H : Hp} {t1 t2 t3 l : Addr} (a b c : Note) (h1 : H t1 = none) (h2 : (upd H t1 a.o) t2 = none) (h3 : (upd (upd H t1 a.o) t2 b.o) t3 = none) (h4 : (upd (upd (upd H t1 a.o) t2 b.o) t3 c.o) l = none) :
    NL (upd (upd (upd (upd H t1 a.o) t2 b.o) t3 c.o) l (.lst [.ref t1, .ref t2, .ref t3])) l [(t1, a), (t2, b), (t3, c)] ∧ Same H (upd (upd (upd (upd H t1 a.o) t2 b.o) t3 c.o) l (.lst [.ref t1, .ref t2, .ref t3])) := by
  have s1 := Same.new (o := a.o) h1
  have s2 := Same.new (o := b.o) h2
  have s3 := Same.new (o := c.o) h3
  have s4 := Same.new (o := .lst [.ref t1, .ref t2, .ref t3]) h4
  refine ⟨⟨upd_same, tus1 ?_ (tus1 ?_ (tus1 ?_ tus0))⟩, s1.trans (s2.trans (s3.trans s4))⟩
  · exact s4 _ _ (s3 _ _ (s2 _ _ upd_same))
  · exact s4 _ _ (s3 _ _ upd_same)
  · exact s4 _ _ upd_same
/-- a class's new object: what a list of tuples is in the heap of its __init__ -/
theorem NL.made {H : Hp} {l x dx : Addr} {ks : List (Addr × Note)} {o1 o2 : HO} (h : NL H l ks) (hx : H x = none) (hdx : H dx = none) (hne : dx ≠ x) : NL (upd (upd H dx o1) x o2) l ks :=
  h.same ((Same.new hdx).trans (Same.new (by rw [upd_ne (Ne.symm hne)]; exact hx)))
/-- the notes of the law's fixed parts -/
def farL : List Note := [⟨0, 0, 7⟩, ⟨5000, 5004, 11⟩, ⟨9999, 9999, 9⟩]
def nearL : List Note := [⟨3, 5, 7⟩, ⟨4, 4, 9⟩]
theorem far_pitches : IsPitches farL [7, 9, 11] := pitches_of (by decide) (by decide) (by decide)
theorem near_pitches : IsPitches nearL [7, 9] := pitches_of (by decide) (by decide) (by decide)
theorem no_pitches : IsPitches [] [] := pitches_of (by decide) (by decide) (by decide)
theorem far2 {v : V} (h : SlowOk farL 2 v) : v = .int 9999 := h.int far_pitches (by decide) 9999 (.inr ⟨by decide, by decide +kernel⟩) (by decide +kernel)
theorem far1 {v : V} (h : SlowOk farL 1 v) : v = .int 4995 := h.int far_pitches (by decide) 4995 (.inr ⟨by decide, by decide +kernel⟩) (by decide +kernel)
theorem far3 {v : V} (h : SlowOk farL 3 v) : v = .non := h.non far_pitches (by decide)
theorem near1 {v : V} (h : SlowOk nearL 1 v) : v = .int 0 := h.int near_pitches (by decide) 0 (.inl rfl) (by decide +kernel)
theorem none1 {v : V} (h : SlowOk [] 1 v) : v = .non := h.non no_pitches (by decide)
end Kt
namespace Kt
theorem far_good : GoodL [⟨0, 0, 7⟩, ⟨9999, 9999, 9⟩, ⟨5000, 5004, 11⟩] := goodL_of (by decide +kernel) (by decide +kernel)
theorem near_good : GoodL [⟨3, 5, 7⟩, ⟨4, 4, 9⟩] := goodL_of (by decide +kernel) (by decide +kernel)
end Kt
namespace Kt
open PySem
theorem kit_self {K : PySem.W.Frag} {C : Addr} : PySem.W.kitOne K (.ref C) (.ref C) = some true := if_pos (beq_self_eq_true _)
theorem kit_sub {K : PySem.W.Frag} {C : Addr} {T : String} {b : Bool} (hm : PySem.W.kitMeta T = true) (h : PySem.W.subIn K (.ref C) (.type T) = some b) : PySem.W.kitOne K (.ref C) (.type T) = some b := by
  unfold PySem.W.kitOne
  rw [if_neg (by intro z; cases (beq_iff_eq.mp z))]
  show (if PySem.W.kitMeta T = true then _ else _) = _
  rw [if_pos hm]
  exact h
end Kt
namespace Kt
open PySem PySem.Spec PyProof.Rows L2

/-! ## sets of ints made by a comprehension -/
/-- what an item does to the set in the making at L -/
def Puts (w : World) (L : Addr) (Nx : Hp → Prop) (y : V) (H : Hp) : Prop :=
  ∃ (c : Int) (S : Int → Bool) (n : Nat), y = .int c ∧ H L = some (SetO w L S n) ∧ n + 1 < scanBound ∧ Nx (upd H L (SetO w L (fun j => S j || decide (j = c)) (if S c = true then n else n + 1)))
/-- one turn of the block, ending in Nx -/
def scTurn (w : World) (g : TG) (tt : TT) (te : TE) (σ0 : L2.St) (vs : List Nat) (L : Addr) (Nx : Hp → Prop) (x : V) (H : Hp) : Prop :=
  g x σ0 H fun σ2 H2 => wipe σ2 vs = σ0 ∧ tt σ2 H2 fun b H3 => if b = true then te σ2 H3 (Puts w L Nx) else Nx H3
def tScI (w : World) (wi : TI) (g : TG) (tt : TT) (te : TE) (vs : List Nat) : TE := fun σ H Q => wi σ H fun J H1 => ∀ L, H1 L = none →
  ∃ W : Nat → Nat → Hp → Prop, (∃ m, W 0 m (upd H1 L (SetO w L (fun _ => false) 0))) ∧ ∀ i m H, W i m H →
    (J.stop i H ∧ Q (.ref L) H) ∨ (J.go i H ∧ ∃ Nx : Hp → Prop, (∀ H', Nx H' → ∃ m', m' < m ∧ W (i + 1) m' H') ∧ ∀ x H', J.yld i H x H' → scTurn w g tt te (wipe σ vs) vs L Nx x H')
section
variable {X : Cx} {pins : List (Addr × Obj)} {σ : L2.St} {H : Hp} {s : Shared} {E : Value → Shared → Prop}
theorem puts_run {L : Addr} {Nx : Hp → Prop} {y : V} {u : Value} {Q : Value → Shared → Prop} (I : Inv X pins σ H s) (hu : RelV y u) (h : Puts X.w L Nx y H) (q : ∀ H' s', Inv X pins σ H' s' → Nx H' → Q .none s') :
    wpAny (model X.prog X.w) X.A (call (.builtin "set.add") [.ref L, u]) Q E s := by
  obtain ⟨c, S, n, rfl, hL, room, nx⟩ := h
  obtain ⟨t, rfl⟩ := hu
  refine setR_add (setO_get I hL) room fun h' sb new => ?_
  have ⟨o, _, _, _, ho, _⟩ := new
  exact q _ _ (I.write (e := L) (t' := s.toks + 1) (by rw [hL]; trivial) (.inl rfl) (fun b v hb e => (sb.2 b hb).trans e) ⟨o, ho⟩ (setO_new new)) nx
/-- the whole comprehension -/
theorem pe_scI {elt tg iter : Expr} {ifs : List Expr} {scope : Scope} {own : List (Str × Nat)} {pos : Pos} {wi : TI} {g : TG} {tt : TT} {te : TE} (hc : X.calm = true) (hN : X.N.Nodup) (hi : PI X tg iter wi) (ok : BlkOk X.N X.env.scope scope own)
    (hg : ∀ (s : Shared) (H : Hp) (C : Addr) (cl : List (Str × Addr)) (fp : List Addr), PG (X.blk s H scope (compEnvC scope cl C X.env) fp) tg g)
    (ht : ∀ (s : Shared) (H : Hp) (C : Addr) (cl : List (Str × Addr)) (fp : List Addr), PTs (X.blk s H scope (compEnvC scope cl C X.env) fp) ifs tt)
    (he : ∀ (s : Shared) (H : Hp) (C : Addr) (cl : List (Str × Addr)) (fp : List Addr), PE (X.blk s H scope (compEnvC scope cl C X.env) fp) elt te) (hs : ∀ x, foldedSetIterable iter X.env x = pure x := by intro _; rfl) :
    PE X (.SetComp elt [⟨tg, iter, ifs, 0⟩] scope pos) (tScI X.w wi g tt te (own.map (·.2))) := by
  refine ⟨fun pins s σ H Q I h => ?_⟩
  rw [PpSet.eval_SetComp]
  have free : ∀ y ∈ scope.names, y.2 = .free → ∃ c, X.env.cells.lookup y.1 = some c := fun y hy e => I.ok.has _ (ok.free y hy e)
  refine wpAny_comprehension_free rfl hs (closure_ok free) ok.kind (fun y hy e => by rw [ok.uniq y hy, e]) (thn (hi.run pins s σ H _ I h) fun xv s1 hx => thn hx fun itv s2 ⟨it, fp, tn, J, Ha, ee, Ia, T, sta, fa, q⟩ => ?_)
  subst ee
  refine PpSet.newSet_ok (newEnv_comp ?_)
  -- the empty set, at the heap's end
  obtain ⟨L, eL⟩ : ∃ L, L = s2.heap.objs.size := ⟨_, rfl⟩
  obtain ⟨sb, esb⟩ : ∃ sb : Shared, sb = { s2 with heap := s2.heap.push { cls := .type "set", dict := none, data := .set #[] 0 (.fresh 0 0 (!X.w.params.followText "set-order")) } } := ⟨_, rfl⟩
  rw [← eL, ← esb]
  obtain ⟨W, ⟨m0, w0⟩, turn⟩ := q L (Ia.hok.fresh (Nat.le_of_eq eL.symm))
  obtain ⟨Hb, eHb⟩ : ∃ Hb, Hb = upd Ha L (SetO X.w L (fun _ => false) 0) := ⟨_, rfl⟩
  rw [← eHb] at w0
  have kb : ∀ b o, s2.heap.get? b = some o → sb.heap.get? b = some o := fun b o e => by rw [esb]; exact Heap.get?_push_of_some _ e
  have Ib : Inv X pins σ Hb sb := by
    rw [eHb, esb]
    refine Ia.laid (t' := s2.toks) (fun b o e => Heap.get?_push_of_some _ e) (Nat.le_of_eq eL.symm) ?_
    rw [eL]
    exact setO_new (setR_fresh X.w)
  have fb : ∀ b ∈ fp, FpOk X pins Hb b ∧ b < sb.heap.objs.size := fun b hb => by
    obtain ⟨o, e, _⟩ := T.obj _ _ sta b hb
    have lt := Heap.lt_size e
    refine ⟨⟨?_, (fa b hb).2⟩, Heap.lt_size (kb b o e)⟩
    rw [eHb, upd_ne (by rw [eL]; exact Nat.ne_of_lt lt)]
    exact (fa b hb).1
  have stb : tn 0 sb.heap := T.keep _ _ _ sta fun b _ o e => kb b o e
  -- the block's own variables
  have Ic := block_start Ib ok hN fb
  obtain ⟨cl, ecl⟩ : ∃ cl, cl = cellsFrom (sb.heap.objs.size + 1) scope.names (cloFrom X.env.cells scope.names []) := ⟨_, rfl⟩
  rw [← ecl] at Ic ⊢
  have pg := hg sb Hb sb.heap.objs.size cl fp
  have pt := ht sb Hb sb.heap.objs.size cl fp
  have pe := he sb Hb sb.heap.objs.size cl fp
  show codeAny _ _ (.compStart (.SetComp elt [⟨tg, iter, ifs, 0⟩] scope pos) 0 (.ref it) (.ref L) (compEnvC scope cl sb.heap.objs.size X.env)) (compPost (model X.prog X.w) X.A X.xe none (EP X pins σ Q) (.ref L) sb.heap.objs.size) _
  obtain ⟨ce, ece⟩ : ∃ ce, ce = compEnvC scope cl sb.heap.objs.size X.env := ⟨_, rfl⟩
  rw [← ece] at Ic pg pt pe ⊢
  have cL : ce.locals = sb.heap.objs.size := by rw [ece]; rfl
  obtain ⟨sc, esc⟩ : ∃ sc : Shared, sc = { sb with heap := pushCells (sb.heap.push { cls := .type "dict", data := .dict #[] }) scope.names } := ⟨_, rfl⟩
  rw [← esc] at Ic ⊢
  have stc : tn 0 sc.heap := T.keep _ _ _ stb fun b _ o e => by rw [esc]; exact pushCells_keeps _ _ _ _ (Heap.get?_push_of_some _ e)
  have foot : ∀ {σ' : L2.St} {H' : Hp} {s' : Shared}, Inv (X.blk sb Hb scope ce fp) [] σ' H' s' → (∀ b ∈ fp, H' b = none) → ∀ b ∈ fp, FpOk (X.blk sb Hb scope ce fp) [] H' b := fun {σ' H' s'} I' hn b hb =>
    ⟨hn b hb, (I'.ok.exf b hb).1, I'.ok.exfs b hb, .inl hb, fun x c e => (I'.ok.exf b hb).2 x c e, fun p hp => absurd (show p ∈ ([] : List (Addr × Obj)) ++ [] from hp) (by simp)⟩
  -- the turns: m falls
  have loop : codeAny (model X.prog X.w) X.A (.compLoop (.SetComp elt [⟨tg, iter, ifs, 0⟩] scope pos) 0 (.ref it) (.ref L) ce) (compPost (model X.prog X.w) X.A X.xe none (EP X pins σ Q) (.ref L) sb.heap.objs.size) sc := by
    refine PpSet.compLoopS_any (fun n s' => ∃ i H', Inv (X.blk sb Hb scope ce fp) [] (wipe σ (own.map (·.2))) H' s' ∧ tn i s'.heap ∧ (∀ b ∈ fp, H' b = none) ∧ W i n H') ?_ m0 ⟨0, Hb, Ic, stc, fun b hb => (fb b hb).1.1, w0⟩
    rintro n se ⟨i, He, Ie, ste, ne, we⟩
    rcases turn i n He we with ⟨stop, qq⟩ | ⟨go, Nx, hNx, step⟩
    · refine thnF (T.done (X.blk sb Hb scope ce fp) rfl rfl rfl hc i [] se _ He (fun _ _ => False) Ie (foot Ie ne) ste stop) fun r sf ⟨hr, If⟩ => ?_
      subst hr
      have Ig : Inv X pins σ He sf := Ib.call' (ch := fp) If.os If.base If.hok If.bare fun b hb => ⟨(fb b hb).1.2.2.2.1, (fb b hb).1.2.1, (fb b hb).1.2.2.2.2.1, (fb b hb).1.2.2.2.2.2⟩
      have hC : He ce.locals = none := If.free
      obtain ⟨mm, hn, _⟩ := If.loc
      have hn : sf.heap.Ns ce.locals mm := hn
      rw [cL] at hn hC
      obtain ⟨z0, z1, z2, z3, z4, z5⟩ := Ib.fpOk (Nat.le_refl _) hC
      exact ⟨mm, hn, fun h'' same => ⟨.ref L, He, Ig.turned (t' := sf.toks) (fun b o hb e => (same.2 b hb).trans e) z0 z1 z3 z4 z5, rfl, qq⟩⟩
    · refine thnF (T.item (X.blk sb Hb scope ce fp) rfl rfl rfl hc i [] se _ He (fun _ _ => False) Ie (foot Ie ne) ste go) fun r sf ⟨u, hr, hf⟩ => ?_
      subst hr
      refine thnF hf fun _ sg ⟨x, Hg, Ig, rg, yg, stg, ng⟩ => ?_
      refine thnF (pg.run _ sg _ Hg x u _ (Ig.pinned (foot Ig ng) (T.obj _ _ stg)) rg (step x Hg yg)) fun _ sh ⟨σh, Hh, Ih, hw, qh⟩ => ?_
      refine thnF (pt.run _ sh σh Hh _ Ih qh) fun b si ⟨Hi, Ii, qi⟩ => ?_
      have again : ∀ {s' : Shared} {H' : Hp}, Inv (X.blk sb Hb scope ce fp) ([] ++ pinsAt fp sg.heap) σh H' s' → Nx H' → ∃ m, m < n ∧ ∃ i H', Inv (X.blk sb Hb scope ce fp) [] (wipe σ (own.map (·.2))) H' s' ∧ tn i s'.heap ∧ (∀ b ∈ fp, H' b = none) ∧ W i m H' := fun {s' H'} I' nx => by
        obtain ⟨m', hm, w'⟩ := hNx H' nx
        have held : ∀ b ∈ fp, ∀ o, sg.heap.get? b = some o → s'.heap.get? b = some o ∧ H' b = none := fun b hb o e =>
          have z := I'.pin (b, o) (List.mem_append_right _ (List.mem_append_right _ (mem_pinsAt hb e)))
          ⟨z.1, z.2.1⟩
        refine ⟨m', hm, i + 1, H', (I'.unpinned (pins := [])).weak (by rw [← hw, wipe_length]) (fun j v e => ?_), T.keep _ _ _ stg fun b hb o e => (held b hb o e).1, fun b hb => ?_, w'⟩
        · rw [← hw] at e
          exact (wipe_some e).1
        · obtain ⟨o, e, _⟩ := T.obj _ _ stg b hb
          exact (held b hb o e).2
      cases b with
      | false => exact again Ii qi
      | true => exact thnF (pe.run _ si σh Hi _ Ii qi) fun z sj ⟨yv, Hj, Ij, rj, pj⟩ => puts_run (X := X.blk sb Hb scope ce fp) Ij rj pj fun H' s' I' nx => again I' nx
  exact PpSet.codeAny_compStart_set loop (T.self X.A 0 _ _ _ stc loop)
end
/-- over a list that stays -/
theorem scI_list {w : World} {K : PySem.W.Frag} {a : Addr} {xs : List V} {g : TG} {tt : TT} {te : TE} {vs : List Nat} {σ0 : L2.St} {H1 : Hp} {L : Addr} {Qd : Hp → Prop} (Pv : Nat → Hp → Prop) (h0 : Pv 0 (upd H1 L (SetO w L (fun _ => false) 0)))
    (hl : ∀ i H, i ≤ xs.length → Pv i H → SqL K H a xs) (hs : ∀ i x H, xs[i]? = some x → Pv i H → scTurn w g tt te σ0 vs L (Pv (i + 1)) x H) (hd : ∀ H, Pv xs.length H → Qd H) :
    ∃ W : Nat → Nat → Hp → Prop, (∃ m, W 0 m (upd H1 L (SetO w L (fun _ => false) 0))) ∧ ∀ i m H, W i m H →
      ((Itl K a).stop i H ∧ Qd H) ∨ ((Itl K a).go i H ∧ ∃ Nx : Hp → Prop, (∀ H', Nx H' → ∃ m', m' < m ∧ W (i + 1) m' H') ∧ ∀ x H', (Itl K a).yld i H x H' → scTurn w g tt te σ0 vs L Nx x H') := by
  refine ⟨fun i m H => m = xs.length - i ∧ i ≤ xs.length ∧ Pv i H, ⟨_, rfl, Nat.zero_le _, h0⟩, fun i m H ⟨hm, hi, p⟩ => ?_⟩
  have sq := hl i H hi p
  rcases Nat.lt_or_ge i xs.length with lt | ge
  · refine .inr ⟨⟨xs, xs[i], sq, List.getElem?_eq_getElem lt⟩, Pv (i + 1), fun H' p' => ⟨xs.length - (i + 1), by omega, rfl, lt, p'⟩, fun x H' ⟨e, y⟩ => ?_⟩
    subst e
    exact hs i x _ (y xs sq) p
  · have e : i = xs.length := by omega
    subst e
    exact .inl ⟨⟨xs, sq, Nat.le_refl _⟩, hd H p⟩
end Kt
namespace Kt
open PySem PySem.Spec PyProof.Rows L2
section
variable {P : Program} {w : World} {A : Around} {E : Value → Shared → Prop} {s : Shared}
/-- a new set as it stands, nothing in it -/
abbrev newSetO (w : World) : Obj := { cls := .type "set", dict := none, data := .set #[] 0 (.fresh 0 0 (!w.params.followText "set-order")) }
/-- set(l), l a list of ints -/
theorem set_of_list {l : Addr} {its : Array Value} (ns : List Int) {Q : Value → Shared → Prop} (hh : A.handled = none) (hl : s.heap.IsList l its) (hi : IntsAre its.toList ns) (hb : ns.length + 1 < scanBound)
    (q : ∀ (h' : Heap) (tk c : Nat), SetR w h' s.heap.objs.size (fun j => decide (j ∈ ns)) c → c ≤ ns.length → (∀ b o, s.heap.get? b = some o → h'.get? b = some o) → Q (.ref s.heap.objs.size) { s with heap := h', toks := tk }) :
    wpAny (model P w) A (call (.type "set") [.ref l]) Q E s := by
  have hsz : its.size = ns.length := by rw [← Array.length_toList]; exact hi.length
  obtain ⟨c0, tl0, hmro⟩ := F.called_set.mro
  have hmade := F.called_set.made
  have hsub := F.called_set.sub
  refine wpAny_call (codeAny_of_tree ?_)
  show wpAny _ _ (callAny (.type "set") _) _ _ _
  refine wpAny_pure ⟨Code.quiet_builtin _ (by decide +kernel), codeAny_builtin F.entry_type_call ?_⟩
  rw [Around.under_plain (weight_type_call_type "set" [.ref l] []) rfl]
  have hnt := F.called_set.notType
  have hcc := F.called_set.canCreate
  have htc := F.typeCall_set_1 (.ref l)
  repeat (any_goals (first | assumption | wp_step))
  refine codeAny_mono (code_set_led1 (.ref l) (E := E) (Q₁ := fun obj s₁ => obj = .ref s.heap.objs.size ∧ s₁ = { s with heap := s.heap.push (newSetO w) }) ⟨rfl, rfl⟩) fun r s₁ hr => ?_
  match r, hr with
  | .error e, hr => exact hr
  | .ok (.ret obj), hr =>
    obtain ⟨rfl, rfl⟩ := hr
    have at0 : (s.heap.push (newSetO w)).get? s.heap.objs.size = some (newSetO w) := Heap.get?_push_size _ rfl
    have hT : Shared.TypeIs { s with heap := s.heap.push (newSetO w) } (.ref s.heap.objs.size) "set" := ⟨_, at0, rfl⟩
    have hli := F.called_set.init.lookup
    have hbi := F.called_set.init.bind (.ref s.heap.objs.size)
    repeat (any_goals (first | assumption | wp_step))
    refine codeAny_mono (codeAny_call_builtin (R := wants (fun r s₂ => r = .none ∧ ∃ h' tk c, s₂ = { s with heap := h', toks := tk } ∧ SetR w h' s.heap.objs.size (fun j => decide (j ∈ ns)) c ∧ c ≤ ns.length ∧
        (∀ b o, s.heap.get? b = some o → h'.get? b = some o)) E) F.called_set.init.plain F.entry_set_init (check_set_init_1 hT ?_)) fun r₂ s₂ hr₂ => ?_
    · obtain ⟨⟨ocls, odict, odata, oslots⟩, hol, hcl, nl, hdl⟩ := hl
      simp only at hcl hdl
      subst hcl
      subst hdl
      have hol' : (s.heap.push (newSetO w)).get? l = some { cls := .type "list", dict := odict, data := .seq its nl, slots := oslots } := Heap.get?_push_of_some _ hol
      have hl1 : (s.heap.push (newSetO w)).IsList l its := ⟨_, hol', rfl, nl, rfl⟩
      have f1 := F.sub_list_set
      have f2 := F.sub_list_frozenset
      have f3 : (Value.type "list" == Value.type "dict") = false := by decide
      unfold Builtin.«set.__init__» noKeywords Builtin.Frozenset.updateFrom
      generalize hPI : pyIter = PI
      wp_walk
      subst hPI
      refine wpAny_pyIter_list hl1 ?_
      refine wpAny_bind (wpAny_runValue ?_)
      have lt : l < s.heap.objs.size := Heap.lt_size hol
      have hh3 : A.in1.in1.in1.handled = none := by simp [hh]
      have szI : (s.heap.push (newSetO w)).objs.size = s.heap.objs.size + 1 := Heap.size_push ..
      have hneI : l ≠ (s.heap.push (newSetO w)).objs.size := by rw [szI]; exact Nat.ne_of_lt (Nat.lt_succ_of_lt lt)
      have hSf : s.heap.objs.size ∉ [(s.heap.push (newSetO w)).objs.size, l] := by
        rw [szI]
        simp only [List.mem_cons, List.not_mem_nil, or_false, not_or]
        exact ⟨Nat.ne_of_lt (Nat.lt_succ_self _), Nat.ne_of_gt lt⟩
      have hval : ∀ (i : Nat) (v : Value), its[i]? = some v → ∃ k t, ns[i]? = some k ∧ v = .int k t := fun i v hv => by
        have hlt : i < ns.length := by rw [← hsz]; exact (Array.getElem?_eq_some_iff.mp hv).1
        obtain ⟨t, e⟩ := PyProof.Rows.IntsAre.int_at hi i v (by rw [Array.getElem?_toList]; exact hv)
        refine ⟨ns[i], t, List.getElem?_eq_getElem hlt, ?_⟩
        rw [e, List.getD_eq_getElem?_getD, List.getElem?_eq_getElem hlt] <;> rfl
      refine set_update_ints ((Walks.list hh3 _ l hneI its).toS) s.heap.objs.size hSf ns hsz hb hval (its.size - 0) 0 _ (by omega) (Nat.zero_le _)
        ⟨⟨_, Heap.get?_push_size _ rfl, rfl, rfl⟩, (hl1.push _)⟩ ⟨0, Nat.le_refl 0, setR_new_at (Heap.get?_push_of_some _ at0)⟩ ?_
      intro s' c' hm hc' hS'
      obtain ⟨h', g2, d', tk', os'⟩ := s'
      obtain rfl : g2 = s.gens := hm.gens
      obtain rfl : d' = s.drawn := hm.drawn
      obtain rfl : os' = s.os := hm.os
      show wpAny _ _ _ _ _ _
      refine wpAny_pure ?_
      show wpAny _ _ (ret Value.none) _ _ _
      rw [hsz] at hc'
      refine wpAny_pure ⟨rfl, h', tk', c', rfl, hS', hc', fun b o e => ?_⟩
      have hb0 : b < s.heap.objs.size := Heap.lt_size e
      refine hm.heap b o ?_ (Heap.get?_push_of_some _ (Heap.get?_push_of_some _ e))
      rw [szI]
      simp only [List.mem_cons, List.not_mem_nil, or_false, not_or]
      exact ⟨Nat.ne_of_lt hb0, Nat.ne_of_lt (Nat.lt_succ_of_lt hb0)⟩
    · match r₂, hr₂ with
      | .error e, hr₂ => exact hr₂
      | .ok (.ret r), hr₂ =>
        obtain ⟨rfl, h', tk, c', rfl, hS', hc', hk'⟩ := hr₂
        repeat (any_goals (first | assumption | wp_step))
        exact q _ _ _ hS' hc' hk'
      | .ok .next, hr₂ => exact hr₂.elim
      | .ok .brk, hr₂ => exact hr₂.elim
      | .ok .cont, hr₂ => exact hr₂.elim
  | .ok .next, hr => exact hr.elim
  | .ok .brk, hr => exact hr.elim
  | .ok .cont, hr => exact hr.elim
end
/-- set(xs), xs a list of ints -/
def rSetL (K : PySem.W.Frag) (w : World) : List V → Hp → VK → Prop := fun vs H Q => ∃ (a : Addr) (ns : List Int), vs = [V.ref a] ∧ SqL K H a (ns.map V.int) ∧ ns.length ≤ 1000 ∧
  ∀ (p : Addr) (c : Nat), H p = none → c ≤ ns.length → Q (.ref p) (upd H p (SetO w p (fun j => decide (j ∈ ns)) c))
theorem cr_setL {X : Cx} (hc : X.calm = true) : CallR X (.type "set") (rSetL X.K X.w) := by
  intro pins s σ H vs us Q I r h
  obtain ⟨a, ns, rfl, hS, hn, q⟩ := h
  rw [Vals.ref1 r]
  obtain ⟨its, rv, pl, hz⟩ := I.list hS
  have sb : ns.length + 1 < scanBound := Nat.lt_of_le_of_lt (Nat.add_le_add_right hn 1) (by decide)
  refine set_of_list ns (I.ok.hd hc) pl.isList (by simpa using ints_of_vals rv) sb fun h' tk c R hcn k => ?_
  exact ⟨.ref s.heap.objs.size, _, I.laid k (Nat.le_refl _) (setO_new R), rfl, q _ c (I.hok.fresh (Nat.le_refl _)) hcn⟩
end Kt
namespace Kt
open PySem PySem.Spec PyProof.Rows L2
theorem w_scI {w : World} {wi : TI} {g : TG} {tt : TT} {te : TE} {vs : List Nat} {σ : L2.St} {H : Hp} {Q : VK} (q : wi σ H fun J H1 => ∀ L, H1 L = none →
  ∃ W : Nat → Nat → Hp → Prop, (∃ m, W 0 m (upd H1 L (SetO w L (fun _ => false) 0))) ∧ ∀ i m H, W i m H →
    (J.stop i H ∧ Q (.ref L) H) ∨ (J.go i H ∧ ∃ Nx : Hp → Prop, (∀ H', Nx H' → ∃ m', m' < m ∧ W (i + 1) m' H') ∧ ∀ x H', J.yld i H x H' → scTurn w g tt te (wipe σ vs) vs L Nx x H')) : tScI w wi g tt te vs σ H Q := q
theorem w_turn {w : World} {g : TG} {tt : TT} {te : TE} {σ0 : L2.St} {vs : List Nat} {L : Addr} {Nx : Hp → Prop} {x : V} {H : Hp} (q : g x σ0 H fun σ2 H2 => wipe σ2 vs = σ0 ∧ tt σ2 H2 fun b H3 => if b = true then te σ2 H3 (Puts w L Nx) else Nx H3) : scTurn w g tt te σ0 vs L Nx x H := q
theorem w_puts {w : World} {L : Addr} {Nx : Hp → Prop} {c : Int} {H : Hp} {S : Int → Bool} {n : Nat} (h : H L = some (SetO w L S n)) (hn : n ≤ 1000) (q : Nx (upd H L (SetO w L (fun j => S j || decide (j = c)) (if S c = true then n else n + 1)))) : Puts w L Nx (.int c) H :=
  ⟨c, S, n, rfl, h, Nat.lt_of_le_of_lt (Nat.add_le_add_right hn 1) (by decide), q⟩
/-- a list of tuples that is compared with [] -/
theorem w_neRows {α : Type} {f : α → List Int} {K : PySem.W.Frag} {H : Hp} {Q : VK} {a b : Addr} {ks : List (Addr × α)} (h : TL f H a ks) (hb : H b = some (.lst [])) (h3 : ∀ x, (f x).length = 3) (q : Q (.bl (!ks.isEmpty)) H) : rNeD K (.ref a) (.ref b) H Q :=
  ⟨_, .list [], Dp.rows h, .lst (SqL.of hb) .nil, FD.dTs0 fun x _ => h3 x, shaped_nil, by
    rw [eqv_nil_rows]
    have e : (vals ks).isEmpty = ks.isEmpty := by cases ks <;> rfl
    rw [e]
    exact q⟩
theorem w_sum {K : PySem.W.Frag} {H : Hp} {Q : VK} {a : Addr} {ns : List Int} (h : H a = some (.lst (ns.map V.int))) (q : Q (.int ns.sum) H) : rSum K [.ref a] H Q := ⟨a, ns, rfl, SqL.of h, q⟩
end Kt
namespace Kt
open PySem PySem.Spec PyProof.Rows L2
/-- a comprehension over a range whose turns only make objects -/
theorem lc_pureR {lo : Int} {n : Nat} {g : TG} {tt : TT} {te : TE} {vs : List Nat} {σ : L2.St} {H1 : Hp} {D : Addr} {Qd : Hp → Prop} (f : Nat → Option V) (hD : H1 D = none) (hn : n ≤ 900)
    (hs : ∀ i H, i < n → Same H1 H → ∀ (N : V → Hp → Prop) (M : Hp → Prop), (∀ v H', f i = some v → Same H H' → N v H') → (∀ H', f i = none → Same H H' → M H') →
      g (.int (lo + i)) (wipe σ vs) H fun σ2 H2 => wipe σ2 vs = wipe σ vs ∧ tt σ2 H2 fun b H3 => if b = true then te σ2 H3 fun y H4 => N y H4 else M H3)
    (hd : ∀ H, Same H1 H → H D = some (.lst ((List.range n).filterMap f)) → Qd H) :
    ∃ W : Nat → Nat → Hp → Prop, (∃ m, W 0 m (upd H1 D (.lst []))) ∧ ∀ i m H, W i m H →
      ((Itr lo n).stop i H ∧ Qd H) ∨ ((Itr lo n).go i H ∧ ∃ Nx : Hp → Prop, (∀ H', Nx H' → ∃ m', m' < m ∧ W (i + 1) m' H') ∧ ∀ x H', (Itr lo n).yld i H x H' → g x (wipe σ vs) H' fun σ2 H2 => wipe σ2 vs = wipe σ vs ∧ tt σ2 H2 fun b H3 =>
        if b = true then te σ2 H3 fun y H4 => ∃ acc, H4 D = some (.lst acc) ∧ acc.length < sizeLine ∧ Nx (upd H4 D (.lst (acc ++ [y]))) else Nx H3) := by
  have len : ∀ i, ((List.range i).filterMap f).length ≤ i := fun i => Nat.le_trans (List.length_filterMap_le _ _) (by rw [List.length_range]; exact Nat.le_refl _)
  refine lc_range (fun i H => Same H1 H ∧ H D = some (.lst ((List.range i).filterMap f))) ⟨Same.new hD, upd_same⟩ (fun i H hi p => ?_) (fun H p => hd H p.1 p.2)
  refine hs i H hi p.1 (fun y H4 => ∃ acc, H4 D = some (.lst acc) ∧ acc.length < sizeLine ∧ Same H1 (upd H4 D (.lst (acc ++ [y]))) ∧ (upd H4 D (.lst (acc ++ [y]))) D = some (.lst ((List.range (i + 1)).filterMap f))) (fun H3 => Same H1 H3 ∧ H3 D = some (.lst ((List.range (i + 1)).filterMap f))) (fun v H' e s => ?_) (fun H' e s => ?_)
  · refine ⟨_, s _ _ p.2, szl (Nat.le_trans (len i) (by omega)), Same.mut (p.1.trans s) hD, ?_⟩
    rw [upd_same, range_succ_fm, e]
  · refine ⟨p.1.trans s, ?_⟩
    rw [range_succ_fm, e, s _ _ p.2]
    simp
theorem fm_some {α : Type} (h : Nat → α) (n : Nat) : (List.range n).filterMap (fun i => some (h i)) = (List.range n).map h := by
  induction n with
  | zero => rfl
  | succ n ih => rw [range_succ_fm, ih, List.range_succ, List.map_append]; rfl
/-! ## load: its rows -/
structure IsTurns (ns : List Note) (t : Int) (ts : List Int) : Prop where
  sd : SD ts
  mem : ∀ x, x ∈ ts ↔ ∃ n ∈ ns, x = n.s ∨ x = n.e + t
def ldRows (f : Int → Int) : Int → List Int → List (Int × Int)
  | _, [] => []
  | many, m :: r => (if f m ≠ many then [(m, f m)] else []) ++ ldRows f (f m) r
def lastF (f : Int → Int) : Int → List Int → Int
  | many, [] => many
  | _, m :: r => lastF f (f m) r
theorem lastF_snoc (f : Int → Int) (x : Int) : ∀ (l : List Int) (many : Int), lastF f many (l ++ [x]) = f x
  | [], _ => rfl
  | m :: r, _ => lastF_snoc f x r (f m)
theorem ldRows_snoc (f : Int → Int) (x : Int) : ∀ (l : List Int) (many : Int), ldRows f many (l ++ [x]) = ldRows f many l ++ (if f x ≠ lastF f many l then [(x, f x)] else [])
  | [], many => by
    show (if f x ≠ many then [(x, f x)] else []) ++ [] = [] ++ (if f x ≠ many then [(x, f x)] else [])
    rw [List.append_nil, List.nil_append]
  | m :: r, many => by
    show _ ++ ldRows f (f m) (r ++ [x]) = (_ ++ ldRows f (f m) r) ++ _
    rw [ldRows_snoc f x r (f m), List.append_assoc]
    rfl
theorem ldRows_len (f : Int → Int) : ∀ (l : List Int) (many : Int), (ldRows f many l).length ≤ l.length
  | [], _ => Nat.le_refl _
  | m :: r, many => by
    have := ldRows_len f r (f m)
    show ((if f m ≠ many then [(m, f m)] else []) ++ ldRows f (f m) r).length ≤ _
    rw [List.length_append, List.length_cons]
    have h : (if f m ≠ many then [(m, f m)] else []).length ≤ 1 := by split <;> simp
    omega
def sumRows : List (Int × Int) → Int
  | a :: b :: r => a.2 * (b.1 - a.1) + sumRows (b :: r)
  | _ => 0
def rowAt (rs : List (Int × Int)) (i : Nat) : Int × Int := (rs[i]?).getD (0, 0)
theorem sum_range_succ (g : Nat → Int) (n : Nat) : ((List.range (n + 1)).map g).sum = g 0 + ((List.range n).map fun i => g (i + 1)).sum := by
  rw [List.range_succ_eq_map, List.map_cons, List.map_map, List.sum_cons]
  rfl
theorem sum_rows : ∀ rs : List (Int × Int), ((List.range (rs.length - 1)).map fun i => (rowAt rs i).2 * ((rowAt rs (i + 1)).1 - (rowAt rs i).1)).sum = sumRows rs
  | [] => rfl
  | [a] => rfl
  | a :: b :: r => by
    have e : (a :: b :: r).length - 1 = ((b :: r).length - 1) + 1 := rfl
    rw [e, sum_range_succ]
    show a.2 * (b.1 - a.1) + _ = a.2 * (b.1 - a.1) + sumRows (b :: r)
    rw [← sum_rows (b :: r)]
    rfl
def ownStep (ns : List Note) (t : Int) (i : Nat) : Int :=
  match ns[i]? with
  | none => 0
  | some n => (match ns[i + 1]? with | some m => (if m.s < n.e + t then m.s else n.e + t) | none => n.e + t) - n.s
def ownSum (t : Int) : List Note → Int
  | [] => 0
  | [n] => n.e + t - n.s
  | n :: m :: r => ((if m.s < n.e + t then m.s else n.e + t) - n.s) + ownSum t (m :: r)
theorem own_sum (t : Int) : ∀ ns : List Note, ((List.range ns.length).map (ownStep ns t)).sum = ownSum t ns
  | [] => rfl
  | [n] => by
    show (n.e + t - n.s) + 0 = _
    rw [Int.add_zero]
    rfl
  | n :: m :: r => by
    have e : (n :: m :: r).length = (m :: r).length + 1 := rfl
    rw [e, sum_range_succ]
    show ((if m.s < n.e + t then m.s else n.e + t) - n.s) + _ = ((if m.s < n.e + t then m.s else n.e + t) - n.s) + ownSum t (m :: r)
    rw [← own_sum t (m :: r)]
    rfl
theorem sum_snoc (g : Nat → Int) (n : Nat) : ((List.range (n + 1)).map g).sum = ((List.range n).map g).sum + g n := by
  rw [List.range_succ, List.map_append, List.sum_append]
  simp
end Kt
namespace Kt
open PySem PySem.Spec PyProof.Rows L2
/-! ## the plain law of load: busy time by turns, by moments, by pitches -/
/-- the sum of f over the moments from a to b -/
def sI (f : Int → Int) (a b : Int) : Int := ((List.range (b - a).toNat).map fun i : Nat => f (a + i)).sum
theorem sI_nil (f : Int → Int) (a : Int) : sI f a a = 0 := by
  unfold sI
  rw [Int.sub_self]
  rfl
theorem sI_snoc (f : Int → Int) {a b : Int} (h : a ≤ b) : sI f a (b + 1) = sI f a b + f b := by
  unfold sI
  have e : (b + 1 - a).toNat = (b - a).toNat + 1 := by omega
  rw [e, sum_snoc]
  congr 2
  omega
/-- two sums that grow alike -/
theorem sI_ind {P : Int → Prop} {a : Int} (h0 : P a) (hs : ∀ b, a ≤ b → P b → P (b + 1)) : ∀ b, a ≤ b → P b := by
  intro b hb
  have h : ∀ n : Nat, P (a + n) := by
    intro n
    induction n with
    | zero => simpa using h0
    | succ n ih =>
      have := hs (a + n) (by omega) ih
      rw [show a + ((n + 1 : Nat) : Int) = a + n + 1 by omega]
      exact this
  have := h (b - a).toNat
  rw [show a + ((b - a).toNat : Int) = b by omega] at this
  exact this
theorem sI_split (f : Int → Int) {a b c : Int} (h1 : a ≤ b) (h2 : b ≤ c) : sI f a c = sI f a b + sI f b c := by
  refine sI_ind (P := fun c => sI f a c = sI f a b + sI f b c) ?_ (fun c hc ih => ?_) c h2
  · rw [sI_nil, Int.add_zero]
  · rw [sI_snoc f (by omega), sI_snoc f hc, ih, Int.add_assoc]
theorem sI_const {f : Int → Int} {c a b : Int} (h : a ≤ b) (hf : ∀ m, a ≤ m → m < b → f m = c) : sI f a b = c * (b - a) := by
  have : ∀ x, a ≤ x → x ≤ b → sI f a x = c * (x - a) := by
    intro x hx
    refine sI_ind (P := fun x => x ≤ b → sI f a x = c * (x - a)) ?_ (fun y hy ih hyb => ?_) x hx
    · intro _
      rw [sI_nil, Int.sub_self, Int.mul_zero]
    · rw [sI_snoc f hy, ih (by omega), hf y hy (by omega), show y + 1 - a = (y - a) + 1 by omega, Int.mul_add, Int.mul_one]
  exact this b h (Int.le_refl _)
theorem sI_congr {f g : Int → Int} {a b : Int} (h : ∀ m, a ≤ m → m < b → f m = g m) : sI f a b = sI g a b := by
  unfold sI
  congr 1
  refine List.map_congr_left fun i hi => h _ (by omega) ?_
  rw [List.mem_range] at hi
  omega
theorem sI_add (f g : Int → Int) {a b : Int} (h : a ≤ b) : sI (fun m => f m + g m) a b = sI f a b + sI g a b := by
  refine sI_ind (P := fun b => sI (fun m => f m + g m) a b = sI f a b + sI g a b) ?_ (fun c hc ih => ?_) b h
  · rw [sI_nil, sI_nil, sI_nil]; rfl
  · rw [sI_snoc _ hc, sI_snoc _ hc, sI_snoc _ hc, ih]
    omega
theorem sI_zero {a b : Int} (h : a ≤ b) : sI (fun _ => 0) a b = 0 := by
  rw [sI_const (c := 0) h fun _ _ _ => rfl, Int.zero_mul]
theorem sI_list {α : Type} (g : α → Int → Int) {a b : Int} (h : a ≤ b) : ∀ ps : List α, sI (fun m => (ps.map fun p => g p m).sum) a b = (ps.map fun p => sI (g p) a b).sum
  | [] => sI_zero h
  | p :: r => by
    rw [List.map_cons, List.sum_cons, ← sI_list g h r, ← sI_add _ _ h]
    rfl
theorem sI_bound {f : Int → Int} {c a b : Int} (h : a ≤ b) (hf : ∀ m, 0 ≤ f m ∧ f m ≤ c) : 0 ≤ sI f a b ∧ sI f a b ≤ c * (b - a) := by
  refine sI_ind (P := fun b => 0 ≤ sI f a b ∧ sI f a b ≤ c * (b - a)) ?_ (fun x hx ih => ?_) b h
  · rw [sI_nil, Int.sub_self, Int.mul_zero]; exact ⟨Int.le_refl _, Int.le_refl _⟩
  · rw [sI_snoc f hx, show x + 1 - a = (x - a) + 1 by omega, Int.mul_add, Int.mul_one]
    have := hf x
    omega
/-- the sum by turns -/
def seg (f : Int → Int) : Int → Int → List Int → Int
  | _, _, [] => 0
  | x0, many, a :: r => many * (a - x0) + seg f a (f a) r
theorem seg_shift (f : Int → Int) (x0 a : Int) : ∀ r : List Int, (f a = 0 ∨ r ≠ []) → f a * (a - x0) + seg f a (f a) r = seg f x0 (f a) r
  | [], h => by
    rw [h.resolve_right (fun z => z rfl)]
    simp [seg]
  | b :: r, _ => by
    show f a * (a - x0) + (f a * (b - a) + seg f b (f b) r) = f a * (b - x0) + seg f b (f b) r
    rw [← Int.add_assoc, ← Int.mul_add, show a - x0 + (b - a) = b - x0 by omega]
theorem sum_ld (f : Int → Int) : ∀ (l : List Int) (x0 many : Int), lastF f many l = 0 → sumRows ((x0, many) :: ldRows f many l) = seg f x0 many l
  | [], _, _, _ => rfl
  | a :: r, x0, many, h => by
    by_cases e : f a = many
    · have er : ldRows f many (a :: r) = ldRows f many r := by
        show (if f a ≠ many then [(a, f a)] else []) ++ ldRows f (f a) r = _
        rw [if_neg (fun z => z e), e]
        rfl
      rw [er]
      have h' : lastF f many r = 0 := by rw [← e]; exact h
      rw [sum_ld f r x0 many h']
      show _ = many * (a - x0) + seg f a (f a) r
      rw [← e]
      refine (seg_shift f x0 a r ?_).symm
      cases r with
      | nil => exact .inl h
      | cons b r => exact .inr (by simp)
    · have er : ldRows f many (a :: r) = (a, f a) :: ldRows f (f a) r := by
        show (if f a ≠ many then [(a, f a)] else []) ++ ldRows f (f a) r = _
        rw [if_pos e]
        rfl
      rw [er]
      show many * (a - x0) + sumRows ((a, f a) :: ldRows f (f a) r) = many * (a - x0) + seg f a (f a) r
      rw [sum_ld f r a (f a) h]
theorem sum_ld0 (f : Int → Int) (l : List Int) (h : lastF f 0 l = 0) (x0 : Int) : sumRows (ldRows f 0 l) = seg f x0 0 l := by
  rw [← sum_ld f l x0 0 h]
  cases ldRows f 0 l with
  | nil => rfl
  | cons a r =>
    show _ = 0 * (a.1 - x0) + sumRows (a :: r)
    rw [Int.zero_mul, Int.zero_add]
/-- f is constant between the turns -/
def PW (f : Int → Int) : Int → Int → List Int → Prop
  | x0, many, [] => ∀ m, x0 ≤ m → f m = many
  | x0, many, a :: r => x0 ≤ a ∧ (∀ m, x0 ≤ m → m < a → f m = many) ∧ PW f a (f a) r
theorem seg_sum (f : Int → Int) (N : Int) : ∀ (l : List Int) (x0 many : Int), PW f x0 many l → lastF f many l = 0 → x0 ≤ N → (∀ u ∈ l, u ≤ N) → seg f x0 many l = sI f x0 N
  | [], x0, many, hp, h0, hN, _ => by
    have hm : many = 0 := h0
    rw [sI_const (c := 0) hN fun m h _ => by rw [hp m h, hm], Int.zero_mul]
    rfl
  | a :: r, x0, many, ⟨h1, h2, h3⟩, h0, hN, hl => by
    have ha : a ≤ N := hl a List.mem_cons_self
    show many * (a - x0) + seg f a (f a) r = _
    rw [sI_split f h1 ha, sI_const h1 h2, seg_sum f N r a (f a) h3 h0 ha fun u hu => hl u (List.mem_cons_of_mem _ hu)]
theorem busyL_congr {ns : List Note} {t m m' : Int} (h : ∀ n ∈ ns, (n.s ≤ m ↔ n.s ≤ m') ∧ (n.e + t ≤ m ↔ n.e + t ≤ m')) : busyL ns t m = busyL ns t m' := by
  unfold busyL
  congr 1
  funext x
  rw [decide_eq_decide]
  constructor
  · rintro ⟨n, hn, e, h1, h2⟩
    have := h n hn
    exact ⟨n, hn, e, by omega, by omega⟩
  · rintro ⟨n, hn, e, h1, h2⟩
    have := h n hn
    exact ⟨n, hn, e, by omega, by omega⟩
theorem cnt_zero {ns : List Note} {t m : Int} (h : ∀ n ∈ ns, ¬ (n.s ≤ m ∧ m ≤ n.e + t - 1)) : cnt ns t m = 0 := by
  unfold cnt busyL
  rw [List.length_eq_zero_iff, List.filter_eq_nil_iff]
  intro x _ hx
  obtain ⟨n, hn, _, h1⟩ := of_decide_eq_true hx
  exact h n hn h1
theorem cnt_le {ns : List Note} {t m : Int} : cnt ns t m ≤ 120 := by
  unfold cnt busyL
  refine Nat.le_trans (List.length_filter_le _ _) ?_
  rw [List.length_map, List.length_range]
  exact Nat.le_refl _
/-- behind a, up to the turns in r: constant -/
theorem pw_turns {ns : List Note} {t : Int} {ts : List Int} (ht : IsTurns ns t ts) : ∀ (l : List Int) (a : Int), SD (a :: l) → (∀ u ∈ ts, u ≤ a ∨ u ∈ l) → PW (fun m => (cnt ns t m : Int)) a (cnt ns t a) l := by
  have key : ∀ (a m : Int), (∀ u ∈ ts, u ≤ m → u ≤ a) → a ≤ m → (cnt ns t m : Int) = cnt ns t a := by
    intro a m h ham
    unfold cnt
    rw [busyL_congr fun n hn => ?_]
    have h1 := h n.s ((ht.mem _).mpr ⟨n, hn, .inl rfl⟩)
    have h2 := h (n.e + t) ((ht.mem _).mpr ⟨n, hn, .inr rfl⟩)
    exact ⟨⟨h1, fun z => by omega⟩, ⟨h2, fun z => by omega⟩⟩
  intro l
  induction l with
  | nil =>
    intro a _ hl m ham
    exact key a m (fun u hu _ => (hl u hu).resolve_right (by simp)) ham
  | cons b r ih =>
    intro a sd hl
    have sd' := List.pairwise_cons.mp sd
    have sd2 := List.pairwise_cons.mp sd'.2
    refine ⟨by have := sd'.1 b List.mem_cons_self; omega, fun m ham hmb => key a m (fun u hu hum => ?_) ham, ih b sd'.2 fun u hu => ?_⟩
    · rcases hl u hu with h | h
      · exact h
      · rcases List.mem_cons.mp h with rfl | h
        · omega
        · have := sd2.1 u h
          omega
    · rcases hl u hu with h | h
      · have := sd'.1 b List.mem_cons_self
        exact .inl (by omega)
      · rcases List.mem_cons.mp h with rfl | h
        · exact .inl (Int.le_refl _)
        · exact .inr h
theorem lastF_last {f : Int → Int} : ∀ (l : List Int) (many : Int), (l = [] ∧ lastF f many l = many) ∨ ∃ u, u ∈ l ∧ (SD l → ∀ v ∈ l, v ≤ u) ∧ lastF f many l = f u
  | [], many => .inl ⟨rfl, rfl⟩
  | a :: r, many => by
    refine .inr ?_
    rcases lastF_last (f := f) r (f a) with ⟨rfl, h⟩ | ⟨u, hu, hm, h⟩
    · exact ⟨a, List.mem_cons_self, fun _ v hv => by rw [List.mem_singleton.mp hv]; exact Int.le_refl _, h⟩
    · refine ⟨u, List.mem_cons_of_mem _ hu, fun sd v hv => ?_, h⟩
      have sd' := List.pairwise_cons.mp sd
      rcases List.mem_cons.mp hv with rfl | hv
      · have := sd'.1 u hu
        omega
      · exact hm sd'.2 v hv
/-- load's sum: the busy time -/
theorem load_sum {ns : List Note} {t : Int} {ts : List Int} (ht : IsTurns ns t ts) (ok : ∀ n ∈ ns, n.ok) (t1 : 1 ≤ t) (t2 : t ≤ 9999) : sumRows (ldRows (fun m => (cnt ns t m : Int)) 0 ts) = sI (fun m => (cnt ns t m : Int)) 0 30000 := by
  have last : lastF (fun m => (cnt ns t m : Int)) 0 ts = 0 := by
    rcases lastF_last (f := fun m => (cnt ns t m : Int)) ts 0 with ⟨_, h⟩ | ⟨u, hu, hm, h⟩
    · exact h
    · rw [h]
      show (cnt ns t u : Int) = 0
      rw [cnt_zero fun n hn z => ?_]
      · rfl
      · have := hm ht.sd (n.e + t) ((ht.mem _).mpr ⟨n, hn, .inr rfl⟩)
        omega
  have bd : ∀ u ∈ ts, 0 ≤ u ∧ u ≤ 30000 := fun u hu => by
    obtain ⟨n, hn, h⟩ := (ht.mem u).mp hu
    obtain ⟨h1, h2, h3, h4, h5⟩ := ok n hn
    rcases h with h | h <;> omega
  rw [sum_ld0 _ _ last (-1)]
  have before : (cnt ns t (-1) : Int) = 0 := by
    rw [cnt_zero fun n hn z => ?_]
    · rfl
    · obtain ⟨h1, _⟩ := ok n hn
      omega
  have pw : PW (fun m => (cnt ns t m : Int)) (-1) 0 ts := by
    have := pw_turns ht ts (-1) (List.pairwise_cons.mpr ⟨fun u hu => by have := bd u hu; omega, ht.sd⟩) fun u hu => .inr hu
    rw [before] at this
    exact this
  rw [seg_sum _ 30000 ts (-1) 0 pw last (by omega) fun u hu => (bd u hu).2, sI_split _ (show (-1 : Int) ≤ 0 by omega) (by omega)]
  have z : sI (fun m => (cnt ns t m : Int)) (-1) 0 = 0 := by
    rw [sI_const (c := 0) (by omega) fun m h1 h2 => ?_, Int.zero_mul]
    rw [show m = -1 by omega]
    exact before
  rw [z, Int.zero_add]
/-- a pitch alone: 1 where it is busy -/
def onePitch (x : Int) (ns : List Note) : List Note := ns.filter fun n => decide (n.p = x)
theorem cnt_one {ns : List Note} {t m x : Int} (ok : ∀ n ∈ ns, n.ok) (one : ∀ n ∈ ns, n.p = x) : cnt ns t m = if (∃ n ∈ ns, n.s ≤ m ∧ m ≤ n.e + t - 1) then 1 else 0 := by
  have hb := busyL_is ok t m
  by_cases h : ∃ n ∈ ns, n.s ≤ m ∧ m ≤ n.e + t - 1
  · rw [if_pos h]
    have e : busyL ns t m = [x] := sd_ext hb.sd (List.pairwise_singleton _ _) fun y => by
      rw [hb.mem, List.mem_singleton]
      constructor
      · rintro ⟨n, hn, e, _⟩
        rw [← e, one n hn]
      · rintro rfl
        obtain ⟨n, hn, h⟩ := h
        exact ⟨n, hn, one n hn, h⟩
    unfold cnt
    rw [e]
    rfl
  · rw [if_neg h]
    exact cnt_zero fun n hn z => h ⟨n, hn, z⟩
theorem sI_window {a b : Int} (h0 : 0 ≤ a) (h : a ≤ b) (hN : b ≤ 30000) : sI (fun m => if a ≤ m ∧ m < b then 1 else 0) 0 30000 = b - a := by
  rw [sI_split _ h0 (show a ≤ 30000 by omega), sI_split _ h hN, sI_const (c := 0) h0 fun m _ h2 => if_neg (by omega), sI_const (c := 1) h fun m h1 h2 => if_pos ⟨h1, h2⟩, sI_const (c := 0) hN fun m h1 _ => if_neg (by omega)]
  omega
theorem own_busy {t x : Int} (t1 : 1 ≤ t) (t2 : t ≤ 9999) : ∀ ns : List Note, (∀ n ∈ ns, n.ok) → (∀ n ∈ ns, n.p = x) → ns.Pairwise (fun n m => n.e < m.s) → ownSum t ns = sI (fun m => if (∃ n ∈ ns, n.s ≤ m ∧ m ≤ n.e + t - 1) then 1 else 0) 0 30000
  | [], _, _, _ => by
    rw [sI_congr (g := fun _ => 0) fun m _ _ => if_neg (by simp), sI_zero (by omega)]
    rfl
  | [n], ok, _, _ => by
    obtain ⟨h1, h2, h3, h4, h5⟩ := ok n List.mem_cons_self
    rw [sI_congr (g := fun m => if n.s ≤ m ∧ m < n.e + t then 1 else 0) fun m _ _ => ?_, sI_window h1 (by omega) (by omega)]
    · rfl
    · by_cases h : n.s ≤ m ∧ m < n.e + t
      · rw [if_pos h, if_pos ⟨n, List.mem_cons_self, h.1, by omega⟩]
      · rw [if_neg h, if_neg]
        rintro ⟨k, hk, h6, h7⟩
        rw [List.mem_singleton.mp hk] at h6 h7
        exact h ⟨h6, by omega⟩
  | n :: m :: r, ok, one, ord => by
    obtain ⟨h1, h2, h3, h4, h5⟩ := ok n List.mem_cons_self
    obtain ⟨g1, g2, g3, g4, g5⟩ := ok m (List.mem_cons_of_mem _ List.mem_cons_self)
    have ord' := List.pairwise_cons.mp ord
    have ord2 := List.pairwise_cons.mp ord'.2
    have hnm := ord'.1 m List.mem_cons_self
    have ih := own_busy t1 t2 (m :: r) (fun k hk => ok k (List.mem_cons_of_mem _ hk)) (fun k hk => one k (List.mem_cons_of_mem _ hk)) ord'.2
    show ((if m.s < n.e + t then m.s else n.e + t) - n.s) + ownSum t (m :: r) = _
    rw [ih]
    have hb : n.s ≤ (if m.s < n.e + t then m.s else n.e + t) ∧ (if m.s < n.e + t then m.s else n.e + t) ≤ 30000 := by split <;> omega
    rw [← sI_window h1 hb.1 hb.2, ← sI_add _ _ (by omega)]
    refine (sI_congr fun y _ _ => ?_).symm
    have later : ∀ k ∈ m :: r, m.s ≤ k.s := fun k hk => by
      rcases List.mem_cons.mp hk with rfl | hk
      · exact Int.le_refl _
      · have := ord2.1 k hk
        omega
    by_cases hy : m.s ≤ y
    · have e1 : ¬ (n.s ≤ y ∧ y < (if m.s < n.e + t then m.s else n.e + t)) := by
        split <;> omega
      rw [if_neg e1, Int.zero_add]
      by_cases hr : ∃ k ∈ m :: r, k.s ≤ y ∧ y ≤ k.e + t - 1
      · obtain ⟨k, hk, q⟩ := hr
        rw [if_pos ⟨k, List.mem_cons_of_mem _ hk, q⟩, if_pos ⟨k, hk, q⟩]
      · rw [if_neg hr, if_neg]
        rintro ⟨k, hk, q⟩
        rcases List.mem_cons.mp hk with rfl | hk
        · exact hr ⟨m, List.mem_cons_self, hy, by omega⟩
        · exact hr ⟨k, hk, q⟩
    · have e2 : ¬ ∃ k ∈ m :: r, k.s ≤ y ∧ y ≤ k.e + t - 1 := by
        rintro ⟨k, hk, q⟩
        have := later k hk
        omega
      rw [if_neg e2, Int.add_zero]
      by_cases hn : n.s ≤ y ∧ y < n.e + t
      · rw [if_pos ⟨n, List.mem_cons_self, hn.1, by omega⟩, if_pos ⟨hn.1, by split <;> omega⟩]
      · rw [if_neg, if_neg]
        · intro z
          refine hn ⟨z.1, ?_⟩
          have := z.2
          split at this <;> omega
        · rintro ⟨k, hk, q⟩
          rcases List.mem_cons.mp hk with rfl | hk
          · exact hn ⟨q.1, by omega⟩
          · exact e2 ⟨k, hk, q⟩
instance (ns : List Note) (t m x : Int) : Decidable (Busy ns t m x) := by unfold Busy; infer_instance
/-- the busy pitches are those of the pitches alone -/
theorem cnt_pitches {ns : List Note} {t m : Int} {ps : List Int} (ok : ∀ n ∈ ns, n.ok) (hp : IsPitches ns ps) : (cnt ns t m : Int) = (ps.map fun x => (cnt (onePitch x ns) t m : Int)).sum := by
  have hb := busyL_is ok t m
  have each : ∀ x, (cnt (onePitch x ns) t m : Int) = if Busy ns t m x then 1 else 0 := fun x => by
    rw [cnt_one (ns := onePitch x ns) (x := x) (fun n hn => ok n (List.mem_filter.mp hn).1) fun n hn => of_decide_eq_true (List.mem_filter.mp hn).2]
    have e : (∃ n ∈ onePitch x ns, n.s ≤ m ∧ m ≤ n.e + t - 1) ↔ Busy ns t m x := by
      constructor
      · rintro ⟨n, hn, q⟩
        obtain ⟨q1, q2⟩ := List.mem_filter.mp hn
        exact ⟨n, q1, of_decide_eq_true q2, q⟩
      · rintro ⟨n, hn, e, q⟩
        exact ⟨n, List.mem_filter.mpr ⟨hn, decide_eq_true e⟩, q⟩
    by_cases h : Busy ns t m x
    · rw [if_pos h, if_pos (e.mpr h)]; rfl
    · rw [if_neg h, if_neg (fun z => h (e.mp z))]; rfl
  have e : busyL ns t m = ps.filter fun x => decide (Busy ns t m x) := sd_ext hb.sd (hp.sd.filter _) fun x => by
    rw [hb.mem, List.mem_filter, decide_eq_true_eq, hp.mem]
    exact ⟨fun h => ⟨h.imp fun n q => ⟨q.1, q.2.1⟩, h⟩, fun h => h.2⟩
  unfold cnt
  rw [e]
  have cntf : ∀ l : List Int, ((l.filter fun x => decide (Busy ns t m x)).length : Int) = (l.map fun x => (cnt (onePitch x ns) t m : Int)).sum := by
    intro l
    induction l with
    | nil => rfl
    | cons x r ih =>
      rw [List.map_cons, List.sum_cons, ← ih, each]
      by_cases h : Busy ns t m x
      · rw [List.filter_cons_of_pos (by exact decide_eq_true h), if_pos h, List.length_cons]
        omega
      · rw [List.filter_cons_of_neg (by intro z; exact h (of_decide_eq_true z)), if_neg h]
        omega
  exact cntf ps
/-- the whole: by moments and by pitches -/
def busyTime (ns : List Note) (t : Int) : Int := sI (fun m => (cnt ns t m : Int)) 0 30000
theorem busy_pitches_sum {ns : List Note} {t : Int} {ps : List Int} (ok : ∀ n ∈ ns, n.ok) (hp : IsPitches ns ps) : busyTime ns t = (ps.map fun x => busyTime (onePitch x ns) t).sum := by
  unfold busyTime
  rw [← sI_list (fun x m => (cnt (onePitch x ns) t m : Int)) (by omega)]
  exact sI_congr fun m _ _ => cnt_pitches ok hp
theorem own_one {ns : List Note} {t x : Int} (g : GoodL ns) (ord : ns.Pairwise fun n m => n.key ≤ m.key) (t1 : 1 ≤ t) (t2 : t ≤ 9999) : ownSum t (onePitch x ns) = busyTime (onePitch x ns) t := by
  have ok : ∀ n ∈ onePitch x ns, n.ok := fun n hn => g.ok n (List.mem_filter.mp hn).1
  have one : ∀ n ∈ onePitch x ns, n.p = x := fun n hn => of_decide_eq_true (List.mem_filter.mp hn).2
  rw [own_busy t1 t2 _ ok one]
  · exact sI_congr fun m _ _ => by
      rw [cnt_one ok one]
      by_cases h : ∃ n ∈ onePitch x ns, n.s ≤ m ∧ m ≤ n.e + t - 1
      · rw [if_pos h, if_pos h]; rfl
      · rw [if_neg h, if_neg h]; rfl
  · refine ((g.follow ord).filter _).imp_of_mem fun {n m} hn hm z => z ?_
    rw [one n hn, one m hm]
theorem busyTime_bd (ns : List Note) (t : Int) : 0 ≤ busyTime ns t ∧ busyTime ns t ≤ 120 * 30000 := by
  have := sI_bound (f := fun m => (cnt ns t m : Int)) (c := 120) (a := 0) (b := 30000) (by omega) fun m => by
    have := cnt_le (ns := ns) (t := t) (m := m)
    omega
  unfold busyTime
  omega
end Kt
namespace Kt
open PySem PySem.Spec PyProof.Rows L2
theorem GoodL.sublist {ns ms : List Note} (g : GoodL ns) (s : ms.Sublist ns) : GoodL ms := ⟨fun n hn => g.ok n (s.subset hn), g.apart.sublist s⟩
theorem GoodL.filter {ks : List (Addr × Note)} (g : GoodL (vals ks)) (p : Addr × Note → Bool) : GoodL (vals (ks.filter p)) := g.sublist (List.filter_sublist.map _)
theorem vals_filter {α : Type} (ks : List (Addr × α)) (p : α → Bool) : vals (ks.filter fun k => p k.2) = (vals ks).filter p := by
  show (ks.filter _).map _ = (ks.map _).filter _
  rw [List.filter_map]
  rfl
section
variable {K : PySem.W.Frag}
/-- the notes of a list for which c holds -/
theorem lc_filter {a : Addr} {ks : List (Addr × Note)} {g : TG} {tt : TT} {te : TE} {vs : List Nat} {σ : L2.St} {H1 : Hp} {D : Addr} {Qd : Hp → Prop} (c : Note → Prop) [DecidablePred c] (hl : NL H1 a ks) (h60 : ks.length ≤ 60) (hD : H1 D = none)
    (hs : ∀ (k : Addr × Note) (H : Hp), H k.1 = some (.tup [.int k.2.s, .int k.2.e, .int k.2.p]) → ∀ (N : V → Hp → Prop) (M : Hp → Prop), (c k.2 → N (.ref k.1) H) → (¬ c k.2 → M H) →
      g (.ref k.1) (wipe σ vs) H fun σ2 H2 => wipe σ2 vs = wipe σ vs ∧ tt σ2 H2 fun b H3 => if b = true then te σ2 H3 fun y H4 => N y H4 else M H3)
    (hd : ∀ H, Same H1 H → NL H D (ks.filter fun k => decide (c k.2)) → Qd H) :
    ∃ W : Nat → Nat → Hp → Prop, (∃ m, W 0 m (upd H1 D (.lst []))) ∧ ∀ i m H, W i m H →
      ((Itl K a).stop i H ∧ Qd H) ∨ ((Itl K a).go i H ∧ ∃ Nx : Hp → Prop, (∀ H', Nx H' → ∃ m', m' < m ∧ W (i + 1) m' H') ∧ ∀ x H', (Itl K a).yld i H x H' → g x (wipe σ vs) H' fun σ2 H2 => wipe σ2 vs = wipe σ vs ∧ tt σ2 H2 fun b H3 =>
        if b = true then te σ2 H3 fun y H4 => ∃ acc, H4 D = some (.lst acc) ∧ acc.length < sizeLine ∧ Nx (upd H4 D (.lst (acc ++ [y]))) else Nx H3) := by
  refine lc_pure (xs := refs ks) (fun j => (ks[j]?).bind fun k => if c k.2 then some (V.ref k.1) else none) (SqL.of hl.lst) hD (by rw [refs_length]; omega) (fun i x H hx e N M hN hM => ?_) (fun H e hH => ?_)
  · obtain ⟨k, hk, rfl⟩ := of_refs hx
    refine hs k H (e _ _ (hl.tus k (List.mem_of_getElem? hk))) N M (fun h => hN _ _ ?_ (Same.refl _)) (fun h => hM _ ?_ (Same.refl _))
    · rw [hk]; exact if_pos h
    · rw [hk]; exact if_neg h
  · rw [refs_length, range_bind, refs_filter (fun k : Addr × Note => c k.2)] at hH
    exact hd H e (TL.filter (hl.tus.tp (Same.tp e)) hH)
end
theorem ifD {c : Prop} [Decidable c] {A B : Prop} (h1 : c → A) (h2 : ¬ c → B) : if decide c = true then A else B := if2 h1 h2
end Kt
namespace Kt
open PySem PySem.Spec PyProof.Rows L2
theorem ldRows_mem (f : Int → Int) : ∀ (l : List Int) (many : Int), ∀ r ∈ ldRows f many l, r.1 ∈ l ∧ r.2 = f r.1
  | [], _, r, h => absurd h (by simp [ldRows])
  | a :: l, many, r, h => by
    rcases List.mem_append.mp (show r ∈ (if f a ≠ many then [(a, f a)] else []) ++ ldRows f (f a) l from h) with h | h
    · by_cases e : f a ≠ many
      · rw [if_pos e, List.mem_singleton] at h
        rw [h]
        exact ⟨List.mem_cons_self, rfl⟩
      · rw [if_neg e] at h
        simp at h
    · obtain ⟨h1, h2⟩ := ldRows_mem f l (f a) r h
      exact ⟨List.mem_cons_of_mem _ h1, h2⟩
theorem load_bd {ns : List Note} {t : Int} {ts : List Int} (ht : IsTurns ns t ts) (ok : ∀ n ∈ ns, n.ok) (t1 : 1 ≤ t) (t2 : t ≤ 9999) {rs : List (Addr × (Int × Int))} (e : vals rs = ldRows (fun m => (cnt ns t m : Int)) 0 ts) (tl : ts.length ≤ 62) :
    rs.length ≤ 100 ∧ ∀ r ∈ rs, 0 ≤ r.2.1 ∧ r.2.1 ≤ 30000 ∧ 0 ≤ r.2.2 ∧ r.2.2 ≤ 1000 := by
  refine ⟨?_, fun r hr => ?_⟩
  · have h := ldRows_len (fun m => (cnt ns t m : Int)) ts 0
    rw [← e, vals_length] at h
    omega
  · have h : r.2 ∈ vals rs := List.mem_map_of_mem hr
    rw [e] at h
    obtain ⟨h1, h2⟩ := ldRows_mem _ _ _ _ h
    obtain ⟨n, hn, h3⟩ := (ht.mem _).mp h1
    obtain ⟨g1, g2, g3, g4, g5⟩ := ok n hn
    have hc := cnt_le (ns := ns) (t := t) (m := r.2.1)
    rw [h2]
    have : 0 ≤ r.2.1 ∧ r.2.1 ≤ 30000 := by rcases h3 with h3 | h3 <;> omega
    omega
theorem sum_take {ps : List Int} {i : Nat} {x : Int} (h : ps[i]? = some x) (f : Int → Int) : ((ps.take (i + 1)).map f).sum = ((ps.take i).map f).sum + f x := by
  rw [List.take_add_one, h, List.map_append, List.sum_append]
  simp
theorem busy_join {ns : List Note} {t m c : Int} {bs lo hi : List Int} (hb : IsBusy ns t m bs) (hl : IsBusy (ns.filter fun n => decide (n.p < c)) t m lo) (hh : IsBusy (ns.filter fun n => decide (n.p ≥ c)) t m hi) : lo ++ hi = bs := by
  have l1 : ∀ x ∈ lo, x < c := fun x hx => by
    obtain ⟨n, hn, e, _⟩ := (hl.mem x).mp hx
    have := of_decide_eq_true (List.mem_filter.mp hn).2
    omega
  have h1 : ∀ x ∈ hi, c ≤ x := fun x hx => by
    obtain ⟨n, hn, e, _⟩ := (hh.mem x).mp hx
    have := of_decide_eq_true (List.mem_filter.mp hn).2
    omega
  refine sd_ext (List.pairwise_append.mpr ⟨hl.sd, hh.sd, fun a ha b hb => by have := l1 a ha; have := h1 b hb; omega⟩) hb.sd fun x => ?_
  rw [List.mem_append, hl.mem, hh.mem, hb.mem]
  constructor
  · rintro (⟨n, hn, q⟩ | ⟨n, hn, q⟩)
    · exact ⟨n, (List.mem_filter.mp hn).1, q⟩
    · exact ⟨n, (List.mem_filter.mp hn).1, q⟩
  · rintro ⟨n, hn, q⟩
    by_cases h : n.p < c
    · exact .inl ⟨n, List.mem_filter.mpr ⟨hn, decide_eq_true h⟩, q⟩
    · exact .inr ⟨n, List.mem_filter.mpr ⟨hn, decide_eq_true (by omega)⟩, q⟩
end Kt
namespace Kt
theorem IsBusy.range {ns : List Note} {t m : Int} {bs : List Int} (h : IsBusy ns t m bs) (ok : ∀ n ∈ ns, n.ok) : ∀ x ∈ bs, 0 ≤ x ∧ x ≤ 119 := fun x hx => by
  obtain ⟨n, hn, e, _⟩ := (h.mem x).mp hx
  obtain ⟨_, _, _, h1, h2⟩ := ok n hn
  omega
theorem IsBusy.short {ns : List Note} {t m : Int} {bs : List Int} (h : IsBusy ns t m bs) : bs.length ≤ ns.length := by
  have nd : bs.Nodup := h.sd.imp fun {a b} z => by omega
  have := nodup_sub (m := ns.map (·.p)) nd fun x hx => by
    obtain ⟨n, hn, e, _⟩ := (h.mem x).mp hx
    exact List.mem_map.mpr ⟨n, hn, e⟩
  rwa [List.length_map] at this
end Kt
namespace Kt
open PySem PySem.Spec PyProof.Rows L2
/-! ## a class's own special methods -/
section
variable {X : Cx} {CX : CXT} {n : Nat} {f C : Addr} {fd : FuncData} {ps : List Str} {sp : Sp} {E : XK}
theorem own_run {A : Around} {pins : List (Addr × Obj)} {σ : L2.St} {H : Hp} {s : Shared} {Q : VK} {vs : List V} {us : List Value} (F : FnOk X.prog X.w X.K X.mg X.base CX n f fd ps sp) (hb : Binds X.K fd ps []) (hx : Passes CX X E) (sb : Sub X n A) (I : Inv X pins σ H s) (r : Vals vs us) (h : sp vs H Q E) :
    wpAny (model X.prog X.w) A (call (.ref f) us) (EP X pins σ Q) X.xe s := by
  have e0 : Env0 X.prog X.w X.K X.mg X.base A X.stack s H := by
    have e := I.env0
    exact ⟨by rw [sb.fr]; exact e.frames, e.mod, e.bs, e.bsz, e.funs, e.frf, e.hok, e.bare⟩
  have hl : us.length = ps.length := by rw [← r.length]; exact F.len _ _ _ _ h
  refine wpAny_call (codeAny_mono (F.run A X.stack s H ⟨us, []⟩ us vs Q E sb.room e0 (by
    have q := hb s us I.kIn (by simpa using hl)
    simpa using q) r h) fun r s' hq => ?_)
  match r, hq with
  | .error e, hq => exact hx pins σ H s e s' I hq
  | .ok (.ret u), hq => exact I.after hq
/-- len(x), x an instance of the class at C with its own __len__ -/
def rLenO (C : Addr) (sp : Sp) (E : XK) : List V → Hp → VK → Prop := fun vs H Q => ∃ a dx fs, vs = [.ref a] ∧ H a = some (.ins C dx fs) ∧ sp [.ref a] H (fun v H' => ∃ k : Nat, v = .int k ∧ k ≤ 1000000 ∧ Q (.int k) H') E
theorem cr_lenO (F : FnOk X.prog X.w X.K X.mg X.base CX n f fd ps sp) (hb : Binds X.K fd ps []) (hx : Passes CX X E) (hs : PySem.W.findIn X.K (.ref C) "__len__" = some (some (.ref f))) (hf : PySem.W.isFn X.K (.ref f) = true) (hr : Room (n + 1) X.A) : CallR X (.builtin "len") (rLenO C sp E) := by
  intro pins s σ H xs us Q I r h
  obtain ⟨a, dx, fs, rfl, ha, h⟩ := h
  rw [Vals.ref1 r]
  obtain ⟨mA, O, _⟩ := ins_get I.hok ha
  obtain ⟨od, O, _⟩ := O.look
  obtain ⟨m, hF⟩ := I.fr
  refine PySem.W.len_K hF I.ok.mod.kin O hs hf (wpAny_mono (own_run (vs := [.ref a]) F hb hx (A := X.A.in1) ⟨hr.in1, rfl⟩ I (.cons rfl .nil) h) (fun u s' hu => ?_) fun _ _ z => z)
  obtain ⟨v, H', I', rv, k, rfl, hk, q⟩ := hu
  obtain ⟨t, rfl⟩ := rv
  exact ⟨⟨by omega, by omega⟩, .int k, H', I'.tok _, ⟨_, rfl⟩, q⟩
end
section
variable {P : Program} {w : World} {K : PySem.W.Frag} {mg : Str → Option Value} {base : Heap}
/-- the class at C has its own special method m -/
structure CalO (P : Program) (w : World) (K : PySem.W.Frag) (mg : Str → Option Value) (base : Heap) (C : Addr) (k : Nat) (m : Str) (ps : List Str) (sp : Sp) : Prop where
  ex : ∃ f fd, FnOk P w K mg base (L2.CX P w) k f fd ps sp ∧ PySem.W.findIn K (.ref C) m = some (some (.ref f)) ∧ PySem.W.isFn K (.ref f) = true ∧ Binds K fd ps []
end
section
variable {X : Cx} {k j : Nat} {C : Addr} {sp : Sp} {E : XK} {ps : List Str}
theorem cr_lenC (c : CalO X.prog X.w X.K X.mg X.base C k "__len__" ps sp) (hr : Room j X.A) (hx : Passes (L2.CX X.prog X.w) X E) (hj : k + 1 ≤ j := by decide) : CallR X (.builtin "len") (rLenO C sp E) := by
  obtain ⟨f, fd, F, hs, hf, hb⟩ := c.ex
  exact cr_lenO F hb hx hs hf (hr.mono hj)
end
end Kt
namespace Kt
open PySem PySem.Spec PyProof.Rows L2
/-! ## the plain law of needed and profile -/
structure Peak (ns : List Note) (t : Int) (M : Nat) : Prop where
  le : ∀ m, cnt ns t m ≤ M
  at_ : ∃ m, cnt ns t m = M
theorem Peak.uniq {ns : List Note} {t : Int} {M N : Nat} (h : Peak ns t M) (g : Peak ns t N) : M = N := by
  obtain ⟨a, ha⟩ := h.at_
  obtain ⟨b, hb⟩ := g.at_
  have := h.le b
  have := g.le a
  omega
theorem Peak.mono {ns : List Note} {t u : Int} {M N : Nat} (h : Peak ns t M) (g : Peak ns u N) (htu : t ≤ u) : M ≤ N := by
  obtain ⟨a, ha⟩ := h.at_
  have := g.le a
  have := cnt_mono (ns := ns) (m := a) htu
  omega
theorem Peak.mid {ns : List Note} {t u v : Int} {M : Nat} (h : Peak ns t M) (g : Peak ns v M) (h1 : t ≤ u) (h2 : u ≤ v) : Peak ns u M := by
  refine ⟨fun m => Nat.le_trans (cnt_mono h2) (g.le m), ?_⟩
  obtain ⟨a, ha⟩ := h.at_
  refine ⟨a, Nat.le_antisymm (Nat.le_trans (cnt_mono h2) (g.le a)) ?_⟩
  rw [← ha]
  exact cnt_mono h1
/-- with a bound above and one below -/
theorem Peak.of {ns : List Note} {t u : Int} {M : Nat} (h : Peak ns t M) (h1 : t ≤ u) (hu : ∀ m, cnt ns u m ≤ M) : Peak ns u M := by
  obtain ⟨a, ha⟩ := h.at_
  refine ⟨hu, a, Nat.le_antisymm (hu a) ?_⟩
  rw [← ha]
  exact cnt_mono h1
theorem argmaxS {ns : List Note} (P : Note → Prop) (h : ∃ n ∈ ns, P n) : ∃ n ∈ ns, P n ∧ ∀ m ∈ ns, P m → m.s ≤ n.s := by
  induction ns with
  | nil => obtain ⟨n, hn, _⟩ := h; simp at hn
  | cons a r ih =>
    by_cases hr : ∃ n ∈ r, P n
    · obtain ⟨n, hn, hp, hm⟩ := ih hr
      by_cases ha : P a ∧ n.s ≤ a.s
      · refine ⟨a, List.mem_cons_self, ha.1, fun m hm' pm => ?_⟩
        rcases List.mem_cons.mp hm' with rfl | hm'
        · exact Int.le_refl _
        · exact Int.le_trans (hm m hm' pm) ha.2
      · refine ⟨n, List.mem_cons_of_mem _ hn, hp, fun m hm' pm => ?_⟩
        rcases List.mem_cons.mp hm' with rfl | hm'
        · have : ¬ n.s ≤ m.s := fun z => ha ⟨pm, z⟩
          omega
        · exact hm m hm' pm
    · obtain ⟨n, hn, pn⟩ := h
      rcases List.mem_cons.mp hn with rfl | hn
      · refine ⟨n, List.mem_cons_self, pn, fun m hm' pm => ?_⟩
        rcases List.mem_cons.mp hm' with rfl | hm'
        · exact Int.le_refl _
        · exact absurd ⟨m, hm', pm⟩ hr
      · exact absurd ⟨n, hn, pn⟩ hr
/-- at any moment no more than at some note's start -/
theorem cnt_start (ns : List Note) (t m : Int) : cnt ns t m = 0 ∨ ∃ n ∈ ns, cnt ns t m ≤ cnt ns t n.s := by
  by_cases h : ∃ n ∈ ns, n.s ≤ m ∧ m ≤ n.e + t - 1
  · obtain ⟨n, hn, hb, hmax⟩ := argmaxS _ h
    refine .inr ⟨n, hn, ?_⟩
    unfold cnt
    refine nodup_sub ?_ fun x hx => ?_
    · have := (sd_range 120).filter fun x => decide (∃ n ∈ ns, n.p = x ∧ n.s ≤ m ∧ m ≤ n.e + t - 1)
      exact this.imp fun {a b} h => by omega
    · unfold busyL at hx ⊢
      obtain ⟨h1, h2⟩ := List.mem_filter.mp hx
      obtain ⟨k, hk, e, h3, h4⟩ := of_decide_eq_true h2
      refine List.mem_filter.mpr ⟨h1, decide_eq_true ⟨k, hk, e, hmax k hk ⟨h3, h4⟩, by omega⟩⟩
  · exact .inl (cnt_zero fun n hn z => h ⟨n, hn, z⟩)
theorem cnt_early {ns : List Note} {t : Int} (ok : ∀ n ∈ ns, n.ok) : cnt ns t (-1) = 0 := cnt_zero fun n hn z => by
  obtain ⟨h, _⟩ := ok n hn
  omega
theorem most_peak {ns : List Note} {t m : Int} (ok : ∀ n ∈ ns, n.ok) (h : Most ns t m) : ∃ M : Nat, m = M ∧ Peak ns t M := by
  rcases h with ⟨rfl, rfl⟩ | ⟨⟨n, hn, rfl⟩, h2⟩
  · refine ⟨0, rfl, fun m => ?_, -1, cnt_early ok⟩
    rcases cnt_start [] t m with h | ⟨n, hn, _⟩
    · omega
    · simp at hn
  · refine ⟨_, rfl, fun m => ?_, n.s, rfl⟩
    rcases cnt_start ns t m with h | ⟨k, hk, h⟩
    · omega
    · have := h2 k hk
      omega
theorem rows_le (f : Int → Int) (M : Int) : ∀ (l : List Int) (many : Int), (∀ r ∈ ldRows f many l, r.2 ≤ M) → many ≤ M → ∀ u ∈ l, f u ≤ M
  | [], _, _, _, u, hu => absurd hu (by simp)
  | a :: r, many, h, hm, u, hu => by
    have ha : f a ≤ M := by
      by_cases e : f a ≠ many
      · refine h (a, f a) (List.mem_append_left _ ?_)
        rw [if_pos e]
        exact List.mem_singleton.mpr rfl
      · have : f a = many := Classical.byContradiction e
        omega
    rcases List.mem_cons.mp hu with rfl | hu
    · exact ha
    · exact rows_le f M r (f a) (fun q hq => h q (List.mem_append_right _ hq)) ha u hu
theorem rows_peak {ns : List Note} {t : Int} {ts : List Int} {M : Int} (ok : ∀ n ∈ ns, n.ok) (ht : IsTurns ns t ts) (hM : ((ldRows (fun m => (cnt ns t m : Int)) 0 ts).map (·.2) = [] ∧ M = 0) ∨ (M ∈ (ldRows (fun m => (cnt ns t m : Int)) 0 ts).map (·.2) ∧ ∀ x ∈ (ldRows (fun m => (cnt ns t m : Int)) 0 ts).map (·.2), x ≤ M)) :
    ∃ N : Nat, M = N ∧ Peak ns t N := by
  have step : ∀ N : Nat, (∀ r ∈ ldRows (fun m => (cnt ns t m : Int)) 0 ts, r.2 ≤ (N : Int)) → ∀ m, cnt ns t m ≤ N := by
    intro N h m
    rcases cnt_start ns t m with h0 | ⟨n, hn, h1⟩
    · omega
    · have := rows_le (fun m => (cnt ns t m : Int)) N ts 0 h (by omega) n.s ((ht.mem _).mpr ⟨n, hn, .inl rfl⟩)
      have : (cnt ns t n.s : Int) ≤ N := this
      omega
  rcases hM with ⟨h0, rfl⟩ | ⟨h1, h2⟩
  · rw [List.map_eq_nil_iff] at h0
    refine ⟨0, rfl, step 0 (fun r hr => ?_), -1, cnt_early ok⟩
    rw [h0] at hr
    simp at hr
  · obtain ⟨r, hr, rfl⟩ := List.mem_map.mp h1
    obtain ⟨hr1, hr2⟩ := ldRows_mem _ _ _ _ hr
    refine ⟨cnt ns t r.1, hr2, step _ fun q hq => ?_, r.1, rfl⟩
    have := h2 q.2 (List.mem_map_of_mem hq)
    rw [hr2] at this
    exact this
/-- one row follows another -/
structure Nxt (ns : List Note) (t : Int) (M : Nat) (t' : Int) (N : Nat) : Prop where
  lt : t < t'
  hi : t' ≤ 9999
  more : M < N
  now : Peak ns t' N
  till : Peak ns (t' - 1) M
/-- the rows behind (t, M), to the end -/
def PO (ns : List Note) : Int → Nat → List (Int × Int) → Prop
  | _, M, [] => Peak ns 9999 M
  | t, M, r :: l => ∃ N : Nat, r.2 = N ∧ Nxt ns t M r.1 N ∧ PO ns r.1 N l
/-- the rows behind (t, M), as far as (u, L) -/
def PP (ns : List Note) (u : Int) (L : Nat) : Int → Nat → List (Int × Int) → Prop
  | t, M, [] => t = u ∧ M = L
  | t, M, r :: l => ∃ N : Nat, r.2 = N ∧ Nxt ns t M r.1 N ∧ PP ns u L r.1 N l
theorem PP.snoc {ns : List Note} {u v : Int} {L N : Nat} (h : Nxt ns u L v N) : ∀ (l : List (Int × Int)) (t : Int) (M : Nat), PP ns u L t M l → PP ns v N t M (l ++ [(v, (N : Int))])
  | [], t, M, ⟨h1, h2⟩ => ⟨N, rfl, by rw [h1, h2]; exact h, rfl, rfl⟩
  | r :: l, t, M, ⟨K, h1, h2, h3⟩ => ⟨K, h1, h2, PP.snoc h l r.1 K h3⟩
theorem PP.po {ns : List Note} {u : Int} {L : Nat} (h : Peak ns 9999 L) : ∀ (l : List (Int × Int)) (t : Int) (M : Nat), PP ns u L t M l → PO ns t M l
  | [], t, M, ⟨h1, h2⟩ => by rw [show M = L from h2]; exact h
  | r :: l, t, M, ⟨K, h1, h2, h3⟩ => ⟨K, h1, h2, PP.po h l r.1 K h3⟩
theorem PO.uniq {ns : List Note} : ∀ (l k : List (Int × Int)) (t : Int) (M : Nat), PO ns t M l → PO ns t M k → l = k
  | [], [], _, _, _, _ => rfl
  | [], r :: k, t, M, h, ⟨N, _, g, _⟩ => by
    have := g.now.mono h g.hi
    have := g.more
    omega
  | r :: l, [], t, M, ⟨N, _, g, _⟩, h => by
    have := g.now.mono h g.hi
    have := g.more
    omega
  | r :: l, q :: k, t, M, ⟨N, e1, g1, h1⟩, ⟨K, e2, g2, h2⟩ => by
    have e : r.1 = q.1 := by
      rcases Int.lt_trichotomy r.1 q.1 with h | h | h
      · have := g1.now.mono g2.till (by omega)
        have := g1.more
        omega
      · exact h
      · have := g2.now.mono g1.till (by omega)
        have := g2.more
        omega
    have eN : N = K := by
      have a := g1.now
      rw [e] at a
      exact a.uniq g2.now
    subst eN
    rw [e] at h1
    rw [PO.uniq l k q.1 N h1 h2]
    congr 1
    exact Prod.ext e (by rw [e1, e2])
/-- what profile gives -/
def ProfOk (ns : List Note) (rs : List (Int × Int)) : Prop := (ns = [] ∧ rs = []) ∨ (ns ≠ [] ∧ ∃ (M : Nat) (r : List (Int × Int)), rs = (1, (M : Int)) :: r ∧ Peak ns 1 M ∧ PO ns 1 M r)
theorem ProfOk.uniq {ns : List Note} {rs qs : List (Int × Int)} (h : ProfOk ns rs) (g : ProfOk ns qs) : rs = qs := by
  rcases h with ⟨h1, h2⟩ | ⟨h1, M, r, h2, h3, h4⟩
  · rcases g with ⟨g1, g2⟩ | ⟨g1, _⟩
    · rw [h2, g2]
    · exact absurd h1 g1
  · rcases g with ⟨g1, g2⟩ | ⟨g1, N, q, g2, g3, g4⟩
    · exact absurd g1 h1
    · have e := h3.uniq g3
      subst e
      rw [h2, g2, PO.uniq r q 1 M h4 g4]
/-- a row and the next -/
theorem PO.at_ {ns : List Note} : ∀ (l : List (Int × Int)) (t : Int) (M : Nat) (i : Nat) (r : Int × Int), 1 ≤ t → t ≤ 9999 → Peak ns t M → PO ns t M l → ((t, (M : Int)) :: l)[i]? = some r →
    (∃ N : Nat, r.2 = N ∧ Peak ns r.1 N ∧ 1 ≤ r.1 ∧ r.1 ≤ 9999 ∧ (∀ q, ((t, (M : Int)) :: l)[i + 1]? = some q → r.1 < q.1 ∧ r.2 < q.2 ∧ Peak ns (q.1 - 1) N) ∧ (((t, (M : Int)) :: l)[i + 1]? = none → Peak ns 9999 N))
  | [], t, M, 0, r, t1, t2, hp, h, e => by
    cases e
    exact ⟨M, rfl, hp, t1, t2, fun q z => (by cases z), fun _ => h⟩
  | [], t, M, i + 1, r, _, _, _, _, e => by simp at e
  | x :: l, t, M, 0, r, t1, t2, hp, ⟨N, h1, h2, h3⟩, e => by
    cases e
    refine ⟨M, rfl, hp, t1, t2, fun q z => ?_, fun z => by cases z⟩
    cases z
    refine ⟨h2.lt, ?_, h2.till⟩
    rw [h1]
    have := h2.more
    show (M : Int) < N
    omega
  | x :: l, t, M, i + 1, r, t1, t2, hp, ⟨N, h1, h2, h3⟩, e => by
    have hx : x = (x.1, (N : Int)) := Prod.ext rfl h1
    have e' : ((x.1, (N : Int)) :: l)[i]? = some r := by rw [← hx]; exact e
    have := PO.at_ l x.1 N i r (by have := h2.lt; omega) h2.hi h2.now h3 e'
    rw [← hx] at this
    exact this
/-- the last row that begins in time -/
theorem PO.last {ns : List Note} {u : Int} (hu : u ≤ 9999) : ∀ (l : List (Int × Int)) (t : Int) (M : Nat), t ≤ u → Peak ns t M → PO ns t M l → ∃ (q : Int × Int) (N : Nat), (((t, (M : Int)) :: l).filter fun r => decide (r.1 ≤ u)).getLast? = some q ∧ q.2 = N ∧ Peak ns u N
  | [], t, M, htu, hp, h => by
    refine ⟨(t, M), M, ?_, rfl, hp.mid h htu hu⟩
    rw [List.filter_cons_of_pos (by exact decide_eq_true htu)]
    rfl
  | x :: l, t, M, htu, hp, ⟨N, h1, h2, h3⟩ => by
    have hx : x = (x.1, (N : Int)) := Prod.ext rfl h1
    by_cases hxu : x.1 ≤ u
    · obtain ⟨q, K, g1, g2, g3⟩ := PO.last hu l x.1 N hxu h2.now h3
      refine ⟨q, K, ?_, g2, g3⟩
      rw [← hx] at g1
      rw [List.filter_cons_of_pos (by exact decide_eq_true htu), List.getLast?_cons, g1]
      rfl
    · refine ⟨(t, M), M, ?_, rfl, hp.mid h2.till htu (by omega)⟩
      have none : ((x :: l).filter fun r => decide (r.1 ≤ u)) = [] := by
        rw [List.filter_eq_nil_iff]
        have later : ∀ (l : List (Int × Int)) (t : Int) (M : Nat), PO ns t M l → ∀ r ∈ l, t < r.1 := by
          intro l
          induction l with
          | nil => intro _ _ _ r hr; simp at hr
          | cons y l ih =>
            intro t M ⟨K, _, k2, k3⟩ r hr
            rcases List.mem_cons.mp hr with rfl | hr
            · exact k2.lt
            · have := ih _ _ k3 r hr
              have := k2.lt
              omega
        intro r hr hd
        have := of_decide_eq_true hd
        rcases List.mem_cons.mp hr with rfl | hr
        · omega
        · have := later l x.1 N h3 r hr
          omega
      rw [List.filter_cons_of_pos (by exact decide_eq_true htu), none]
      rfl
/-- the step of profile: the least tuning time that needs more -/
theorem prof_step {ns : List Note} {R : Nat → List (Int × Int)} {L : Nat} {u : Int} (hl : ns.length ≤ 60) (ok : ∀ n ∈ ns, n.ok) (hR : ∀ j, j < ns.length → NR ns j (R j)) (h1 : 1 ≤ u) (hu : u ≤ 9999) (hp : Peak ns u L) {g : Int} {j : Nat} {n : Note} (hj : ns[j]? = some n) (hd : L + 1 ≤ (R j).length + 1)
    (hM : IsMax (n.s :: ((R j).take L).map (·.1)) (g + n.e))
    (hmin : ∀ (j' : Nat) (n' : Note) (g' : Int), j' < ns.length → ns[j']? = some n' → L + 1 ≤ (R j').length + 1 → IsMax (n'.s :: ((R j').take L).map (·.1)) (g' + n'.e) → g ≤ g') :
    (g + 1 > 9999 → Peak ns 9999 L) ∧ (¬ g + 1 > 9999 → 1 ≤ g + 1 ∧ ∀ N, Peak ns (g + 1) N → Nxt ns u L (g + 1) N) := by
  have hjl := (List.getElem?_eq_some_iff.mp hj).1
  have low : ∀ t : Int, t ≤ g → ∀ m, cnt ns t m ≤ L := fun t ht m => by
    refine Classical.byContradiction fun hc => ?_
    obtain ⟨j', n', g', a1, a2, a3, a4⟩ := busy_gap (d := L) hl hR (busyL_is ok t m) (by unfold cnt at hc; omega)
    have := hmin j' n' g' (List.getElem?_eq_some_iff.mp a1).1 a1 (by omega) a3
    omega
  refine ⟨fun h => hp.of hu (low 9999 (by omega)), fun h => ?_⟩
  obtain ⟨m, hm, em, hc⟩ := gap_busy (t := g + 1) ok (hR j hjl) hj (by omega) hM (by omega)
  have hlt : u < g + 1 := by
    refine Classical.byContradiction fun z => ?_
    have h1 := cnt_mono (ns := ns) (t := g + 1) (t' := u) (m := m.s) (by omega)
    have h2 := hp.le m.s
    omega
  refine ⟨by omega, fun N hN => ⟨hlt, by omega, ?_, hN, ?_⟩⟩
  · have := hN.le m.s
    omega
  · rw [show g + 1 - 1 = g by omega]
    exact hp.of (by omega) (low g (Int.le_refl _))
theorem prof_end {ns : List Note} {L : Nat} {u : Int} {ps : List Int} (ok : ∀ n ∈ ns, n.ok) (hu : u ≤ 9999) (hp : Peak ns u L) (hps : IsPitches ns ps) (h : ps.length ≤ L) : Peak ns 9999 L := by
  refine hp.of hu fun m => Nat.le_trans ?_ h
  unfold cnt
  refine nodup_sub ?_ fun x hx => (hps.mem x).mpr ?_
  · exact (busyL_is ok 9999 m).sd.imp fun {a b} h => by omega
  · obtain ⟨n, hn, e, _⟩ := ((busyL_is ok 9999 m).mem x).mp hx
    exact ⟨n, hn, e⟩
end Kt
namespace Kt
open PySem PySem.Spec PyProof.Rows L2
section
variable {K : PySem.W.Frag} {H : Hp} {Q : VK} {σ : L2.St} {D : Ends}
theorem w_while {c : TT} {tb : TS} (q : ∃ W : Nat → L2.St → Hp → Prop, (∃ m, W m σ H) ∧ ∀ m σ H, W m σ H →
  c σ H fun b H1 => if b = true then ∃ N : L2.St → Hp → Prop, (∀ σ' H', N σ' H' → ∃ m', m' < m ∧ W m' σ' H') ∧ tb { D with nx := N, ct := N, bk := D.nx } σ H1 else D.nx σ H1) : tWhile c tb D σ H := q
theorem w_neB {a b : Bool} (q : Q (.bl (a != b)) H) : rNe (.bl a) (.bl b) H Q := ⟨rfl, by
  have e : (!decide (V.bl a = V.bl b)) = (a != b) := by cases a <;> cases b <;> rfl
  first
    | (rw [e]; exact q)
    | exact e ▸ q⟩
theorem w_last {p : Addr} {xs : List V} {v : V} (h : H p = some (.lst xs)) (e : xs.getLast? = some v) (q : Q v H) : rIxL K (.ref p) (.int (-1)) H Q := by
  refine ⟨p, xs, -1, v, rfl, rfl, SqL.of h, ?_, q⟩
  have hl : 0 < xs.length := by
    cases xs with
    | nil => cases e
    | cons a r => simp
  unfold atI ixN
  rw [if_neg (by omega), if_pos (by omega)]
  show xs[_]? = _
  rw [← e, List.getLast?_eq_getElem?]
  congr 1
  omega
/-- a list of pairs that is compared with [] -/
theorem w_eqRows2 {α : Type} {f : α → List Int} {a b : Addr} {ks : List (Addr × α)} (h : TL f H a ks) (hb : H b = some (.lst [])) (q : Q (.bl ks.isEmpty) H) : rEqD K (.ref a) (.ref b) H Q :=
  ⟨_, .list [], Dp.rows h, .lst (SqL.of hb) .nil, FD.dTsS _ _, shaped_nil, by
    rw [eqv_nil_rows]
    have e : (vals ks).isEmpty = ks.isEmpty := by cases ks <;> rfl
    rw [e]
    exact q⟩
theorem w_neInts {a b : Addr} {ns : List Int} (h : H a = some (.lst (ns.map V.int))) (hb : H b = some (.lst [])) (q : Q (.bl (!ns.isEmpty)) H) : rNeD K (.ref a) (.ref b) H Q :=
  ⟨dL ns, .list [], Dp.lints h, .lst (SqL.of hb) .nil, FD.dLS ns, shaped_nil, by
    have e : PyData.eqv (dL ns) (.list []) = ns.isEmpty := by
      unfold dL
      rw [eqv_nil]
      cases ns <;> rfl
    rw [e]
    exact q⟩
end
end Kt
namespace Kt
open PySem PySem.Spec PyProof.Rows L2
theorem kit_list_list {K : PySem.W.Frag} : PySem.W.kitOne K (.type "list") (.type "list") = some true := kit_ty (by decide +kernel)
/-- what a row of profile says -/
structure RowOk (ns : List Note) (rs : List (Int × Int)) (i : Nat) (r : Int × Int) : Prop where
  num : ∃ N : Nat, r.2 = N ∧ Peak ns r.1 N ∧ (∀ q, rs[i + 1]? = some q → r.1 < q.1 ∧ r.2 < q.2 ∧ Peak ns (q.1 - 1) N) ∧ (rs[i + 1]? = none → Peak ns 9999 N)
  lo : 1 ≤ r.1
  hi : r.1 ≤ 9999
  first : i = 0 → r.1 = 1
theorem ProfOk.row {ns : List Note} {rs : List (Int × Int)} (h : ProfOk ns rs) {i : Nat} {r : Int × Int} (e : rs[i]? = some r) : RowOk ns rs i r := by
  rcases h with ⟨_, rfl⟩ | ⟨_, M, l, rfl, h2, h3⟩
  · simp at e
  · obtain ⟨N, a1, a2, a3, a4, a5, a6⟩ := PO.at_ l 1 M i r (by omega) (by omega) h2 h3 e
    refine ⟨⟨N, a1, a2, a5, a6⟩, a3, a4, fun h => ?_⟩
    subst h
    cases e
    rfl
theorem ProfOk.empty {ns : List Note} {rs : List (Int × Int)} (h : ProfOk ns rs) : rs.isEmpty = ns.isEmpty := by
  rcases h with ⟨rfl, rfl⟩ | ⟨h1, M, l, rfl, _⟩
  · rfl
  · cases ns with
    | nil => exact absurd rfl h1
    | cons a r => rfl
end Kt
namespace Kt
open PySem PySem.Spec PyProof.Rows L2
/-- cut at a statement's end: what holds there -/
theorem w_cut {t1 t2 : TS} {D : Ends} {σ : L2.St} {H : Hp} (P : L2.St → Hp → Prop) (h1 : ∀ N : L2.St → Hp → Prop, (∀ σ' H', P σ' H' → N σ' H') → t1 { D with nx := N } σ H) (h2 : ∀ σ' H', P σ' H' → t2 D σ' H') : tSeq t1 t2 D σ H := h1 (t2 D) h2
theorem fm_if {α : Type} (c : α → Prop) [DecidablePred c] (g : α → V) (l : List α) : l.filterMap (fun k => if c k then some (g k) else none) = (l.filter fun k => decide (c k)).map g := by
  induction l with
  | nil => rfl
  | cons k r ih =>
    by_cases h : c k
    · rw [List.filterMap_cons_some (b := g k) (by rw [if_pos h]), List.filter_cons_of_pos (by exact decide_eq_true h), ih]
      rfl
    · rw [List.filterMap_cons_none (by rw [if_neg h]), List.filter_cons_of_neg (by rw [decide_eq_false h]; decide), ih]
theorem peak_of {ns : List Note} {t : Int} {M : Nat} (h1 : ∀ n ∈ ns, cnt ns t n.s ≤ M) (h2 : ∃ n ∈ ns, cnt ns t n.s = M) : Peak ns t M := by
  obtain ⟨n, hn, e⟩ := h2
  refine ⟨fun m => ?_, n.s, e⟩
  rcases cnt_start ns t m with h | ⟨k, hk, h⟩
  · omega
  · exact Nat.le_trans h (h1 k hk)
theorem peak_nil {t : Int} {M : Nat} (h : Peak [] t M) : M = 0 := by
  obtain ⟨m, hm⟩ := h.at_
  have := cnt_zero (ns := []) (t := t) (m := m) (fun n hn => absurd hn (by simp))
  omega
/-- what the last of the rows in time says -/
theorem ProfOk.last {ns : List Note} {rs : List (Int × Int)} {u : Int} {M : Nat} (h : ProfOk ns rs) (h1 : 1 ≤ u) (h2 : u ≤ 9999) (hM : Peak ns u M) :
    (rs = [] ∧ M = 0) ∨ ∃ q, (rs.filter fun r => decide (r.1 ≤ u)).getLast? = some q ∧ q.2 = M := by
  rcases h with ⟨rfl, rfl⟩ | ⟨_, M0, r, rfl, a1, a2⟩
  · exact .inl ⟨rfl, peak_nil hM⟩
  · obtain ⟨q, N, b1, b2, b3⟩ := PO.last h2 r 1 M0 h1 a1 a2
    exact .inr ⟨q, b1, by rw [b2, b3.uniq hM]⟩
/-- the two notes that are far from all -/
theorem GoodL.two {ns : List Note} (g : GoodL ns) (hp : ∀ n ∈ ns, n.p ≤ 103) {r : Int} (r0 : 0 ≤ r) (r1 : r < 2) : GoodL (ns ++ [⟨0, 0, 118⟩, ⟨9998 + r, 9999, 119⟩]) := by
  refine ⟨fun n hn => ?_, List.pairwise_append.mpr ⟨g.apart, ?_, fun a ha b hb e => ?_⟩⟩
  · rcases List.mem_append.mp hn with hn | hn
    · exact g.ok n hn
    · simp only [List.mem_cons, List.not_mem_nil, or_false] at hn
      rcases hn with rfl | rfl
      · decide
      · exact ⟨by show 0 ≤ 9998 + r; omega, by show 9998 + r ≤ 9999; omega, Int.le_refl _, by show (0 : Int) ≤ 119; omega, by show (119 : Int) ≤ 119; omega⟩
  · refine List.pairwise_cons.mpr ⟨fun b hb e => ?_, List.pairwise_singleton _ _⟩
    rw [List.mem_singleton.mp hb] at e
    exact absurd e (by show ¬ (118 : Int) = 119; omega)
  · have := hp a ha
    simp only [List.mem_cons, List.not_mem_nil, or_false] at hb
    rcases hb with rfl | rfl
    · exact absurd e (by show ¬ a.p = 118; omega)
    · exact absurd e (by show ¬ a.p = 119; omega)
def f33a : List Note := [⟨0, 0, 7⟩, ⟨9998, 9998, 9⟩]
def f33b : List Note := [⟨0, 0, 7⟩, ⟨9998, 9998, 9⟩, ⟨9999, 9999, 11⟩]
def f33c : List Note := [⟨0, 0, 7⟩, ⟨9999, 9999, 11⟩]
theorem p33a : ProfOk f33a [(1, 1), (9999, 2)] := .inr ⟨by decide, 1, [(9999, 2)], rfl, peak_of (by decide +kernel) (by decide +kernel), 2, rfl, ⟨by decide, by decide, by decide, peak_of (by decide +kernel) (by decide +kernel), peak_of (by decide +kernel) (by decide +kernel)⟩, peak_of (by decide +kernel) (by decide +kernel)⟩
theorem p33b : ProfOk f33b [(1, 1), (2, 2)] := .inr ⟨by decide, 1, [(2, 2)], rfl, peak_of (by decide +kernel) (by decide +kernel), 2, rfl, ⟨by decide, by decide, by decide, peak_of (by decide +kernel) (by decide +kernel), peak_of (by decide +kernel) (by decide +kernel)⟩, peak_of (by decide +kernel) (by decide +kernel)⟩
theorem p33c : ProfOk f33c [(1, 1)] := .inr ⟨by decide, 1, [], rfl, peak_of (by decide +kernel) (by decide +kernel), peak_of (by decide +kernel) (by decide +kernel)⟩
theorem g33a : GoodL f33a := goodL_of (by decide +kernel) (by decide +kernel)
theorem g33b : GoodL f33b := goodL_of (by decide +kernel) (by decide +kernel)
theorem g33c : GoodL f33c := goodL_of (by decide +kernel) (by decide +kernel)
theorem o33a : f33a.Pairwise fun x y => x.key ≤ y.key := by decide +kernel
theorem o33b : f33b.Pairwise fun x y => x.key ≤ y.key := by decide +kernel
theorem o33c : f33c.Pairwise fun x y => x.key ≤ y.key := by decide +kernel
end Kt
namespace Kt
open PySem PySem.Spec PyProof.Rows L2
/-! ## the plain law of pinch -/
theorem perm_le_int {l m : List Int} (p : l.Perm m) (nd : m.Nodup) (s : l.Pairwise (· ≤ ·)) : SD l := sd_of p nd s
/-- notes of one pitch that begin at once are one -/
theorem same_note {ns : List Note} (g : GoodL ns) {i j : Nat} {m k : Note} (hi : ns[i]? = some m) (hj : ns[j]? = some k) (hp : m.p = k.p) (hs : m.s = k.s) : i = j := by
  have om := g.ok m (List.mem_of_getElem? hi)
  have ok := g.ok k (List.mem_of_getElem? hj)
  obtain ⟨_, a, _⟩ := om
  obtain ⟨_, b, _⟩ := ok
  rcases Nat.lt_trichotomy i j with h | h | h
  · rcases pairwise_get g.apart h hi hj hp with q | q <;> omega
  · exact h
  · rcases pairwise_get g.apart h hj hi hp.symm with q | q <;> omega
theorem NR.sub {ns : List Note} {j : Nat} {rs qs : List (Int × Int)} (g : GoodL ns) (h : NR ns j rs) (k : NR ns j qs) : ∀ r ∈ rs, r ∈ qs := by
  intro r hr
  obtain ⟨i, m, n, e1, e2, e3, e4, e5, e6⟩ := h.sound r hr
  obtain ⟨q, hq, i', m', f1, f2, f3, f4⟩ := k.full i m n e2 e3 e5 e6
  obtain ⟨i2, m2, n2, g1, g2, g3, g4, g5, g6⟩ := k.sound q hq
  rw [e3] at g3
  cases g3
  have ei : i2 = i' := by omega
  subst ei
  rw [f2] at g2
  cases g2
  obtain ⟨r2, hr2, i3, m3, h1, h2, h3, h4⟩ := h.full i2 m' n f2 e3 g5 g6
  -- r2 and r are of one pitch
  have er : r2 = r := by
    refine Classical.byContradiction fun ne => ?_
    obtain ⟨a, ha, ea⟩ := List.getElem_of_mem hr
    obtain ⟨b, hb, eb⟩ := List.getElem_of_mem hr2
    have hap := List.pairwise_iff_getElem.mp h.apart
    rcases Nat.lt_trichotomy a b with hab | hab | hab
    · have := hap a b ha hb hab i i3 m m3 (by rw [ea]; exact e1) (by rw [eb]; exact h1) e2 h2
      exact this (by rw [h3, f3])
    · subst hab
      rw [ea] at eb
      exact ne eb.symm
    · have := hap b a hb ha hab i3 i m3 m (by rw [eb]; exact h1) (by rw [ea]; exact e1) h2 e2
      exact this (by rw [h3, f3])
  rw [er] at h4
  have hs : m.s = m'.s := by omega
  have := same_note g e2 f2 f3.symm hs
  have : r = q := Prod.ext (by omega) (by omega)
  rw [this]
  exact hq
theorem NR.nodup {ns : List Note} {j : Nat} {rs : List (Int × Int)} (h : NR ns j rs) : rs.Nodup := by
  refine h.apart.imp_of_mem fun {x y} hx hy z e => ?_
  obtain ⟨i, m, n, e1, e2, _⟩ := h.sound x hx
  rw [e] at e1
  exact z i i m m (by rw [e]; exact e1) e1 e2 e2 rfl
theorem pk_ext : ∀ {l m : List (Int × Int)}, l.Pairwise (fun x y => pkey x < pkey y) → m.Pairwise (fun x y => pkey x < pkey y) → (∀ x, x ∈ l ↔ x ∈ m) → l = m
  | [], [], _, _, _ => rfl
  | [], b :: m, _, _, h => absurd ((h b).mpr List.mem_cons_self) (by simp)
  | a :: l, [], _, _, h => absurd ((h a).mp List.mem_cons_self) (by simp)
  | a :: l, b :: m, hl, hm, h => by
    have hl' := List.pairwise_cons.mp hl
    have hm' := List.pairwise_cons.mp hm
    have e : a = b := by
      rcases List.mem_cons.mp ((h a).mp List.mem_cons_self) with e | e
      · exact e
      · rcases List.mem_cons.mp ((h b).mpr List.mem_cons_self) with e' | e'
        · exact e'.symm
        · have := hl'.1 b e'
          have := hm'.1 a e
          omega
    subst e
    rw [pk_ext hl'.2 hm'.2 fun x => ?_]
    constructor
    · intro hx
      have hlt := hl'.1 x hx
      rcases List.mem_cons.mp ((h x).mp (List.mem_cons_of_mem _ hx)) with e | e
      · rw [e] at hlt; omega
      · exact e
    · intro hx
      have hlt := hm'.1 x hx
      rcases List.mem_cons.mp ((h x).mpr (List.mem_cons_of_mem _ hx)) with e | e
      · rw [e] at hlt; omega
      · exact e
theorem NR.strict {ns : List Note} {j : Nat} {rs : List (Int × Int)} (hl : ns.length ≤ 60) (ok : ∀ n ∈ ns, n.ok) (h : NR ns j rs) : rs.Pairwise fun x y => pkey x < pkey y := by
  have nd := h.nodup
  refine (nd.and h.ord).imp_of_mem fun {x y} hx hy z => ?_
  have z2 := z.2
  rcases Int.lt_or_eq_of_le z2 with q | q
  · exact q
  · exfalso
    obtain ⟨i, m, n, e1, e2, e3, e4, _⟩ := h.sound x hx
    obtain ⟨i', m', n', f1, f2, f3, f4, _⟩ := h.sound y hy
    have l1 := (List.getElem?_eq_some_iff.mp e2).1
    have l2 := (List.getElem?_eq_some_iff.mp f2).1
    unfold pkey at q
    exact z.1 (Prod.ext (by omega) (by omega))
theorem NR.uniq {ns : List Note} {j : Nat} {rs qs : List (Int × Int)} (hl : ns.length ≤ 60) (g : GoodL ns) (h : NR ns j rs) (k : NR ns j qs) : rs = qs :=
  pk_ext (h.strict hl g.ok) (k.strict hl g.ok) fun x => ⟨NR.sub g h k x, NR.sub g k h x⟩
/-- what pinch chooses -/
structure Pin (ns : List Note) (d : Nat) (idx : List Int) (g : Int) (R : Nat → List (Int × Int)) (j : Nat) (n : Note) : Prop where
  fam : ∀ i, i < ns.length → NR ns i (R i)
  at_ : ns[j]? = some n
  many : d + 1 ≤ (R j).length + 1
  perm : idx.Perm ((j : Int) :: ((R j).take d).map (·.2))
  ord : idx.Pairwise (· ≤ ·)
  gap : IsMax (n.s :: ((R j).take d).map (·.1)) (g + n.e)
  min : ∀ (j' : Nat) (n' : Note) (g' : Int), j' < ns.length → ns[j']? = some n' → d + 1 ≤ (R j').length + 1 → IsMax (n'.s :: ((R j').take d).map (·.1)) (g' + n'.e) → g ≤ g'
  fst : ∀ (j' : Nat) (n' : Note) (g' : Int), j' < j → ns[j']? = some n' → d + 1 ≤ (R j').length + 1 → IsMax (n'.s :: ((R j').take d).map (·.1)) (g' + n'.e) → g < g'
theorem IsMax.uniq {l : List Int} {a b : Int} (h : IsMax l a) (g : IsMax l b) : a = b := by
  have := h.2 b g.1
  have := g.2 a h.1
  omega
theorem Pin.nodup {ns : List Note} {d : Nat} {idx : List Int} {g : Int} {R : Nat → List (Int × Int)} {j : Nat} {n : Note} (h : Pin ns d idx g R j n) : ((j : Int) :: ((R j).take d).map (·.2)).Nodup := by
  have nr := h.fam j (List.getElem?_eq_some_iff.mp h.at_).1
  refine List.nodup_cons.mpr ⟨fun hm => ?_, ?_⟩
  · obtain ⟨r, hr, e⟩ := List.mem_map.mp hm
    obtain ⟨i, m, n', e1, e2, e3, _, _, e4⟩ := nr.sound r (List.mem_of_mem_take hr)
    have : i = j := by omega
    subst this
    rw [e3] at e2
    cases e2
    exact e4 rfl
  · unfold List.Nodup
    rw [List.pairwise_map]
    have h1 : ((R j).take d).Pairwise fun x y => ∀ (i j : Nat) (m n : Note), x.2 = (i : Int) → y.2 = (j : Int) → ns[i]? = some m → ns[j]? = some n → m.p ≠ n.p := nr.apart.sublist (List.take_sublist _ _)
    refine h1.imp_of_mem fun {x y} hx hy z e => ?_
    obtain ⟨i, m, n', e1, e2, _⟩ := nr.sound x (List.mem_of_mem_take hx)
    exact z i i m m e1 (by rw [← e]; exact e1) e2 e2 rfl
theorem Pin.sd {ns : List Note} {d : Nat} {idx : List Int} {g : Int} {R : Nat → List (Int × Int)} {j : Nat} {n : Note} (h : Pin ns d idx g R j n) : SD idx := sd_of h.perm h.nodup h.ord
theorem Pin.uniq {ns : List Note} {d : Nat} {idx idx' : List Int} {g g' : Int} {R R' : Nat → List (Int × Int)} {j j' : Nat} {n n' : Note} (hl : ns.length ≤ 60) (gd : GoodL ns) (h : Pin ns d idx g R j n) (k : Pin ns d idx' g' R' j' n') : idx = idx' ∧ g = g' := by
  have hR : ∀ i, i < ns.length → R i = R' i := fun i hi => NR.uniq hl gd (h.fam i hi) (k.fam i hi)
  have hj := (List.getElem?_eq_some_iff.mp h.at_).1
  have hj' := (List.getElem?_eq_some_iff.mp k.at_).1
  have e : j = j' := by
    rcases Nat.lt_trichotomy j j' with q | q | q
    · have a := k.fst j n g q h.at_ (by rw [← hR j hj]; exact h.many) (by rw [← hR j hj]; exact h.gap)
      have b := h.min j' n' g' hj' k.at_ (by rw [hR j' hj']; exact k.many) (by rw [hR j' hj']; exact k.gap)
      omega
    · exact q
    · have a := h.fst j' n' g' q k.at_ (by rw [hR j' hj']; exact k.many) (by rw [hR j' hj']; exact k.gap)
      have b := k.min j n g hj h.at_ (by rw [← hR j hj]; exact h.many) (by rw [← hR j hj]; exact h.gap)
      omega
  subst e
  have en : n = n' := Option.some.inj (h.at_.symm.trans k.at_)
  subst en
  refine ⟨sd_ext h.sd k.sd fun x => ?_, ?_⟩
  · rw [h.perm.mem_iff, k.perm.mem_iff, hR j hj]
  · have a := h.gap
    rw [hR j hj] at a
    have := a.uniq k.gap
    omega
/-- the gap by what is busy -/
def GapSem (ns : List Note) (d : Nat) (g : Int) : Prop := ∀ t : Int, (∃ m, d + 1 ≤ cnt ns t m) ↔ g ≤ t - 1
theorem GapSem.uniq {ns : List Note} {d : Nat} {g k : Int} (h : GapSem ns d g) (h' : GapSem ns d k) : g = k := by
  have a := (h (k + 1)).mp ((h' (k + 1)).mpr (by omega))
  have b := (h' (g + 1)).mp ((h (g + 1)).mpr (by omega))
  omega
theorem gap_sem {ns : List Note} {R : Nat → List (Int × Int)} {d : Nat} (hl : ns.length ≤ 60) (ok : ∀ n ∈ ns, n.ok) (hR : ∀ j, j < ns.length → NR ns j (R j)) {g : Int} {j : Nat} {n : Note} (hj : ns[j]? = some n) (hd : d + 1 ≤ (R j).length + 1)
    (hM : IsMax (n.s :: ((R j).take d).map (·.1)) (g + n.e))
    (hmin : ∀ (j' : Nat) (n' : Note) (g' : Int), j' < ns.length → ns[j']? = some n' → d + 1 ≤ (R j').length + 1 → IsMax (n'.s :: ((R j').take d).map (·.1)) (g' + n'.e) → g ≤ g') : GapSem ns d g := fun t => by
  constructor
  · rintro ⟨m, hm⟩
    obtain ⟨j', n', g', a1, a2, a3, a4⟩ := busy_gap (d := d) hl hR (busyL_is ok t m) hm
    have := hmin j' n' g' (List.getElem?_eq_some_iff.mp a1).1 a1 (by omega) a3
    omega
  · intro hg
    obtain ⟨m, hm, em, hc⟩ := gap_busy ok (hR j (List.getElem?_eq_some_iff.mp hj).1) hj (by omega) hM hg
    exact ⟨m.s, hc⟩
/-- the notes chosen -/
def seln {α : Type} (ns : List α) (idx : List Int) : List α := idx.filterMap fun i => ns[i.toNat]?
theorem Pin.sel {ns : List Note} {d : Nat} {idx : List Int} {g : Int} {R : Nat → List (Int × Int)} {j : Nat} {n : Note} (h : Pin ns d idx g R j n) :
    ∃ ms : List Note, (seln ns idx).Perm (n :: ms) ∧ ms.map (·.s) = ((R j).take d).map (·.1) ∧ ms.map (·.p) = ((R j).take d).map (rowP ns) ∧ ∀ m ∈ ms, n.e ≤ m.e := by
  have nr := h.fam j (List.getElem?_eq_some_iff.mp h.at_).1
  have each : ∀ rs : List (Int × Int), (∀ r ∈ rs, r ∈ R j) → ∃ ms : List Note, (rs.map (·.2)).filterMap (fun i : Int => ns[i.toNat]?) = ms ∧ ms.map (·.s) = rs.map (·.1) ∧ ms.map (·.p) = rs.map (rowP ns) ∧ ∀ m ∈ ms, n.e ≤ m.e := by
    intro rs
    induction rs with
    | nil => intro _; exact ⟨[], rfl, rfl, rfl, fun m hm => absurd hm (by simp)⟩
    | cons r rs ih =>
      intro hm
      obtain ⟨ms, e1, e2, e3, e4⟩ := ih fun q hq => hm q (List.mem_cons_of_mem _ hq)
      obtain ⟨i, m, n', f1, f2, f3, f4, f5, f6⟩ := nr.sound r (hm r List.mem_cons_self)
      rw [h.at_] at f3
      cases f3
      refine ⟨m :: ms, ?_, ?_, ?_, ?_⟩
      · rw [List.map_cons, List.filterMap_cons_some (b := m) (by rw [f1, Int.toNat_natCast]; exact f2), e1]
      · rw [List.map_cons, List.map_cons, e2, f4]
      · rw [List.map_cons, List.map_cons, e3, rowP_eq f1 f2]
      · intro k hk
        rcases List.mem_cons.mp hk with rfl | hk
        · exact f5
        · exact e4 k hk
  obtain ⟨ms, e1, e2, e3, e4⟩ := each ((R j).take d) fun r hr => List.mem_of_mem_take hr
  refine ⟨ms, ?_, e2, e3, e4⟩
  have p := h.perm.filterMap (fun i : Int => ns[i.toNat]?)
  rw [List.filterMap_cons_some (b := n) (by rw [Int.toNat_natCast]; exact h.at_), e1] at p
  exact p
theorem Pin.bound {ns : List Note} {d : Nat} {idx : List Int} {g : Int} {R : Nat → List (Int × Int)} {j : Nat} {n : Note} (h : Pin ns d idx g R j n) : idx.length = d + 1 ∧ ∀ i ∈ idx, 0 ≤ i ∧ i < (ns.length : Int) := by
  have hj := (List.getElem?_eq_some_iff.mp h.at_).1
  have nr := h.fam j hj
  refine ⟨?_, fun i hi => ?_⟩
  · rw [h.perm.length_eq, List.length_cons, List.length_map, List.length_take, Nat.min_eq_left (by have := h.many; omega)]
  · rcases List.mem_cons.mp (h.perm.mem_iff.mp hi) with rfl | hi
    · omega
    · obtain ⟨r, hr, rfl⟩ := List.mem_map.mp hi
      obtain ⟨k, m, n', f1, f2, _⟩ := nr.sound r (List.mem_of_mem_take hr)
      have := (List.getElem?_eq_some_iff.mp f2).1
      omega
/-- the chosen notes: so many pitches, the gap between the last start and the first end -/
theorem Pin.right {ns : List Note} {d : Nat} {idx : List Int} {g : Int} {R : Nat → List (Int × Int)} {j : Nat} {n : Note} (h : Pin ns d idx g R j n) :
    (∀ ps, IsPitches (seln ns idx) ps → ps.length = d + 1) ∧ (∀ m, m ∈ (seln ns idx).map (·.s) → (∀ y ∈ (seln ns idx).map (·.s), y ≤ m) → m = g + n.e) ∧ ∀ m, m ∈ (seln ns idx).map (·.e) → (∀ y ∈ (seln ns idx).map (·.e), m ≤ y) → m = n.e := by
  obtain ⟨ms, p, e1, e2, e3⟩ := h.sel
  have hj := (List.getElem?_eq_some_iff.mp h.at_).1
  obtain ⟨nd, len⟩ := gap_pitches (d := d) (h.fam j hj) h.at_ (by have := h.many; omega)
  have ps := p.map (·.s)
  have pe := p.map (·.e)
  have pp := p.map (·.p)
  rw [List.map_cons, e1] at ps
  rw [List.map_cons, e2] at pp
  refine ⟨fun qs hq => ?_, fun m h1 h2 => ?_, fun m h1 h2 => ?_⟩
  · rw [← len]
    refine Nat.le_antisymm (nodup_sub (hq.sd.imp fun {a b} z => by omega) fun x hx => ?_) (nodup_sub nd fun x hx => ?_)
    · obtain ⟨k, hk, e⟩ := (hq.mem x).mp hx
      exact pp.mem_iff.mp (List.mem_map.mpr ⟨k, hk, e⟩)
    · obtain ⟨k, hk, e⟩ := List.mem_map.mp (pp.mem_iff.mpr hx)
      exact (hq.mem x).mpr ⟨k, hk, e⟩
  · exact IsMax.uniq ⟨ps.mem_iff.mp h1, fun y hy => h2 y (ps.mem_iff.mpr hy)⟩ h.gap
  · rw [List.map_cons] at pe
    have a := h2 n.e (pe.mem_iff.mpr List.mem_cons_self)
    rcases List.mem_cons.mp (pe.mem_iff.mp h1) with e | hm
    · exact e
    · obtain ⟨k, hk, e⟩ := List.mem_map.mp hm
      have := e3 k hk
      omega
/-! ### the least gap by the law -/
def minL : List Int → Int
  | [] => 0
  | [a] => a
  | a :: b :: r => if a < minL (b :: r) then a else minL (b :: r)
theorem minL_spec : ∀ l : List Int, l ≠ [] → minL l ∈ l ∧ ∀ y ∈ l, minL l ≤ y
  | [], h => absurd rfl h
  | [a], _ => ⟨List.mem_cons_self, fun y hy => by rw [List.mem_singleton.mp hy]; exact Int.le_refl _⟩
  | a :: b :: r, _ => by
    obtain ⟨h1, h2⟩ := minL_spec (b :: r) (by simp)
    show (if a < minL (b :: r) then a else minL (b :: r)) ∈ _ ∧ ∀ y ∈ a :: b :: r, (if a < minL (b :: r) then a else minL (b :: r)) ≤ y
    by_cases h : a < minL (b :: r)
    · rw [if_pos h]
      refine ⟨List.mem_cons_self, fun y hy => ?_⟩
      rcases List.mem_cons.mp hy with rfl | hy
      · exact Int.le_refl _
      · have := h2 y hy
        omega
    · rw [if_neg h]
      refine ⟨List.mem_cons_of_mem _ h1, fun y hy => ?_⟩
      rcases List.mem_cons.mp hy with rfl | hy
      · omega
      · exact h2 y hy
theorem minL_uniq {l : List Int} {m : Int} (h1 : m ∈ l) (h2 : ∀ y ∈ l, m ≤ y) : m = minL l := by
  obtain ⟨a, b⟩ := minL_spec l (fun z => by rw [z] at h1; simp at h1)
  have := h2 _ a
  have := b _ h1
  omega
def cand (ns : List Note) (n : Note) (q : Int) : List Int := (ns.filter fun k => decide (k.p = q ∧ k.e ≥ n.e)).map (·.s)
def entry (ns : List Note) (n : Note) (q : Int) : Option Int := if q ≠ n.p ∧ cand ns n q ≠ [] then some (if minL (cand ns n q) > n.s then minL (cand ns n q) else n.s) else none
def stL (ns : List Note) (ps : List Int) (n : Note) : List Int := n.s :: ps.filterMap (entry ns n)
theorem filter_le1 (f : Int → Option Int) (P : Int → Prop) [DecidablePred P] (v : Int) (h : ∀ q y, f q = some y → y ≤ v → P q) : ∀ ps : List Int, ((ps.filterMap f).filter fun y => decide (y ≤ v)).length ≤ (ps.filter fun q => decide (P q)).length
  | [] => Nat.le_refl _
  | q :: r => by
    have ih := filter_le1 f P v h r
    have mono : (r.filter fun q => decide (P q)).length ≤ ((q :: r).filter fun q => decide (P q)).length := by
      by_cases hp : P q
      · rw [List.filter_cons_of_pos (by exact decide_eq_true hp), List.length_cons]; omega
      · rw [List.filter_cons_of_neg (by rw [decide_eq_false hp]; decide)]
        exact Nat.le_refl _
    cases e : f q with
    | none =>
      rw [List.filterMap_cons_none e]
      omega
    | some y =>
      rw [List.filterMap_cons_some e]
      by_cases hy : y ≤ v
      · rw [List.filter_cons_of_pos (by exact decide_eq_true hy), List.filter_cons_of_pos (by exact decide_eq_true (h q y e hy)), List.length_cons, List.length_cons]
        omega
      · rw [List.filter_cons_of_neg (by rw [decide_eq_false hy]; decide)]
        omega
theorem filter_le2 (f : Int → Option Int) (P : Int → Prop) [DecidablePred P] (v : Int) (h : ∀ q, P q → ∃ y, f q = some y ∧ y ≤ v) : ∀ ps : List Int, (ps.filter fun q => decide (P q)).length ≤ ((ps.filterMap f).filter fun y => decide (y ≤ v)).length
  | [] => Nat.le_refl _
  | q :: r => by
    have ih := filter_le2 f P v h r
    by_cases hp : P q
    · obtain ⟨y, e, hy⟩ := h q hp
      rw [List.filterMap_cons_some e, List.filter_cons_of_pos (by exact decide_eq_true hp), List.filter_cons_of_pos (by exact decide_eq_true hy), List.length_cons, List.length_cons]
      omega
    · rw [List.filter_cons_of_neg (by rw [decide_eq_false hp]; decide)]
      cases e : f q with
      | none =>
        rw [List.filterMap_cons_none e]
        exact ih
      | some y =>
        rw [List.filterMap_cons_some e]
        by_cases hy : y ≤ v
        · rw [List.filter_cons_of_pos (by exact decide_eq_true hy), List.length_cons]
          omega
        · rw [List.filter_cons_of_neg (by rw [decide_eq_false hy]; decide)]
          exact ih
theorem nth_le {st : List Int} (s : st.Pairwise (· ≤ ·)) : ∀ {d : Nat} {v : Int}, st[d]? = some v → ∀ x, v ≤ x ↔ d + 1 ≤ (st.filter fun y => decide (y ≤ x)).length := by
  induction st with
  | nil => intro d v h; simp at h
  | cons a r ih =>
    intro d v h x
    have s' := List.pairwise_cons.mp s
    by_cases hax : a ≤ x
    · rw [List.filter_cons_of_pos (by exact decide_eq_true hax), List.length_cons]
      cases d with
      | zero =>
        cases h
        exact ⟨fun _ => by omega, fun _ => hax⟩
      | succ d =>
        have := ih s'.2 (d := d) (v := v) h x
        rw [this]
        omega
    · have e : (a :: r).filter (fun y => decide (y ≤ x)) = [] := by
        rw [List.filter_eq_nil_iff]
        intro y hy
        have : ¬ y ≤ x := by
          rcases List.mem_cons.mp hy with rfl | hy
          · exact hax
          · have := s'.1 y hy
            omega
        simpa using this
      rw [e]
      have hv : a ≤ v := by
        cases d with
        | zero => cases h; exact Int.le_refl _
        | succ d => exact s'.1 v (List.mem_of_getElem? h)
      simp only [List.length_nil]
      omega
/-- the gap at a note, by the law -/
def LGap (ns : List Note) (ps : List Int) (d : Nat) (n : Note) (g : Int) : Prop := ∃ st : List Int, st.Perm (stL ns ps n) ∧ st.Pairwise (· ≤ ·) ∧ st[d]? = some (g + n.e)
theorem LGap.iff {ns : List Note} {ps : List Int} {d : Nat} {n : Note} {g : Int} (h : LGap ns ps d n g) (x : Int) : g + n.e ≤ x ↔ d + 1 ≤ ((stL ns ps n).filter fun y => decide (y ≤ x)).length := by
  obtain ⟨st, p, s, e⟩ := h
  rw [nth_le s e x, (p.filter _).length_eq]
theorem lgap_busy {ns : List Note} {ps : List Int} {d : Nat} {n : Note} {g t : Int} (ok : ∀ n ∈ ns, n.ok) (hn : n ∈ ns) (hp : IsPitches ns ps) (h : LGap ns ps d n g) (hg : g ≤ t - 1) : d + 1 ≤ cnt ns t (g + n.e) := by
  have hc := (h.iff (g + n.e)).mp (Int.le_refl _)
  obtain ⟨v, hv⟩ : ∃ v, v = g + n.e := ⟨_, rfl⟩
  rw [← hv] at hc ⊢
  let P : Int → Prop := fun q => q ≠ n.p ∧ ∃ k ∈ ns, k.p = q ∧ k.e ≥ n.e ∧ k.s ≤ v
  have inst : DecidablePred P := fun q => Classical.propDecidable _
  have h1 := filter_le1 (entry ns n) P v (fun q y e hy => by
    unfold entry at e
    by_cases c : q ≠ n.p ∧ cand ns n q ≠ []
    · rw [if_pos c] at e
      have hm := (minL_spec _ c.2).1
      obtain ⟨k, hk, ek⟩ := List.mem_map.mp hm
      obtain ⟨hk1, hk2⟩ := List.mem_filter.mp hk
      obtain ⟨hk3, hk4⟩ := of_decide_eq_true hk2
      refine ⟨c.1, k, hk1, hk3, hk4, ?_⟩
      cases e
      split at hy <;> omega
    · rw [if_neg c] at e
      cases e) ps
  have ns_le : n.s ≤ v := by
    refine Classical.byContradiction fun z => ?_
    -- nothing is as early
    have all : ∀ y ∈ stL ns ps n, n.s ≤ y := fun y hy => by
      rcases List.mem_cons.mp hy with rfl | hy
      · exact Int.le_refl _
      · obtain ⟨q, _, e⟩ := List.mem_filterMap.mp hy
        unfold entry at e
        by_cases c : q ≠ n.p ∧ cand ns n q ≠ []
        · rw [if_pos c] at e
          cases e
          split <;> omega
        · rw [if_neg c] at e
          cases e
    have e : (stL ns ps n).filter (fun y => decide (y ≤ v)) = [] := by
      rw [List.filter_eq_nil_iff]
      intro y hy
      have := all y hy
      have hh : ¬ y ≤ v := by omega
      simpa using hh
    rw [e] at hc
    simp at hc
  unfold stL at hc
  rw [List.filter_cons_of_pos (by exact decide_eq_true ns_le), List.length_cons] at hc
  have hsub : ∀ x ∈ n.p :: ps.filter (fun q => decide (P q)), x ∈ busyL ns t v := fun x hx => by
    refine ((busyL_is ok t v).mem x).mpr ?_
    rcases List.mem_cons.mp hx with rfl | hx
    · exact ⟨n, hn, rfl, ns_le, by omega⟩
    · obtain ⟨_, k, hk, e, h2, h3⟩ := of_decide_eq_true (List.mem_filter.mp hx).2
      exact ⟨k, hk, e, h3, by omega⟩
  have nd : (n.p :: ps.filter (fun q => decide (P q))).Nodup := by
    refine List.nodup_cons.mpr ⟨fun hm => (of_decide_eq_true (List.mem_filter.mp hm).2).1 rfl, ?_⟩
    exact (hp.sd.imp fun {a b} z => by omega : ps.Nodup).filter _
  have := nodup_sub nd hsub
  rw [List.length_cons] at this
  unfold cnt
  omega
theorem busy_lgap {ns : List Note} {ps : List Int} {d : Nat} {t m0 : Int} (ok : ∀ n ∈ ns, n.ok) (hp : IsPitches ns ps) (h : d + 1 ≤ cnt ns t m0) : ∃ n ∈ ns, d + 1 ≤ (stL ns ps n).length ∧ ∀ g, LGap ns ps d n g → g ≤ t - 1 := by
  have hb := busyL_is ok t m0
  have hex : ∃ n ∈ ns, n.s ≤ m0 ∧ m0 ≤ n.e + t - 1 := by
    unfold cnt at h
    cases hq : busyL ns t m0 with
    | nil => rw [hq] at h; simp at h
    | cons x r =>
      obtain ⟨n, hn, _, h1, h2⟩ := (hb.mem x).mp (by rw [hq]; exact List.mem_cons_self)
      exact ⟨n, hn, h1, h2⟩
  obtain ⟨j, n, hj, ⟨n1, n2⟩, hmin⟩ := argmin _ hex
  have hn := List.mem_of_getElem? hj
  let P : Int → Prop := fun q => q ≠ n.p ∧ Busy ns t m0 q
  have inst : DecidablePred P := fun q => Classical.propDecidable _
  have h2 := filter_le2 (entry ns n) P m0 (fun q ⟨q1, k, hk, e, k1, k2⟩ => by
    have hk' : k.s ∈ cand ns n q := List.mem_map.mpr ⟨k, List.mem_filter.mpr ⟨hk, decide_eq_true ⟨e, hmin k hk ⟨k1, k2⟩⟩⟩, rfl⟩
    have c : q ≠ n.p ∧ cand ns n q ≠ [] := ⟨q1, fun z => by rw [z] at hk'; simp at hk'⟩
    have := (minL_spec _ c.2).2 _ hk'
    refine ⟨_, by unfold entry; rw [if_pos c], ?_⟩
    split <;> omega) ps
  have h3 : cnt ns t m0 ≤ (ps.filter fun q => decide (P q)).length + 1 := by
    unfold cnt
    have := nodup_sub (l := busyL ns t m0) (m := n.p :: ps.filter fun q => decide (P q)) (hb.sd.imp fun {a b} z => by omega) fun x hx => by
      by_cases e : x = n.p
      · rw [e]; exact List.mem_cons_self
      · have hbx := (hb.mem x).mp hx
        refine List.mem_cons_of_mem _ (List.mem_filter.mpr ⟨(hp.mem x).mpr (hbx.imp fun k q => ⟨q.1, q.2.1⟩), decide_eq_true ⟨e, hbx⟩⟩)
    rwa [List.length_cons] at this
  have h4 : d + 1 ≤ ((stL ns ps n).filter fun y => decide (y ≤ m0)).length := by
    unfold stL
    rw [List.filter_cons_of_pos (by exact decide_eq_true n1), List.length_cons]
    omega
  refine ⟨n, hn, Nat.le_trans h4 (List.length_filter_le _ _), fun g hg => ?_⟩
  have := (hg.iff m0).mpr h4
  omega
theorem lgap_ex {ns : List Note} {ps : List Int} {d : Nat} {n : Note} {st : List Int} (p : st.Perm (stL ns ps n)) (s : st.Pairwise (· ≤ ·)) (h : d + 1 ≤ (stL ns ps n).length) : ∃ g, LGap ns ps d n g ∧ st[d]? = some (g + n.e) := by
  have hl : d < st.length := by rw [p.length_eq]; omega
  have e : st[d]? = some st[d] := List.getElem?_eq_getElem hl
  refine ⟨st[d] - n.e, ⟨st, p, s, ?_⟩, ?_⟩ <;> rw [Int.sub_add_cancel] <;> exact e
/-- behind the first notes: the least gap so far -/
structure LBest (ns : List Note) (ps : List Int) (d i : Nat) (b : Int) : Prop where
  le : ∀ j n g, j < i → ns[j]? = some n → LGap ns ps d n g → b ≤ g
  at_ : b = 1000000 ∨ ∃ j n, j < i ∧ ns[j]? = some n ∧ LGap ns ps d n b
theorem LBest.sem {ns : List Note} {ps : List Int} {d : Nat} {b : Int} (ok : ∀ n ∈ ns, n.ok) (hp : IsPitches ns ps) (h : LBest ns ps d ns.length b) (hd : d < ps.length) : GapSem ns d b := by
  have srt : ∀ l : List Int, ∃ st : List Int, st.Perm l ∧ st.Pairwise (· ≤ ·) := fun l => ⟨l.mergeSort (fun a b => decide (a ≤ b)), List.mergeSort_perm _ _, (List.pairwise_mergeSort (le := fun a b => decide (a ≤ b)) (fun a b c h1 h2 => decide_eq_true (Int.le_trans (of_decide_eq_true h1) (of_decide_eq_true h2))) (fun a b => by
      rcases Int.le_total a b with h | h
      · rw [decide_eq_true h]; rfl
      · rw [decide_eq_true h, Bool.or_true]) l).imp fun {a b} h => of_decide_eq_true h⟩
  have up : ∀ t, (∃ m, d + 1 ≤ cnt ns t m) → b ≤ t - 1 := by
    rintro t ⟨m, hm⟩
    obtain ⟨n, hn, h1, h2⟩ := busy_lgap ok hp hm
    obtain ⟨st, p, s⟩ := srt (stL ns ps n)
    obtain ⟨g, hg, _⟩ := lgap_ex p s h1
    obtain ⟨j, hj, e⟩ := List.getElem_of_mem hn
    have := h.le j n g hj (by rw [List.getElem?_eq_getElem hj, e]) hg
    have := h2 g hg
    omega
  refine fun t => ⟨up t, fun hb => ?_⟩
  rcases h.at_ with rfl | ⟨j, n, hj, hn, hg⟩
  · -- all pitches are busy at the last moment, with a long tuning time
    exfalso
    have := up 20000 ⟨9999, by
      unfold cnt
      refine Nat.le_trans hd (nodup_sub (hp.sd.imp fun {a b} z => by omega) fun x hx => ((busyL_is ok 20000 9999).mem x).mpr ?_)
      obtain ⟨k, hk, e⟩ := (hp.mem x).mp hx
      obtain ⟨a1, a2, a3, a4, a5⟩ := ok k hk
      exact ⟨k, hk, e, by omega, by omega⟩⟩
    omega
  · exact ⟨_, lgap_busy ok (List.mem_of_getElem? hn) hp hg hb⟩
end Kt
namespace Kt
open PySem PySem.Spec PyProof.Rows L2
theorem pit_ex {ns : List Note} (ok : ∀ n ∈ ns, n.ok) : ∃ ps, IsPitches ns ps := by
  have h := busyL_is ok 20000 9999
  refine ⟨_, h.sd, fun x => (h.mem x).trans ⟨fun ⟨n, hn, e, _⟩ => ⟨n, hn, e⟩, fun ⟨n, hn, e⟩ => ?_⟩⟩
  obtain ⟨h1, h2, h3, h4, h5⟩ := ok n hn
  exact ⟨n, hn, e, by omega, by omega⟩
theorem IsPitches.uniq {ns : List Note} {ps qs : List Int} (h : IsPitches ns ps) (g : IsPitches ns qs) : ps = qs := sd_ext h.sd g.sd fun x => (h.mem x).trans (g.mem x).symm
theorem LBest.zero {ns : List Note} {ps : List Int} {d : Nat} : LBest ns ps d 0 1000000 := ⟨fun j n g hj => absurd hj (Nat.not_lt_zero _), .inl rfl⟩
theorem LGap.uniq {ns : List Note} {ps : List Int} {d : Nat} {n : Note} {g k : Int} (h : LGap ns ps d n g) (h' : LGap ns ps d n k) : g = k := by
  have a := (h.iff (k + n.e)).mpr ((h'.iff (k + n.e)).mp (Int.le_refl _))
  have b := (h'.iff (g + n.e)).mpr ((h.iff (g + n.e)).mp (Int.le_refl _))
  omega
theorem LBest.skip {ns : List Note} {ps : List Int} {d i : Nat} {b : Int} {n : Note} (h : LBest ns ps d i b) (hn : ns[i]? = some n) (hs : ¬ d + 1 ≤ (stL ns ps n).length) : LBest ns ps d (i + 1) b := by
  refine ⟨fun j m g hj hm hg => ?_, h.at_.imp id fun ⟨j, m, hj, q⟩ => ⟨j, m, by omega, q⟩⟩
  by_cases e : j = i
  · subst e
    rw [hn] at hm
    cases hm
    obtain ⟨st, p, _, e⟩ := hg
    have := (List.getElem?_eq_some_iff.mp e).1
    rw [p.length_eq] at this
    omega
  · exact h.le j m g (by omega) hm hg
theorem LBest.put {ns : List Note} {ps : List Int} {d i : Nat} {b g : Int} {n : Note} (h : LBest ns ps d i b) (hn : ns[i]? = some n) (hg : LGap ns ps d n g) : LBest ns ps d (i + 1) (if g < b then g else b) := by
  refine ⟨fun j m k hj hm hk => ?_, ?_⟩
  · by_cases e : j = i
    · subst e
      rw [hn] at hm
      cases hm
      have := hg.uniq hk
      split <;> omega
    · have := h.le j m k (by omega) hm hk
      split <;> omega
  · by_cases c : g < b
    · rw [if_pos c]
      exact .inr ⟨i, n, by omega, hn, hg⟩
    · rw [if_neg c]
      exact h.at_.imp id fun ⟨j, m, hj, q⟩ => ⟨j, m, by omega, q⟩
/-- what pinch returns -/
def PinchV (ns : List Note) (d : Nat) (v : V) (H : Hp) : Prop := (v = .non ∧ ∀ ps, IsPitches ns ps → ps.length ≤ d) ∨ ∃ l idx g R j n, v = .ref l ∧ H l = some (.lst (idx.map V.int)) ∧ Pin ns d idx g R j n
theorem PinchV.same {ns : List Note} {d : Nat} {v : V} {H H' : Hp} (h : PinchV ns d v H) (e : Same H H') : PinchV ns d v H' := by
  rcases h with h | ⟨l, idx, g, R, j, n, h1, h2, h3⟩
  · exact .inl h
  · exact .inr ⟨l, idx, g, R, j, n, h1, e _ _ h2, h3⟩
theorem fm_take_succ {f : Int → Option Int} {ps : List Int} {i : Nat} {q : Int} (h : ps[i]? = some q) : (ps.take (i + 1)).filterMap f = (ps.take i).filterMap f ++ (match f q with | some y => [y] | none => []) := by
  rw [List.take_add_one, h, List.filterMap_append]
  congr 1
  show List.filterMap f [q] = _
  cases e : f q <;> simp [e]
end Kt
namespace Kt
open PySem PySem.Spec PyProof.Rows L2
theorem refs_sel {α : Type} (ks : List (Addr × α)) (idx : List Int) : idx.filterMap (fun i => (ks[i.toNat]?).map fun k => V.ref k.1) = refs (seln ks idx) := by
  induction idx with
  | nil => rfl
  | cons i r ih =>
    unfold seln at ih ⊢
    cases e : ks[i.toNat]? with
    | none => rw [List.filterMap_cons_none (by rw [e]; rfl), List.filterMap_cons_none (f := fun i : Int => ks[i.toNat]?) e, ih]
    | some k =>
      rw [List.filterMap_cons_some (b := V.ref k.1) (by rw [e]; rfl), List.filterMap_cons_some (f := fun i : Int => ks[i.toNat]?) e, ih]
      rfl
theorem vals_sel {α : Type} (ks : List (Addr × α)) (idx : List Int) : vals (seln ks idx) = seln (vals ks) idx := by
  induction idx with
  | nil => rfl
  | cons i r ih =>
    unfold seln at ih ⊢
    cases e : ks[i.toNat]? with
    | none =>
      rw [List.filterMap_cons_none (f := fun i : Int => ks[i.toNat]?) e, List.filterMap_cons_none (f := fun i : Int => (vals ks)[i.toNat]?) (by show (ks.map (·.2))[i.toNat]? = none; rw [List.getElem?_map, e]; rfl), ih]
    | some k =>
      rw [List.filterMap_cons_some (f := fun i : Int => ks[i.toNat]?) e, List.filterMap_cons_some (f := fun i : Int => (vals ks)[i.toNat]?) (vals_get e), ← ih]
      rfl
theorem mem_sel {α : Type} {ks : List α} {idx : List Int} {k : α} (h : k ∈ seln ks idx) : k ∈ ks := by
  obtain ⟨i, _, e⟩ := List.mem_filterMap.mp h
  exact List.mem_of_getElem? e
theorem len_sel {α : Type} {ks : List α} {idx : List Int} : (seln ks idx).length ≤ idx.length := List.length_filterMap_le _ _
theorem SlowV.gap {ns : List Note} {R : Nat → List (Int × Int)} {d : Nat} {v : V} (hl : ns.length ≤ 60) (ok : ∀ n ∈ ns, n.ok) (hR : ∀ i, i < ns.length → NR ns i (R i)) {ps : List Int} (hp : IsPitches ns ps) (hd : d < ps.length) {g : Int} (hg : GapSem ns d g)
    (h : (v = .non ∧ ∀ j : Nat, j < ns.length → (R j).length + 1 < d + 1) ∨
      ∃ (g : Int) (j : Nat) (n : Note), v = .int (if g > 0 then g else 0) ∧ ns[j]? = some n ∧ d + 1 ≤ (R j).length + 1 ∧ IsMax (n.s :: ((R j).take d).map (·.1)) (g + n.e) ∧ (∀ (j' : Nat) (n' : Note) (g' : Int), j' < ns.length → ns[j']? = some n' → d + 1 ≤ (R j').length + 1 → IsMax (n'.s :: ((R j').take d).map (·.1)) (g' + n'.e) → g ≤ g')) :
    v = .int (if g > 0 then g else 0) := by
  rcases h with ⟨_, h⟩ | ⟨k, j, n, rfl, hj, hm, hM, hmin⟩
  · have := none_few hl ok hR h hp
    omega
  · rw [(gap_sem hl ok hR hj hm hM hmin).uniq hg]
end Kt
namespace Kt
open PySem PySem.Spec PyProof.Rows L2
theorem PinchV.data {K : PySem.W.Frag} {ns : List Note} {d : Nat} {v v' : V} {H : Hp} (hl : ns.length ≤ 60) (gd : GoodL ns) (d12 : d ≤ 12) (h : PinchV ns d v H) (k : PinchV ns d v' H) : ∃ D, Dp K H v D ∧ Dp K H v' D ∧ Fine D := by
  have few : ∀ {idx g R j n}, Pin ns d idx g R j n → ∀ ps, IsPitches ns ps → ¬ ps.length ≤ d := fun {idx g R j n} p ps hp => by
    have := gap_few (p.fam j (List.getElem?_eq_some_iff.mp p.at_).1) p.at_ (d := d) (by have := p.many; omega) hp
    omega
  rcases h with ⟨rfl, h⟩ | ⟨l, idx, g, R, j, n, rfl, h2, h3⟩
  · rcases k with ⟨rfl, _⟩ | ⟨l', idx', g', R', j', n', rfl, k2, k3⟩
    · exact ⟨_, .non, .non, FD.none.fine⟩
    · obtain ⟨ps, hp⟩ := pit_ex gd.ok
      exact absurd (h ps hp) (few k3 ps hp)
  · rcases k with ⟨rfl, k⟩ | ⟨l', idx', g', R', j', n', rfl, k2, k3⟩
    · obtain ⟨ps, hp⟩ := pit_ex gd.ok
      exact absurd (k ps hp) (few h3 ps hp)
    · obtain ⟨rfl, _⟩ := h3.uniq hl gd k3
      obtain ⟨b1, b2⟩ := h3.bound
      refine ⟨_, Dp.lints h2, Dp.lints k2, (FD.dL fun i hi => ?_).fine (by decide) (by rw [b1]; omega)⟩
      have := b2 i hi
      omega
/-- the law's own part -/
def ex32 : List Note := [⟨0, 0, 7⟩, ⟨5, 5, 9⟩, ⟨6, 6, 7⟩]
def R32 : Nat → List (Int × Int) := fun i => if i = 0 then [(5, 1)] else if i = 1 then [(6, 2)] else []
theorem ex32_get {i : Nat} {m : Note} (h : ex32[i]? = some m) : (i = 0 ∧ m = ⟨0, 0, 7⟩) ∨ (i = 1 ∧ m = ⟨5, 5, 9⟩) ∨ (i = 2 ∧ m = ⟨6, 6, 7⟩) := by
  match i, h with
  | 0, h => cases h; exact .inl ⟨rfl, rfl⟩
  | 1, h => cases h; exact .inr (.inl ⟨rfl, rfl⟩)
  | 2, h => cases h; exact .inr (.inr ⟨rfl, rfl⟩)
  | i + 3, h => cases h
theorem fam32 : ∀ i, i < ex32.length → NR ex32 i (R32 i) := by
  intro i hi
  have : i = 0 ∨ i = 1 ∨ i = 2 := by
    have : ex32.length = 3 := rfl
    omega
  rcases this with rfl | rfl | rfl
  · refine ⟨List.pairwise_singleton _ _, fun r hr => ?_, List.pairwise_singleton _ _, fun j m n hj hn he hp => ?_⟩
    · rw [List.mem_singleton.mp (show r ∈ [(5, 1)] from hr)]
      exact ⟨1, ⟨5, 5, 9⟩, ⟨0, 0, 7⟩, rfl, rfl, rfl, rfl, by decide, by decide⟩
    · cases hn
      rcases ex32_get hj with ⟨rfl, rfl⟩ | ⟨rfl, rfl⟩ | ⟨rfl, rfl⟩
      · exact absurd rfl hp
      · exact ⟨(5, 1), List.mem_singleton.mpr rfl, 1, _, rfl, rfl, rfl, by decide⟩
      · exact absurd rfl hp
  · refine ⟨List.pairwise_singleton _ _, fun r hr => ?_, List.pairwise_singleton _ _, fun j m n hj hn he hp => ?_⟩
    · rw [List.mem_singleton.mp (show r ∈ [(6, 2)] from hr)]
      exact ⟨2, ⟨6, 6, 7⟩, ⟨5, 5, 9⟩, rfl, rfl, rfl, rfl, by decide, by decide⟩
    · cases hn
      rcases ex32_get hj with ⟨rfl, rfl⟩ | ⟨rfl, rfl⟩ | ⟨rfl, rfl⟩
      · exact absurd he (by decide)
      · exact absurd rfl hp
      · exact ⟨(6, 2), List.mem_singleton.mpr rfl, 2, _, rfl, rfl, rfl, by decide⟩
  · refine ⟨List.Pairwise.nil, fun r hr => absurd (show r ∈ [] from hr) (by simp), List.Pairwise.nil, fun j m n hj hn he hp => ?_⟩
    cases hn
    rcases ex32_get hj with ⟨rfl, rfl⟩ | ⟨rfl, rfl⟩ | ⟨rfl, rfl⟩
    · exact absurd he (by decide)
    · exact absurd he (by decide)
    · exact absurd rfl hp
theorem pin32 : Pin ex32 1 [1, 2] 1 R32 1 ⟨5, 5, 9⟩ := by
  have at0 : ∀ g', IsMax (0 :: ((R32 0).take 1).map (·.1)) (g' + 0) → g' = 5 := fun g' h => by
    have h' : IsMax [0, 5] (g' + 0) := h
    have a := h'.2 5 (by decide)
    have b := h'.1
    simp only [List.mem_cons, List.not_mem_nil, or_false] at b
    omega
  have at1 : ∀ g', IsMax (5 :: ((R32 1).take 1).map (·.1)) (g' + 5) → g' = 1 := fun g' h => by
    have h' : IsMax [5, 6] (g' + 5) := h
    have a := h'.2 6 (by decide)
    have b := h'.1
    simp only [List.mem_cons, List.not_mem_nil, or_false] at b
    omega
  refine ⟨fam32, rfl, by decide, .refl _, by decide, ⟨by decide, by decide⟩, fun j' n' g' hj hn hm hM => ?_, fun j' n' g' hj hn hm hM => ?_⟩
  · rcases ex32_get hn with ⟨rfl, rfl⟩ | ⟨rfl, rfl⟩ | ⟨rfl, rfl⟩
    · rw [at0 g' hM]; decide
    · rw [at1 g' hM]; decide
    · exact absurd hm (by decide)
  · rcases ex32_get hn with ⟨rfl, rfl⟩ | ⟨rfl, rfl⟩ | ⟨rfl, rfl⟩
    · rw [at0 g' hM]; decide
    · omega
    · omega
theorem g32 : GoodL ex32 := goodL_of (by decide +kernel) (by decide +kernel)
theorem o32 : ex32.Pairwise fun x y => x.key ≤ y.key := by decide +kernel
theorem PinchV.ex32 {v : V} {H : Hp} (h : PinchV Kt.ex32 1 v H) : ∃ l, v = .ref l ∧ H l = some (.lst [.int 1, .int 2]) := by
  rcases h with ⟨_, h⟩ | ⟨l, idx, g, R, j, n, rfl, h2, h3⟩
  · have := h [7, 9] (pitches_of (by decide) (by decide) (by decide))
    exact absurd this (by decide)
  · obtain ⟨rfl, _⟩ := h3.uniq (by decide) g32 pin32
    exact ⟨l, rfl, h2⟩
end Kt
namespace Kt
open PySem PySem.Spec PyProof.Rows L2
local macro_rules | `(tactic| walk_at "hx") => `(tactic| first | assumption | exact upd_same | (refine (upd_ne (by first | assumption | (apply Ne.symm; assumption))).trans ?_; walk_at "hx") | (refine Ex.tup (by assumption) _ _ ?_; walk_at "hx") | (refine Ex.at_ (by assumption) _ _ (by first | assumption | (apply Ne.symm; assumption)) ?_; walk_at "hx"))
local macro_rules | `(tactic| walk_at "ci") => `(tactic| first | decide | assumption | omega | (simp only [CDiv, CMul, CPow]; omega))
local macro_rules | `(tactic| walk_at "w1") => `(tactic| first
  | (with_reducible refine w_seq ?_) | (with_reducible refine w_set ?_) | (with_reducible refine w_ifS ?_) | (with_reducible refine w_asg ?_) | (with_reducible refine w_ret ?_) | (with_reducible refine w_drop ?_)
  | (with_reducible refine w_op ?_) | ((with_reducible apply w_var); focus rfl) | (with_reducible refine w_c ?_) | (with_reducible refine w_I0 ?_) | (with_reducible refine w_eqI ?_) | (with_reducible refine w_neI ?_)
  | (with_reducible refine w_test ?_) | (with_reducible refine w_bl ?_) | (with_reducible refine w_tB ?_) | (with_reducible refine w_not ?_) | (with_reducible refine w_and ?_) | (with_reducible refine w_or ?_)
  | (with_reducible refine w_andV ?_) | (with_reducible refine w_orV ?_) | (with_reducible refine w_notV ?_) | (with_reducible refine w_blV ?_) | (with_reducible refine w_if ?_) | (with_reducible refine w_chain ?_)
  | (with_reducible refine w_cons ?_) | (with_reducible refine w_nil ?_) | (with_reducible refine w_call ?_) | (with_reducible refine w_cb ?_) | (with_reducible refine w_lst ?_) | (with_reducible refine w_tup ?_)
  | (with_reducible refine w_un ?_) | (with_reducible refine w_U ?_) | (with_reducible refine w_gname ?_) | (with_reducible refine w_gsub ?_) | (with_reducible refine w_gcons ?_) | (with_reducible refine w_gnil ?_) | (with_reducible refine w_next ?_)
  | (with_reducible refine w_par ?_) | (with_reducible refine w_par2 ?_) | (with_reducible refine w_retN ?_) | (with_reducible refine iteT ?_) | (with_reducible refine iteF ?_) | (with_reducible refine iteTn ?_) | (with_reducible refine iteFn ?_) | (with_reducible refine w_for ?_) | (with_reducible refine w_iList ?_) | (with_reducible refine w_iTup ?_) | (with_reducible refine w_iRng1 ?_) | (with_reducible refine w_iRng2 ?_) | (with_reducible refine w_iEnum ?_) | (with_reducible refine w_lc ?_) | (with_reducible refine w_fld0 ?_) | (with_reducible refine w_din ?_) | (with_reducible refine w_dnotin ?_) | (with_reducible refine w_dget ?_) | (with_reducible refine w_sfld ?_) | (with_reducible refine w_meth ?_) | (with_reducible refine w_make ?_) | (with_reducible refine w_dnew ?_) | (with_reducible refine w_dput ?_) | (with_reducible refine iteNo ?_) | (with_reducible refine iteSo ?_) | (with_reducible refine iteNNo ?_) | (with_reducible refine iteNSo ?_) | (with_reducible refine w_pairs1 ?_) | (with_reducible refine w_maxD ?_) | (with_reducible refine w_iVals ?_) | (with_reducible refine w_yes ?_) | (with_reducible refine w_isN0 ?_) | (with_reducible refine w_isNr ?_) | (with_reducible refine w_isNi ?_) | (with_reducible refine w_notN0 ?_) | (with_reducible refine w_notNr ?_) | (with_reducible refine w_notNi ?_) | (with_reducible refine w_sl ?_) | (with_reducible refine w_nopart ?_) | (with_reducible refine w_part ?_) | (with_reducible refine w_bm ?_) | (with_reducible refine w_scI ?_)
  | ((with_reducible apply w_ixL); (focus walk_at "hx"); (focus decide); (focus rfl)) | ((with_reducible apply w_ixT); (focus walk_at "hx"); (focus decide); (focus rfl)) | ((with_reducible apply w_setL); (focus walk_at "hx"); (focus decide); (focus exact of_decide_eq_true rfl))
  | ((with_reducible refine w_I ?_ ?_); (focus walk_at "ci")))
local macro_rules | `(tactic| walk_at "w") => `(tactic| repeat walk_at "w1")
def topS (i : Nat) : Stmt := PySem.Challenge.pw_kettletones_k32_notes_that_pinch.main.body.getD i (.Pass ⟨0, 0, 0, 0⟩)
/-- what the top has left: the built-ins' names are free, the module's numbers -/
structure Tx (K : PySem.W.Frag) (mg : Str → Option Value) (Cp : Addr) : Prop where
  m_int : mg "int" = none
  m_bool : mg "bool" = none
  m_list : mg "list" = none
  m_tuple : mg "tuple" = none
  m_isinstance : mg "isinstance" = none
  m_len : mg "len" = none
  m_sorted : mg "sorted" = none
  m_max : mg "max" = none
  m_min : mg "min" = none
  m_range : mg "range" = none
  m_repr : mg "repr" = none
  m_enumerate : mg "enumerate" = none
  m_HIGHEST : ∃ t, mg "HIGHEST" = some (.int 119 t)
  m_LAST : ∃ t, mg "LAST" = some (.int 9999 t)
  m_MOST_NOTES : ∃ t, mg "MOST_NOTES" = some (.int 60 t)
  m_Part : mg "Part" = some (.ref Cp)
  c_Part : ClsF K Cp
  n_notes : NoAttr K Cp "part_notes"
section
variable {P : Program} {w : World} {K : PySem.W.Frag} {mg : Str → Option Value} {base : Heap} {Cp : Addr}
abbrev st_is_integer : Stmt := topS 11
theorem sc_is_integer : FnScope ["value", "low", "high"] ["value", "low", "high"] (defScope st_is_integer) := ⟨rfl, rfl, rfl, by decide +kernel, rfl, by decide +kernel, by decide +kernel⟩

/-- an int within two bounds; a bool; a value of another kind -/
def spInt (K : PySem.W.Frag) : Sp := fun vs H Q _ => ∃ (x : V) (lo hi : Int), vs = [x, .int lo, .int hi] ∧
  ((∃ v, x = .int v ∧ Q (.bl (decide (lo ≤ v) && decide (v ≤ hi))) H) ∨ (∃ b, x = .bl b ∧ Q (.bl false) H) ∨ (∃ t, TyX K H x t ∧ PySem.W.kitOne K t (.type "int") = some false ∧ Q (.bl false) H))
theorem spInt_in {K : PySem.W.Frag} {H : Hp} {Q : VK} {E : XK} {v lo hi : Int} (h1 : lo ≤ v) (h2 : v ≤ hi) (q : Q (.bl true) H) : spInt K [.int v, .int lo, .int hi] H Q E :=
  ⟨_, _, _, rfl, .inl ⟨v, rfl, by rw [decide_eq_true h1, decide_eq_true h2]; exact q⟩⟩
theorem spInt_out {K : PySem.W.Frag} {H : Hp} {Q : VK} {E : XK} {v lo hi : Int} (h : ¬ (lo ≤ v ∧ v ≤ hi)) (q : Q (.bl false) H) : spInt K [.int v, .int lo, .int hi] H Q E :=
  ⟨_, _, _, rfl, .inl ⟨v, rfl, by
    have e : (decide (lo ≤ v) && decide (v ≤ hi)) = false := by
      rw [Bool.and_eq_false_iff, decide_eq_false_iff_not, decide_eq_false_iff_not]
      omega
    rw [e]; exact q⟩⟩
theorem ok_is_integer (T : Tx K mg Cp) {f : Addr} {fd : FuncData} (F : Fun K "is_integer" "is_integer" st_is_integer f fd) : FnOk P w K mg base (L2.CX P w) 1 f fd ["value", "low", "high"] (spInt K) := by
  refine F.okX sc_is_integer (fun vs H Q E h => ?_) (fun cdv A outer s H vs Q E hr h => ?_)
  · obtain ⟨x, lo, hi, rfl, _⟩ := h
    rfl
  · obtain ⟨x, lo, hi, rfl, h⟩ := h
    refine ⟨_, PSs.nox (pss_one (ps_ret (pe_and (pe_callB (r := rIsi K) call_isi (by rfl) T.m_isinstance (by decide +kernel) (pa_cons (pv 0) (pa_cons (pe_bltn (v := .ty "int") (u := .type "int") (by rfl) T.m_int (by decide +kernel) rfl) pa_nil))) (pe_and (pe_not (pe_callB (r := rIsi K) call_isi (by rfl) T.m_isinstance (by decide +kernel) (pa_cons (pv 0) (pa_cons (pe_bltn (v := .ty "bool") (u := .type "bool") (by rfl) T.m_bool (by decide +kernel) rfl) pa_nil)))) (pe_one (pe_chain op_le op_le (pv 1) (pv 0) (pv 2))))))), ?_⟩
    rcases h with ⟨v, rfl, q⟩ | ⟨b, rfl, q⟩ | ⟨t, ht, e, q⟩
    · walk_at "w"
      refine w_isi (.ty "int") (.base (.int v)) kit_int_int ?_
      walk_at "w"
      refine w_isi (.ty "bool") (.base (.int v)) kit_int_bool ?_
      walk_at "w"
      refine if2 (fun h1 => ?_) (fun h1 => ?_)
      · walk_at "w"
        rw [decide_eq_true h1, Bool.true_and] at q
        exact q
      · rw [decide_eq_false h1, Bool.false_and] at q
        exact q
    · walk_at "w"
      refine w_isi (.ty "int") (.base (.bl b)) kit_bool_int ?_
      walk_at "w"
      refine w_isi (.ty "bool") (.base (.bl b)) kit_bool_bool ?_
      walk_at "w"
      exact q
    · walk_at "w"
      refine w_isi (.ty "int") ht e ?_
      walk_at "w"
      exact q
abbrev st_is_list : Stmt := topS 12
theorem sc_is_list : FnScope ["value", "most"] ["value", "most"] (defScope st_is_list) := ⟨rfl, rfl, rfl, by decide +kernel, rfl, by decide +kernel, by decide +kernel⟩

/-- a list (or a tuple) of so many values -/
def spList : Sp := fun vs H Q _ => ∃ (a : Addr) (xs : List V) (m : Int), vs = [.ref a, .int m] ∧ (H a = some (.lst xs) ∨ H a = some (.tup xs)) ∧ (xs.length : Int) ≤ m ∧ ∀ H', Same H H' → Q (.bl true) H'
theorem ok_is_list (T : Tx K mg Cp) {f : Addr} {fd : FuncData} (F : Fun K "is_list" "is_list" st_is_list f fd) : FnOk P w K mg base (L2.CX P w) 1 f fd ["value", "most"] spList := by
  refine F.okX sc_is_list (fun vs H Q E h => ?_) (fun cdv A outer s H vs Q E hr h => ?_)
  · obtain ⟨a, xs, m, rfl, _⟩ := h
    rfl
  · obtain ⟨a, xs, m, rfl, hx, hm, q⟩ := h
    refine ⟨_, PSs.nox (pss_one (ps_ret (pe_and (pe_callB (r := rIsiT K) call_isiT (by rfl) T.m_isinstance (by decide +kernel) (pa_cons (pv 0) (pa_cons (pe_tup (pa_cons (pe_bltn (v := .ty "list") (u := .type "list") (by rfl) T.m_list (by decide +kernel) rfl) (pa_cons (pe_bltn (v := .ty "tuple") (u := .type "tuple") (by rfl) T.m_tuple (by decide +kernel) rfl) pa_nil))) pa_nil))) (pe_one (pe_cmpR op_le (pe_callB (r := rLenK K) cr_len (by rfl) T.m_len (by decide +kernel) (pa_cons (pv 0) pa_nil)) (pv 1) (nomark _)))))), ?_⟩
    walk_at "w"
    refine ⟨sz _, fun p hp => ?_⟩
    walk_at "w"
    have e1 : Same H (upd H p (.tup [V.ty "list", V.ty "tuple"])) := Same.new hp
    have go : ∀ b : Bool, b = true → (if b = true then tOp (rI0 fun i j => V.bl (decide (i ≤ j))) (tCB (fun xs H Q => ∃ p ys, xs = [V.ref p] ∧ (SqL K H p ys ∨ SqT K H p ys) ∧ Q (V.int ↑ys.length) H) (tCons (tVar 0) tNil)) (tVar 1) (L2.start ["value", "most"] [V.ref a, V.int m]) (upd H p (.tup [V.ty "list", V.ty "tuple"])) Q else Q (.bl false) (upd H p (.tup [V.ty "list", V.ty "tuple"]))) := by
      rintro b rfl
      walk_at "w"
      refine ⟨a, xs, rfl, hx.imp (fun h => SqL.of (e1 _ _ h)) (fun h => SqT.of (e1 _ _ h)), ?_⟩
      walk_at "w"
      rw [decide_eq_true hm]
      exact q _ e1
    rcases hx with hx | hx
    · refine w_isiT upd_same (.cons (.ty "list") (.cons (.ty "tuple") .nil)) (.base (.lst (e1 _ _ hx))) kit_list_lt ?_
      exact ⟨_, rfl, go _ rfl⟩
    · refine w_isiT upd_same (.cons (.ty "list") (.cons (.ty "tuple") .nil)) (.base (.tup (e1 _ _ hx))) kit_tuple_lt ?_
      exact ⟨_, rfl, go _ rfl⟩
abbrev st_is_pitch : Stmt := topS 17
theorem sc_is_pitch : FnScope ["value"] ["value"] (defScope st_is_pitch) := ⟨rfl, rfl, rfl, by decide +kernel, rfl, by decide +kernel, by decide +kernel⟩

def spPitch : Sp := fun vs H Q _ => ∃ v : Int, vs = [.int v] ∧ 0 ≤ v ∧ v ≤ 119 ∧ Q (.bl true) H
theorem ok_is_pitch (T : Tx K mg Cp) (c_is_integer : Cal P w K mg base 1 "is_integer" ["value", "low", "high"] (spInt K)) {f : Addr} {fd : FuncData} (F : Fun K "is_pitch" "is_pitch" st_is_pitch f fd) : FnOk P w K mg base (L2.CX P w) 2 f fd ["value"] spPitch := by
  refine F.okX sc_is_pitch (fun vs H Q E h => ?_) (fun cdv A outer s H vs Q E hr h => ?_)
  · obtain ⟨v, rfl, _⟩ := h
    rfl
  · obtain ⟨v, rfl, h1, h2, q⟩ := h
    refine ⟨_, PSs.nox (pss_one (ps_ret (pe_cal c_is_integer hr passL (pa_cons (pv 0) (pa_cons pe_int (pa_cons (pe_globI (by rfl) T.m_HIGHEST) pa_nil)))))), ?_⟩
    walk_at "w"
    exact spInt_in h1 h2 q
abbrev st_is_note : Stmt := topS 23
theorem sc_is_note : FnScope ["value", "start", "end", "pitch"] ["value"] (defScope st_is_note) := ⟨rfl, rfl, rfl, by decide +kernel, rfl, by decide +kernel, by decide +kernel⟩

def spNote : Sp := fun vs H Q _ => ∃ (a : Addr) (n : Note), vs = [.ref a] ∧ H a = some (.tup (n.l.map V.int)) ∧ n.ok ∧ Q (.bl true) H
theorem ok_is_note (T : Tx K mg Cp) (c_is_integer : Cal P w K mg base 1 "is_integer" ["value", "low", "high"] (spInt K)) (c_is_pitch : Cal P w K mg base 2 "is_pitch" ["value"] spPitch) {f : Addr} {fd : FuncData} (F : Fun K "is_note" "is_note" st_is_note f fd) : FnOk P w K mg base (L2.CX P w) 3 f fd ["value"] spNote := by
  refine F.okX sc_is_note (fun vs H Q E h => ?_) (fun cdv A outer s H vs Q E hr h => ?_)
  · obtain ⟨a, n, rfl, _⟩ := h
    rfl
  · obtain ⟨a, n, rfl, hn, ⟨o1, o2, o3, o4, o5⟩, q⟩ := h
    refine ⟨_, PSs.nox (pss_cons (ps_if (PW.pt (pw_or (pt_not (pt_val (pe_callB (r := rIsi K) call_isi (by rfl) T.m_isinstance (by decide +kernel) (pa_cons (pv 0) (pa_cons (pe_bltn (v := .ty "tuple") (u := .type "tuple") (by rfl) T.m_tuple (by decide +kernel) rfl) pa_nil))))) (pw_or1 (pt_cmpR op_ne (pe_callB (r := rLenK K) cr_len (by rfl) T.m_len (by decide +kernel) (pa_cons (pv 0) pa_nil)) pe_int (nomark _)))))
      (pss_one (ps_ret pe_bl)) pss_nil)
      (pss_cons (ps_asg (pv 0) (pg_tup (by rfl) (pgs_cons (pg_name (i := 1) sc_is_note.nd rfl (Or.inl rfl)) (pgs_cons (pg_name (i := 2) sc_is_note.nd rfl (Or.inl rfl)) (pgs_cons (pg_name (i := 3) sc_is_note.nd rfl (Or.inl rfl)) pgs_nil)))))
      (pss_one (ps_ret (pe_and (pe_cal c_is_integer hr passL (pa_cons (pv 1) (pa_cons pe_int (pa_cons (pe_globI (by rfl) T.m_LAST) pa_nil)))) (pe_and (pe_cal c_is_integer hr passL (pa_cons (pv 2) (pa_cons (pv 1) (pa_cons (pe_globI (by rfl) T.m_LAST) pa_nil)))) (pe_one (pe_cal c_is_pitch hr passL (pa_cons (pv 3) pa_nil))))))))), ?_⟩
    walk_at "w"
    refine w_isi (.ty "tuple") (.base (.tup hn)) kit_tuple_tuple ?_
    walk_at "w"
    refine ⟨a, _, rfl, .inr (SqT.of hn), ?_⟩
    walk_at "w"
    refine ifNF rfl ?_
    walk_at "w"
    have hn' : H a = some (.tup [.int n.s, .int n.e, .int n.p]) := hn
    refine w_gtup hn' rfl ?_
    walk_at "w"
    refine spInt_in o1 (Int.le_trans o2 o3) ?_
    walk_at "w"
    refine spInt_in o2 o3 ?_
    walk_at "w"
    exact ⟨n.p, rfl, o4, o5, q⟩
abbrev st_need_note : Stmt := topS 24
theorem sc_need_note : FnScope ["note"] ["note"] (defScope st_need_note) := ⟨rfl, rfl, rfl, by decide +kernel, rfl, by decide +kernel, by decide +kernel⟩

def spNeedNote : Sp := fun vs H Q _ => ∃ (a : Addr) (n : Note), vs = [.ref a] ∧ H a = some (.tup (n.l.map V.int)) ∧ n.ok ∧ Q .non H
theorem ok_need_note (T : Tx K mg Cp) (c_is_note : Cal P w K mg base 3 "is_note" ["value"] spNote) {f : Addr} {fd : FuncData} (F : Fun K "need_note" "need_note" st_need_note f fd) : FnOk P w K mg base (L2.CX P w) 4 f fd ["note"] spNeedNote := by
  refine F.okX sc_need_note (fun vs H Q E h => ?_) (fun cdv A outer s H vs Q E hr h => ?_)
  · obtain ⟨a, n, rfl, _⟩ := h
    rfl
  · obtain ⟨a, n, rfl, hn, ho, q⟩ := h
    refine ⟨_, PSs.nox (pss_one (ps_if (pt_not (pt_val (pe_cal c_is_note hr passL (pa_cons (pv 0) pa_nil))))
      (pss_one ps_never) pss_nil)), ?_⟩
    walk_at "w"
    refine ⟨a, n, rfl, hn, ho, ?_⟩
    walk_at "w"
    exact q
abbrev st_Part___init : Stmt := inClass (topS 26) 0
theorem sc_Part___init : FnScope ["self", "notes", "note", "lasts", "pitch"] ["self", "notes"] (defScope st_Part___init) := ⟨rfl, rfl, rfl, by decide +kernel, rfl, by decide +kernel, by decide +kernel⟩

/-- what a part is made of: a list of notes of which no two of one pitch sound together -/
def spInit (C : Addr) : Sp := fun vs H Q _ => ∃ (p dx a : Addr) (ks : List (Addr × Note)), vs = [.ref p, .ref a] ∧ H p = some (.ins C dx []) ∧ NL H a ks ∧ ks.length ≤ 60 ∧ GoodL (vals ks) ∧
  ∀ H' js, js.Perm ks → js.Pairwise (fun x y => x.2.key ≤ y.2.key) → (∀ b o, b ≠ p → H b = some o → H' b = some o) → PartAt C H' p js → Q .non H'
theorem ok_part_init (T : Tx K mg Cp) (c_is_list : Cal P w K mg base 1 "is_list" ["value", "most"] spList) (c_need_note : Cal P w K mg base 4 "need_note" ["note"] spNeedNote) {f : Addr} {fd : FuncData} (F : Fun K "__init__" "Part.__init__" st_Part___init f fd) : FnOk P w K mg base (L2.CX P w) 5 f fd ["self", "notes"] (spInit Cp) := by
  refine F.okX sc_Part___init (fun vs H Q E h => ?_) (fun cdv A outer s H vs Q E hr h => ?_)
  · obtain ⟨p, dx, a, ks, rfl, _⟩ := h
    rfl
  · obtain ⟨p, dx, a, ks, rfl, hp, hl, h60, hg, q⟩ := h
    refine ⟨_, PSs.nox (pss_cons (ps_if (pt_not (pt_val (pe_cal c_is_list hr passL (pa_cons (pv 1) (pa_cons (pe_globI (by rfl) T.m_MOST_NOTES) pa_nil)))))
      (pss_one ps_never) pss_nil)
      (pss_cons (ps_for PassesOwn.never (by rfl) (pi_list (pv 1)) (pg_name (i := 2) sc_Part___init.nd rfl (Or.inl rfl))
      (pss_one (ps_expr (pe_cal c_need_note hr passL (pa_cons (pv 2) pa_nil)))))
      (pss_cons (ps_fld (pv 0) (pe_callB cr_sort3 (by rfl) T.m_sorted (by decide +kernel) (pa_cons (pv 1) pa_nil)) rfl)
      (pss_cons (ps_set (i := 3) sc_Part___init.nd rfl (Or.inl rfl) pe_dnewK)
      (pss_one (ps_for PassesOwn.never (by rfl) (pi_list (pe_fld (X := _) (pv 0) rfl)) (pg_name (i := 2) sc_Part___init.nd rfl (Or.inl rfl))
      (pss_cons (ps_set (i := 4) sc_Part___init.nd rfl (Or.inl rfl) (pe_ix (r := rIxT K) ix_tup (pv 2) pe_int (fun _ _ => rfl)))
      (pss_cons (ps_if (PW.pt (pw_and (pt_cmp (pc_din (hu_of hr) (pv 4) (pv 3)) (by rfl)) (pw_and1 (pt_cmpR op_le (pe_ix (r := rIxT K) ix_tup (pv 2) pe_int (fun _ _ => rfl)) (pe_ix ix_tup (pe_dget (hu_of hr) (pv 3) (pv 4) (fun _ _ => rfl)) pe_int (fun _ _ => rfl)) (nomark _)))))
      (pss_one ps_never) pss_nil)
      (pss_one (ps_dput (hu_of hr) (pv 3) (pv 4) (pv 2) rfl)))))))))), ?_⟩
    walk_at "w"
    refine ⟨a, _, _, rfl, .inl hl.lst, by rw [refs_length]; omega, fun H1 e1 => ?_⟩
    walk_at "w"
    -- for note in notes: need_note(note)
    refine ⟨a, rfl, ⟨_, SqL.of (hl.same e1).lst⟩, for_list (xs := refs ks) (fun i σ H2 => Same H H2 ∧ ∃ v, σ = [some (.ref p), some (.ref a), v, none, none]) ⟨e1, none, rfl⟩ (fun i σ H2 _ ⟨e2, _⟩ => SqL.of (hl.same e2).lst) ?_ ?_⟩
    · rintro i x σ H2 hx ⟨e2, v, rfl⟩
      obtain ⟨k, hk, rfl⟩ := of_refs hx
      have hm : k ∈ ks := List.mem_of_getElem? hk
      walk_at "w"
      exact ⟨k.1, k.2, rfl, e2 _ _ (hl.tus k hm), hg.ok _ (List.mem_map_of_mem hm), e2, _, rfl⟩
    · rintro σ H2 ⟨e2, v, rfl⟩
      walk_at "w"
      -- self.part_notes = sorted(notes)
      refine ⟨a, ks, rfl, hl.same e2, by omega, fun k hk => hg.ok _ (List.mem_map_of_mem hk), fun js l pj oj hn => ?_⟩
      walk_at "w"
      have nlp : p ≠ l := ne_of_none (e2 _ _ hp) hn
      refine ⟨p, Cp, dx, [], rfl, by rw [upd_ne nlp]; exact e2 _ _ hp, T.c_Part.cl, T.n_notes, by decide, ?_⟩
      generalize h3 : upd (upd H2 l (.lst (refs js))) p (.ins Cp dx (putF "part_notes" (.ref l) [])) = H3
      have hp3 : H3 p = some (.ins Cp dx [("part_notes", .ref l)]) := by rw [← h3]; exact upd_same
      have k3 : ∀ b o, b ≠ p → H b = some o → H3 b = some o := fun b o nb e => by
        rw [← h3, upd_ne nb, upd_ne (ne_of_none (e2 _ _ e) hn)]
        exact e2 _ _ e
      have t3 : Tus Note.l H3 js := fun k hk => k3 _ _ (fun z => by
        have q1 := hl.tus k (pj.mem_iff.mp hk)
        rw [z, hp] at q1
        cases q1) (hl.tus k (pj.mem_iff.mp hk))
      have l3 : NL H3 l js := ⟨by rw [← h3, upd_ne (Ne.symm nlp)]; exact upd_same, t3⟩
      walk_at "w"
      intro d hd
      walk_at "w"
      have s4 : Same H3 (upd H3 d (.dK [])) := Same.new hd
      refine ⟨p, Cp, dx, _, _, rfl, s4 _ _ hp3, T.c_Part.cl, T.n_notes, lk1, l, rfl, ⟨_, SqL.of (l3.same s4).lst⟩, ?_⟩
      have hord := (hg.perm (pj.map _)).follow (by rw [List.pairwise_map]; exact oj)
      rw [List.pairwise_map] at hord
      refine for_list (xs := refs js) (fun i σ H4 => ∃ kvs v2 v4, σ = [some (.ref p), some (.ref a), v2, some (.ref d), v4] ∧ Same H3 H4 ∧ H4 d = some (.dK kvs) ∧ kvs.length ≤ i ∧
          ∀ z x, valV kvs (Sum.inl z) = some x → ∃ j k, j < i ∧ js[j]? = some k ∧ x = .ref k.1 ∧ k.2.p = z)
        ⟨[], v, none, rfl, s4, upd_same, Nat.le_refl _, fun z x e => by rw [valV_nil] at e; cases e⟩ (fun i σ H4 _ ⟨_, _, _, _, e4, _⟩ => SqL.of (l3.same e4).lst) ?_ ?_
      · rintro i x σ H4 hx ⟨kvs, v2, v4, rfl, e4, hd4, hl4, inv⟩
        obtain ⟨k, hk, rfl⟩ := of_refs hx
        have hi : i < js.length := (List.getElem?_eq_some_iff.mp hk).1
        have hjl : js.length = ks.length := pj.length_eq
        have tk : H4 k.1 = some (.tup [.int k.2.s, .int k.2.e, .int k.2.p]) := e4 _ _ (t3 k (List.mem_of_getElem? hk))
        -- lasts[pitch] = note, behind the test
        walk_at "w"
        refine ⟨d, _, rfl, DGet.k (k := Sum.inl k.2.p) hd4, ?_⟩
        walk_at "w"
        have fin : ∀ H5, H5 = upd H4 d (.dK (putK kvs (Sum.inl k.2.p) (.ref k.1))) → ∃ kvs' v2' v4', [some (V.ref p), some (.ref a), some (.ref k.1), some (.ref d), some (.int k.2.p)] = [some (.ref p), some (.ref a), v2', some (.ref d), v4'] ∧ Same H3 H5 ∧ H5 d = some (.dK kvs') ∧ kvs'.length ≤ i + 1 ∧
            ∀ z x, valV kvs' (Sum.inl z) = some x → ∃ j k, j < i + 1 ∧ js[j]? = some k ∧ x = .ref k.1 ∧ k.2.p = z := by
          rintro H5 rfl
          refine ⟨_, _, _, rfl, Same.mut e4 hd, upd_same, by have := length_putK kvs (Sum.inl k.2.p) (.ref k.1); omega, fun z x e => ?_⟩
          rw [valV_put] at e
          by_cases hz : (Sum.inl z : Key) = Sum.inl k.2.p
          · rw [if_pos hz] at e
            exact ⟨i, k, by omega, hk, (Option.some.inj e).symm, (Sum.inl.inj hz).symm⟩
          · rw [if_neg hz] at e
            obtain ⟨j, k', hj, h⟩ := inv z x e
            exact ⟨j, k', by omega, h⟩
        cases hv : valV kvs (Sum.inl k.2.p) with
        | none =>
          walk_at "w"
          exact ⟨d, _, rfl, DPut.k (k := Sum.inl k.2.p) hd4 (szl (by omega)), fin _ rfl⟩
        | some y =>
          obtain ⟨j, m, hj, hm, rfl, ep⟩ := inv _ _ hv
          have tm : H4 m.1 = some (.tup [.int m.2.s, .int m.2.e, .int m.2.p]) := e4 _ _ (t3 m (List.mem_of_getElem? hm))
          have hlt : m.2.e < k.2.s := pairwise_get hord hj hm hk ep
          walk_at "w"
          refine ⟨d, _, rfl, by rw [← hv]; exact DGet.k (k := Sum.inl k.2.p) hd4, ?_⟩
          walk_at "w"
          refine ifF (by omega) ?_
          walk_at "w"
          exact ⟨d, _, rfl, DPut.k (k := Sum.inl k.2.p) hd4 (szl (by omega)), fin _ rfl⟩
      · rintro σ H4 ⟨kvs, v2, v4, rfl, e4, hd4, hl4, inv⟩
        exact q H4 js pj oj (fun b o nb e => e4 _ _ (k3 b o nb e)) ⟨dx, l, e4 _ _ hp3, l3.same e4⟩
abbrev st_need_part : Stmt := topS 27
theorem sc_need_part : FnScope ["part"] ["part"] (defScope st_need_part) := ⟨rfl, rfl, rfl, by decide +kernel, rfl, by decide +kernel, by decide +kernel⟩

def spNeedPart (C : Addr) : Sp := fun vs H Q _ => ∃ (p : Addr) (ks : List (Addr × Note)), vs = [.ref p] ∧ PartAt C H p ks ∧ Q .non H
theorem ok_need_part (T : Tx K mg Cp) {f : Addr} {fd : FuncData} (F : Fun K "need_part" "need_part" st_need_part f fd) : FnOk P w K mg base (L2.CX P w) 1 f fd ["part"] (spNeedPart Cp) := by
  refine F.okX sc_need_part (fun vs H Q E h => ?_) (fun cdv A outer s H vs Q E hr h => ?_)
  · obtain ⟨p, ks, rfl, _⟩ := h
    rfl
  · obtain ⟨p, ks, rfl, ⟨dx, l, hp, hl⟩, q⟩ := h
    refine ⟨_, PSs.nox (pss_one (ps_if (pt_not (pt_val (pe_callB call_isi (by rfl) T.m_isinstance (by decide +kernel) (pa_cons (pv 0) (pa_cons (pe_glob (v := .ref Cp) (by rfl) T.m_Part rfl) pa_nil))))) (pss_one ps_never) pss_nil)), ?_⟩
    walk_at "w"
    refine w_isi (.own Cp) (T.c_Part.ty hp) T.c_Part.self ?_
    walk_at "w"
    exact q
abbrev st_Part_notes : Stmt := inClass (topS 26) 5
theorem sc_Part_notes : FnScope ["self"] ["self"] (defScope st_Part_notes) := ⟨rfl, rfl, rfl, by decide +kernel, rfl, by decide +kernel, by decide +kernel⟩

def spNotes (C : Addr) : Sp := fun vs H Q _ => ∃ (p : Addr) (ks : List (Addr × Note)), vs = [.ref p] ∧ PartAt C H p ks ∧ ∀ H' l, H l = none → Same H H' → NL H' l ks → Q (.ref l) H'
theorem ok_part_notes (T : Tx K mg Cp) {f : Addr} {fd : FuncData} (F : Fun K "notes" "Part.notes" st_Part_notes f fd) : FnOk P w K mg base (L2.CX P w) 1 f fd ["self"] (spNotes Cp) := by
  refine F.okX sc_Part_notes (fun vs H Q E h => ?_) (fun cdv A outer s H vs Q E hr h => ?_)
  · obtain ⟨p, ks, rfl, _⟩ := h
    rfl
  · obtain ⟨p, ks, rfl, ⟨dx, l, hp, hl⟩, q⟩ := h
    refine ⟨_, PSs.nox (pss_one (ps_ret (pe_callTy (r := rListK K) cr_list (by rfl) T.m_list (by decide +kernel) (pa_cons (pe_fld (X := _) (pv 0) rfl) pa_nil)))), ?_⟩
    walk_at "w"
    refine ⟨p, Cp, dx, _, _, rfl, hp, T.c_Part.cl, T.n_notes, lk1, ?_⟩
    walk_at "w"
    refine ⟨l, _, rfl, .inl (SqL.of hl.lst), fun l2 hn => ?_⟩
    have e1 : Same H (upd H l2 (.lst (refs ks))) := Same.new hn
    exact q _ l2 hn e1 ⟨upd_same, hl.tus.tp (Same.tp e1)⟩
abbrev st_law_cell : Stmt := topS 38
theorem sc_law_cell : FnScope ["script", "k"] ["script", "k"] (defScope st_law_cell) := ⟨rfl, rfl, rfl, by decide +kernel, rfl, by decide +kernel, by decide +kernel⟩

def spCell (K : PySem.W.Frag) : Sp := fun vs H Q _ => ∃ (a : Addr) (ns : List Int) (k : Nat), vs = [.ref a, .int k] ∧ SqL K H a (ns.map V.int) ∧ ∀ c : Int, Q (.int c) H
theorem ok_cell (T : Tx K mg Cp) {f : Addr} {fd : FuncData} (F : Fun K "_law_cell" "_law_cell" st_law_cell f fd) : FnOk P w K mg base (L2.CX P w) 1 f fd ["script", "k"] (spCell K) := by
  refine F.okX sc_law_cell (fun vs H Q E h => ?_) (fun cdv A outer s H vs Q E hr h => ?_)
  · obtain ⟨a, ns, k, rfl, _⟩ := h
    rfl
  · obtain ⟨a, ns, k, rfl, hS, q⟩ := h
    refine ⟨_, PSs.nox (pss_cons (ps_if (pt_cmpR op_lt (pv 1) (pe_callB (r := rLenK K) cr_len (by rfl) T.m_len (by decide +kernel) (pa_cons (pv 0) pa_nil)) (nomark _))
      (pss_one (ps_ret (pe_ix (r := rIxL K) ix_list (pv 0) (pv 1) (fun _ _ => rfl)))) pss_nil)
      (pss_one (ps_ret (pe_op op_add (pe_op op_mul pe_int (pv 1)) pe_int)))), ?_⟩
    walk_at "w"
    refine ⟨a, _, rfl, .inl hS, ?_⟩
    walk_at "w"
    rw [List.length_map]
    refine if2 (fun hk => ?_) (fun hk => ?_)
    · have hk' : k < ns.length := by omega
      walk_at "w"
      refine ⟨a, _, k, .int ns[k], rfl, rfl, hS, atI_nat (by rw [List.getElem?_map, List.getElem?_eq_getElem hk']; rfl), ?_⟩
      exact q _
    · walk_at "w"
      exact q _
abbrev st_law_box : Stmt := topS 39
theorem sc_law_box : FnScope ["cell"] ["cell"] (defScope st_law_box) := ⟨rfl, rfl, rfl, by decide +kernel, rfl, by decide +kernel, by decide +kernel⟩

def spBox : Sp := fun vs H Q _ => ∃ c : Int, vs = [.int c] ∧ ∀ b H', H b = none → Same H H' → Bx H' b 0 → Q (.ref b) H'
theorem ok_box (T : Tx K mg Cp) {f : Addr} {fd : FuncData} (F : Fun K "_law_box" "_law_box" st_law_box f fd) : FnOk P w K mg base (L2.CX P w) 1 f fd ["cell"] spBox := by
  refine F.okX sc_law_box (fun vs H Q E h => ?_) (fun cdv A outer s H vs Q E hr h => ?_)
  · obtain ⟨c, rfl, _⟩ := h
    rfl
  · obtain ⟨c, rfl, q⟩ := h
    refine ⟨_, PSs.nox (pss_one (ps_ret (pe_lst (pa_cons (pe_callB (call_max2 rfl) (by rfl) T.m_max (by decide +kernel) (pa_cons pe_int (pa_cons (pe_op op_sub (pv 0) (pe_op op_pow pe_int pe_int)) pa_nil))) (pa_cons (pe_op op_mod (pv 0) pe_int) (pa_cons pe_int pa_nil)))))), ?_⟩
    walk_at "w"
    refine ⟨_, _, rfl, ?_⟩
    walk_at "w"
    refine ⟨sz 3, fun b hb => ?_⟩
    exact q b _ hb (Same.new hb) ⟨_, _, _, upd_same, by split <;> omega, by omega, by omega, by omega, by omega⟩
abbrev st_law_take : Stmt := topS 40
theorem sc_law_take : FnScope ["box", "many", "digit", "one", "two"] ["box", "many"] (defScope st_law_take) := ⟨rfl, rfl, rfl, by decide +kernel, rfl, by decide +kernel, by decide +kernel⟩

theorem ok_take {f : Addr} {fd : FuncData} (F : Fun K "_law_take" "_law_take" st_law_take f fd) : FnOk P w K mg base (L2.CX P w) 1 f fd ["box", "many"] spTake := by
  refine F.okX sc_law_take (fun vs H Q E h => ?_) (fun cdv A outer s H vs Q E hr h => ?_)
  · obtain ⟨b, m, n, rfl, _⟩ := h
    rfl
  · obtain ⟨b, m, n, rfl, ⟨g, mm, c, hb, g0, m0, m1, c0, c1⟩, p0, p1, hn, q⟩ := h
    refine ⟨_, PSs.nox (pss_cons (ps_if (pt_cmpR op_gt (pe_ix (r := rIxL K) ix_list (pv 0) pe_int (fun _ _ => rfl)) pe_int (nomark _))
      (pss_cons (ps_set (i := 2) sc_law_take.nd rfl (Or.inl rfl) (pe_op op_mod (pe_ix (r := rIxL K) ix_list (pv 0) pe_int (fun _ _ => rfl)) (pv 1)))
      (pss_cons (ps_asg (pe_op op_fdiv (pe_ix (r := rIxL K) ix_list (pv 0) pe_int (fun _ _ => rfl)) (pv 1)) (pg_sub (pv 0) pe_int set_list))
      (pss_one (ps_ret (pv 2))))) pss_nil)
      (pss_cons (ps_asg (pe_op op_add (pe_ix (r := rIxL K) ix_list (pv 0) pe_int (fun _ _ => rfl)) pe_int) (pg_sub (pv 0) pe_int set_list))
      (pss_cons (ps_set (i := 3) sc_law_take.nd rfl (Or.inl rfl) (pe_op op_mod (pe_op op_pow (pe_op op_add (pe_op op_add (pe_ix (r := rIxL K) ix_list (pv 0) pe_int (fun _ _ => rfl)) (pe_op op_mul pe_int (pe_ix (r := rIxL K) ix_list (pv 0) pe_int (fun _ _ => rfl)))) pe_int) pe_int) pe_int))
      (pss_cons (ps_set (i := 4) sc_law_take.nd rfl (Or.inl rfl) (pe_op op_mod (pe_op op_pow (pe_op op_add (pe_op op_add (pe_op op_fdiv (pv 3) pe_int) (pe_op op_mul (pe_op op_mul pe_int (pe_ix (r := rIxL K) ix_list (pv 0) pe_int (fun _ _ => rfl))) (pe_ix (r := rIxL K) ix_list (pv 0) pe_int (fun _ _ => rfl)))) pe_int) pe_int) pe_int))
      (pss_one (ps_ret (pe_op op_mod (pe_op op_add (pe_op op_fdiv (pv 3) pe_int) (pe_op op_mul pe_int (pe_op op_fdiv (pv 4) pe_int))) (pv 1)))))))), ?_⟩
    walk_at "w"
    refine if2 (fun hg => ?_) (fun hg => ?_)
    · walk_at "w"
      have e1 : 0 ≤ g % m := Int.emod_nonneg _ (by omega)
      have e2 : g % m < m := Int.emod_lt_of_pos _ p0
      exact q _ _ e1 e2 (Ex.put hb) ⟨g / m, mm, c, upd_same, Int.ediv_nonneg g0 (by omega), m0, m1, c0, by omega⟩
    · walk_at "w"
      have z1 : (c + 1) * (c + 1) ≤ 1000001 * 1000001 := Int.mul_le_mul (by omega) (by omega) (by omega) (by omega)
      have z0 : 0 ≤ (c + 1) * (c + 1) := Int.mul_nonneg (by omega) (by omega)
      have z2 : 104729 * (c + 1) * (c + 1) = 104729 * ((c + 1) * (c + 1)) := Int.mul_assoc _ _ _
      refine w_I ?_ ?_
      · rw [z2]
        simp only [CPow]
        generalize (c + 1) * (c + 1) = z at z0 z1
        omega
      · walk_at "w"
        refine q _ _ (Int.emod_nonneg _ (by omega)) (Int.emod_lt_of_pos _ p0) (Ex.put hb) ⟨g, mm, c + 1, upd_same, g0, m0, m1, by omega, by omega⟩
abbrev st_law_even : Stmt := topS 41
theorem sc_law_even : FnScope ["told", "due"] ["told", "due"] (defScope st_law_even) := ⟨rfl, rfl, rfl, by decide +kernel, rfl, by decide +kernel, by decide +kernel⟩

/-- equal data with equal texts -/
def spEven (K : PySem.W.Frag) : Sp := fun vs H Q _ => ∃ (x y : V) (d e : PyData), vs = [x, y] ∧ Dp K H x d ∧ Dp K H y e ∧ Fine d ∧ Fine e ∧ Q (.bl (PyData.eqv d e && decide (d.shown = e.shown))) H
theorem spEven_eq {K : PySem.W.Frag} {H : Hp} {Q : VK} {E : XK} {x y : V} {d : PyData} (h1 : Dp K H x d) (h2 : Dp K H y d) (hf : Fine d) (q : Q (.bl true) H) : spEven K [x, y] H Q E :=
  ⟨x, y, d, d, rfl, h1, h2, hf, hf, by rw [SeqAt.eqv_refl d hf.lay, decide_eq_true rfl]; exact q⟩
theorem spEven_eq2 {K : PySem.W.Frag} {H : Hp} {Q : VK} {E : XK} {x y : V} {d : PyData} (h1 : Dp K H x d) (h2 : Dp K H y d) (hf : Fine d) (q : Q (.bl true) H) : spEven K ([x, y] ++ []) H Q E := spEven_eq h1 h2 hf q
theorem okG_even (T : Tx K mg Cp) {f : Addr} {fd : FuncData} (F : Fun K "_law_even" "_law_even" st_law_even f fd) : FnG P w K mg base (L2.CX P w) 1 f fd ["told", "due"] (spEven K) := by
  refine F.okG sc_law_even (fun vs H Q E h => ?_) (fun cdv A hG outer s H vs Q E hr h => ?_)
  · obtain ⟨x, y, d, e, rfl, _⟩ := h
    rfl
  · obtain ⟨x, y, d, e, rfl, h1, h2, f1, f2, q⟩ := h
    refine ⟨_, PSs.nox (pss_one (ps_ret (pe_and (pe_cmpR (r := rEqD K) (op_eqD hr.units) (pv 0) (pv 1) (nomark _)) (pe_one (pe_cmpR op_eq (pe_callB (r := rRepr K) (call_repr hG hr) (by rfl) T.m_repr (by decide +kernel) (pa_cons (pv 0) pa_nil)) (pe_callB (r := rRepr K) (call_repr hG hr) (by rfl) T.m_repr (by decide +kernel) (pa_cons (pv 1) pa_nil)) (nomark _)))))), ?_⟩
    walk_at "w"
    refine ⟨d, e, h1, h2, f1.shaped, f2.shaped, ?_⟩
    walk_at "w"
    cases hb : PyData.eqv d e with
    | false =>
      walk_at "w"
      rw [hb] at q
      exact q
    | true =>
      walk_at "w"
      refine ⟨x, d, rfl, h1, f1, ?_⟩
      walk_at "w"
      refine ⟨y, e, rfl, h2, f2, ?_⟩
      refine w_eqS ?_
      rw [hb, Bool.true_and] at q
      exact q
abbrev st_law_notes : Stmt := topS 42
theorem sc_law_notes : FnScope ["box", "most", "many", "few", "low", "step", "wide", "at", "found", "k", "end", "pitch", "note"] ["box", "most"] (defScope st_law_notes) := ⟨rfl, rfl, rfl, by decide +kernel, rfl, by decide +kernel, by decide +kernel⟩

def spLNotes : Sp := fun vs H Q _ => ∃ (b : Addr) (most n : Nat), vs = [.ref b, .int most] ∧ Bx H b n ∧ 4 ≤ most ∧ most ≤ 60 ∧ n < 100000 ∧
  ∀ (H' : Hp) (p : Addr) (ks : List (Addr × Note)), Ex b H H' → Bx H' b (n + 400) → NL H' p ks → H p = none → (∀ k ∈ ks, H k.1 = none) → (ks.map (·.1)).Nodup → ks.length ≤ most → GoodL (vals ks) → ks.Pairwise (fun x y => x.2.key ≤ y.2.key) → (∀ k ∈ ks, k.2.p ≤ 103 ∧ k.2.e ≤ 9138) → Q (.ref p) H'
theorem ok_notes (T : Tx K mg Cp) (c_law_take : Cal P w K mg base 1 "_law_take" ["box", "many"] spTake) {f : Addr} {fd : FuncData} (F : Fun K "_law_notes" "_law_notes" st_law_notes f fd) : FnOk P w K mg base (L2.CX P w) 2 f fd ["box", "most"] spLNotes := by
  refine F.okX sc_law_notes (fun vs H Q E h => ?_) (fun cdv A outer s H vs Q E hr h => ?_)
  · obtain ⟨b, most, n, rfl, _⟩ := h
    rfl
  · obtain ⟨b, most, n, rfl, hb, m4, m60, hn, q⟩ := h
    refine ⟨_, PSs.nox (pss_cons (ps_set (i := 2) sc_law_notes.nd rfl (Or.inl rfl) (pe_ix (r := rIxL K) ix_list (pe_lst (pa_cons (pv 1) (pa_cons (pv 1) (pa_cons (pe_cal c_law_take hr passL (pa_cons (pv 0) (pa_cons (pe_op op_add (pv 1) pe_int) pa_nil))) (pa_cons (pe_cal c_law_take hr passL (pa_cons (pv 0) (pa_cons pe_int pa_nil))) pa_nil))))) (pe_cal c_law_take hr passL (pa_cons (pv 0) (pa_cons pe_int pa_nil))) (fun _ _ => rfl)))
      (pss_cons (ps_set (i := 3) sc_law_notes.nd rfl (Or.inl rfl) (pe_ix (r := rIxL K) ix_list (pe_lst (pa_cons (pe_op op_add pe_int (pe_cal c_law_take hr passL (pa_cons (pv 0) (pa_cons pe_int pa_nil)))) (pa_cons pe_int (pa_cons pe_int (pa_cons (pe_op op_add pe_int (pe_cal c_law_take hr passL (pa_cons (pv 0) (pa_cons pe_int pa_nil)))) pa_nil))))) (pe_cal c_law_take hr passL (pa_cons (pv 0) (pa_cons pe_int pa_nil))) (fun _ _ => rfl)))
      (pss_cons (ps_par (i := 4) (j := 5) (by rfl) sc_law_notes.nd rfl rfl (by decide) rfl rfl (pa_cons (pe_cal c_law_take hr passL (pa_cons (pv 0) (pa_cons pe_int pa_nil))) (pa_cons (pe_op op_add pe_int (pe_cal c_law_take hr passL (pa_cons (pv 0) (pa_cons pe_int pa_nil)))) pa_nil)) (by rfl))
      (pss_cons (ps_set (i := 6) sc_law_notes.nd rfl (Or.inl rfl) (pe_ix (r := rIxL K) ix_list (pe_lst (pa_cons pe_int (pa_cons pe_int (pa_cons pe_int (pa_cons pe_int pa_nil))))) (pe_cal c_law_take hr passL (pa_cons (pv 0) (pa_cons pe_int pa_nil))) (fun _ _ => rfl)))
      (pss_cons (ps_set (i := 7) sc_law_notes.nd rfl (Or.inr rfl) (pe_ix (r := rIxL K) ix_list (pe_lst (pa_cons pe_int (pa_cons (pe_cal c_law_take hr passL (pa_cons (pv 0) (pa_cons pe_int pa_nil))) pa_nil))) (pe_cal c_law_take hr passL (pa_cons (pv 0) (pa_cons pe_int pa_nil))) (fun _ _ => rfl)))
      (pss_cons (ps_set (i := 8) sc_law_notes.nd rfl (Or.inl rfl) (pe_lst pa_nil))
      (pss_cons (ps_for PassesOwn.never (by rfl) (pi_range1 (by rfl) T.m_range (pa_cons (pv 2) pa_nil)) (pg_name (i := 9) sc_law_notes.nd rfl (Or.inl rfl))
      (pss_cons (ps_set (i := 7) sc_law_notes.nd rfl (Or.inr rfl) (pe_op op_add (pv 7) (pe_cal c_law_take hr passL (pa_cons (pv 0) (pa_cons (pv 6) pa_nil)))))
      (pss_cons (ps_set (i := 10) sc_law_notes.nd rfl (Or.inl rfl) (pe_op op_add (pv 7) (pe_ix (r := rIxL K) ix_list (pe_lst (pa_cons pe_int (pa_cons pe_int (pa_cons (pe_cal c_law_take hr passL (pa_cons (pv 0) (pa_cons pe_int pa_nil))) (pa_cons (pe_cal c_law_take hr passL (pa_cons (pv 0) (pa_cons (pv 6) pa_nil))) pa_nil))))) (pe_cal c_law_take hr passL (pa_cons (pv 0) (pa_cons pe_int pa_nil))) (fun _ _ => rfl))))
      (pss_cons (ps_set (i := 11) sc_law_notes.nd rfl (Or.inr rfl) (pe_op op_add (pv 4) (pe_op op_mul (pv 5) (pe_cal c_law_take hr passL (pa_cons (pv 0) (pa_cons (pv 3) pa_nil))))))
      (pss_one (ps_if (pt_cmpR (r := rEqD K) (op_eqD hr.units) (pe_lc (own := [("note", 12)]) (g := gName 12) (by rfl) sc_law_notes.nd (pi_list (pv 8)) (blkOk_by (own := [("note", 12)]) (N := ["box", "most", "many", "few", "low", "step", "wide", "at", "found", "k", "end", "pitch", "note"]) (sc := defScope st_law_notes) (by decide +kernel)) (fun _ _ _ _ _ => pg_name (i := 12) sc_law_notes.nd rfl (Or.inl rfl)) (fun _ _ _ _ _ => (pts_one (PW.pt (pw_and (pt_cmpR op_eq (pe_ix (r := rIxT K) ix_tup (pv 12) pe_int (fun _ _ => rfl)) (pv 11) (nomark _)) (pw_and1 (pt_cmpR op_ge (pe_ix (r := rIxT K) ix_tup (pv 12) pe_int (fun _ _ => rfl)) (pv 7) (nomark _))))))) (fun _ _ _ _ _ => (pv 12))) (pe_lst pa_nil) (nomark _))
      (pss_one (ps_expr (pe_bm PySem.F.plainAttrs_list PySem.F.slot_list_append PySem.F.type_list_append mt_append (pv 8) (pa_cons (pe_tup (pa_cons (pv 7) (pa_cons (pv 10) (pa_cons (pv 11) pa_nil)))) pa_nil)))) pss_nil))))))
      (pss_one (ps_ret (pe_callB cr_sort3 (by rfl) T.m_sorted (by decide +kernel) (pa_cons (pv 8) pa_nil))))))))))), ?_⟩
    -- many
    walk_at "w"
    refine ⟨b, _, n, rfl, hb, by omega, by omega, by omega, fun r1 H1 r10 r11 x1 b1 => ?_⟩
    walk_at "w"
    refine ⟨b, _, _, rfl, b1, by omega, by omega, by omega, fun r2 H2 r20 r21 x2 b2 => ?_⟩
    walk_at "w"
    refine ⟨sz 4, fun l1 hl1 => ?_⟩
    walk_at "w"
    refine ⟨b, _, _, rfl, b2.new hl1, by omega, by omega, by omega, fun r3 H3 r30 r31 x3 b3 => ?_⟩
    refine w_pickI (ns := [most, most, r1, r2]) (x3.at_ _ _ ((b2.ne hl1)) upd_same) r30 r31 fun many hmany => ?_
    have many60 : 0 ≤ many ∧ many ≤ 60 ∧ many ≤ most := by simp only [List.mem_cons, List.not_mem_nil, or_false] at hmany; omega
    have y3 : Ex b H H3 := ((x1.trans x2).new hl1).trans x3
    -- few
    walk_at "w"
    refine ⟨b, _, _, rfl, b3, by omega, by omega, by omega, fun r4 H4 r40 r41 x4 b4 => ?_⟩
    walk_at "w"
    refine ⟨b, _, _, rfl, b4, by omega, by omega, by omega, fun r5 H5 r50 r51 x5 b5 => ?_⟩
    walk_at "w"
    refine ⟨sz 4, fun l2 hl2 => ?_⟩
    walk_at "w"
    refine ⟨b, _, _, rfl, b5.new hl2, by omega, by omega, by omega, fun r6 H6 r60 r61 x6 b6 => ?_⟩
    refine w_pickI (ns := [1 + r4, 3, 6, 1 + r5]) (x6.at_ _ _ ((b5.ne hl2)) upd_same) r60 r61 fun few hfew => ?_
    have few12 : 1 ≤ few ∧ few ≤ 12 := by simp only [List.mem_cons, List.not_mem_nil, or_false] at hfew; omega
    have y6 : Ex b H H6 := ((y3.trans (x4.trans x5)).new hl2).trans x6
    -- low, step
    walk_at "w"
    refine ⟨b, _, _, rfl, b6, by omega, by omega, by omega, fun low H7 low0 low1 x7 b7 => ?_⟩
    walk_at "w"
    refine ⟨b, _, _, rfl, b7, by omega, by omega, by omega, fun st H8 st0 st1 x8 b8 => ?_⟩
    -- wide
    walk_at "w"
    refine ⟨sz 4, fun l3 hl3 => ?_⟩
    walk_at "w"
    refine ⟨b, _, _, rfl, b8.new hl3, by omega, by omega, by omega, fun r9 H9 r90 r91 x9 b9 => ?_⟩
    refine w_pickI (ns := [3, 8, 20, 150]) (x9.at_ _ _ ((b8.ne hl3)) upd_same) r90 r91 fun wide hwide => ?_
    have wide150 : 3 ≤ wide ∧ wide ≤ 150 := by simp only [List.mem_cons, List.not_mem_nil, or_false] at hwide; omega
    have y9 : Ex b H H9 := ((y6.trans (x7.trans x8)).new hl3).trans x9
    -- at
    walk_at "w"
    refine ⟨b, _, _, rfl, b9, by omega, by omega, by omega, fun ra Ha ra0 ra1 xa ba => ?_⟩
    walk_at "w"
    refine ⟨sz 2, fun l4 hl4 => ?_⟩
    walk_at "w"
    refine ⟨b, _, _, rfl, ba.new hl4, by omega, by omega, by omega, fun rb Hb rb0 rb1 xb bb => ?_⟩
    refine w_pickI (ns := [0, ra]) (xb.at_ _ _ ((ba.ne hl4)) upd_same) rb0 rb1 fun at0 hat0 => ?_
    have at050 : 0 ≤ at0 ∧ at0 ≤ 49 := by simp only [List.mem_cons, List.not_mem_nil, or_false] at hat0; omega
    have yb : Ex b H Hb := ((y9.trans xa).new hl4).trans xb
    -- found
    walk_at "w"
    refine ⟨sz 0, fun l hl => ?_⟩
    walk_at "w"
    refine ⟨many, rfl, by omega, by omega, ?_⟩
    have lb : l ≠ b := bb.ne hl
    have hl0 : H l = none := yb.free lb hl
    refine for_range (fun i σ H' => Ex b H H' ∧ Bx H' b (n + 11 + 5 * i) ∧ ∃ (ks : List (Addr × Note)) (at_ : Int) (v9 v10 v11 : Option V), σ = [some (.ref b), some (.int most), some (.int many), some (.int few), some (.int low), some (.int (1 + st)), some (.int wide), some (.int at_), some (.ref l), v9, v10, v11, none] ∧
        NL H' l ks ∧ (∀ k ∈ ks, H k.1 = none) ∧ (ks.map (·.1)).Nodup ∧ ks.length ≤ i ∧ GoodL (vals ks) ∧ 0 ≤ at_ ∧ at_ ≤ 49 + 149 * i ∧ ∀ k ∈ ks, k.2.p ≤ 103 ∧ k.2.e ≤ 9138)
      ⟨yb.new hl, (bb.new hl).le (by omega), [], at0, none, none, none, rfl, ⟨upd_same, Tus.nil⟩, fun k hk => absurd hk (by simp), List.nodup_nil, Nat.le_refl _, ⟨fun n hn => absurd hn (by simp), List.Pairwise.nil⟩, by omega, by omega, fun k hk => absurd hk (by simp)⟩ ?_ ?_
    · rintro i σ H' hi ⟨y, bx, ks, at_, v9, v10, v11, rfl, nl, fr, nd, kl, gl, a0, a1, bd⟩
      have i60 : i < 60 := by omega
      walk_at "w"
      refine ⟨b, _, _, rfl, bx, by omega, by omega, by omega, fun s1 G1 s10 s11 z1 c1 => ?_⟩
      walk_at "w"
      refine ⟨b, _, _, rfl, c1, by omega, by omega, by omega, fun s2 G2 s20 s21 z2 c2 => ?_⟩
      walk_at "w"
      refine ⟨b, _, _, rfl, c2, by omega, by omega, by omega, fun s3 G3 s30 s31 z3 c3 => ?_⟩
      walk_at "w"
      refine ⟨sz 4, fun l5 hl5 => ?_⟩
      walk_at "w"
      refine ⟨b, _, _, rfl, c3.new hl5, by omega, by omega, by omega, fun s4 G4 s40 s41 z4 c4 => ?_⟩
      refine w_pickI (ns := [0, 0, s2, s3]) (z4.at_ _ _ ((c3.ne hl5)) upd_same) s40 s41 fun long hlong => ?_
      have long150 : 0 ≤ long ∧ long ≤ 149 := by simp only [List.mem_cons, List.not_mem_nil, or_false] at hlong; omega
      walk_at "w"
      refine ⟨b, _, _, rfl, c4, by omega, by omega, by omega, fun s5 G5 s50 s51 z5 c5 => ?_⟩
      have st4 : (1 + st) * s5 ≤ 4 * 11 := Int.mul_le_mul (by omega) (by omega) (by omega) (by omega)
      have st0 : 0 ≤ (1 + st) * s5 := Int.mul_nonneg (by omega) (by omega)
      generalize hprod : (1 + st) * s5 = pr at st4 st0
      walk_at "w"
      rw [hprod]
      walk_at "w"
      have zz : Ex b H' G5 := (((z1.trans (z2.trans z3)).new hl5).trans z4).trans z5
      have nl5 : NL G5 l ks := nl.ex bx zz
      have lb' : l ≠ b := lb
      -- the comprehension
      refine ⟨l, rfl, ⟨_, SqL.of nl5.lst⟩, fun D hD => lc_pure (xs := refs ks) (fun j => (ks[j]?).bind fun k => if k.2.p = low + pr ∧ at_ + s1 ≤ k.2.e then some (.ref k.1) else none) (SqL.of nl5.lst) hD (by rw [refs_length]; omega) ?_ ?_⟩
      · intro j x H6 hx e6 N M hN hM
        obtain ⟨k, hk, rfl⟩ := of_refs hx
        have tk : H6 k.1 = some (.tup [.int k.2.s, .int k.2.e, .int k.2.p]) := e6 _ _ (nl5.tus k (List.mem_of_getElem? hk))
        walk_at "w"
        refine ⟨rfl, ?_⟩
        walk_at "w"
        refine if2 (fun h1 => ?_) (fun h1 => ?_)
        · walk_at "w"
          refine if2 (fun h2 => ?_) (fun h2 => ?_)
          · walk_at "w"
            refine hN _ _ ?_ (Same.refl _)
            rw [hk]
            exact if_pos ⟨h1, h2⟩
          · walk_at "w"
            refine hM _ ?_ (Same.refl _)
            rw [hk]
            exact if_neg (fun z => h2 z.2)
        · walk_at "w"
          refine hM _ ?_ (Same.refl _)
          rw [hk]
          exact if_neg (fun z => h1 z.1)
      · intro H6 e6 hD6
        walk_at "w"
        refine ⟨sz 0, fun l6 hl6 => ?_⟩
        rw [refs_length, range_bind, refs_filter] at hD6
        have s7 : Same H6 (upd H6 l6 (.lst [])) := Same.new hl6
        generalize hH7 : upd H6 l6 (.lst []) = H7 at s7
        have tl7 := TL.filter ((nl5.same (e6.trans s7)).tus) (s7 _ _ hD6)
        refine w_eqRows tl7 (by rw [← hH7]; exact upd_same) (fun _ => rfl) ?_
        have e7 : Ex b H H7 := (y.trans zz).trans (Ex.of (e6.trans s7))
        have bx7 : Bx H7 b (n + 11 + 5 * (i + 1)) := ((c5.same (e6.trans s7))).le (by omega)
        have nl7 : NL H7 l ks := nl5.same (e6.trans s7)
        cases hem : (ks.filter fun k => decide (k.2.p = low + pr ∧ at_ + s1 ≤ k.2.e)) with
        | cons x r =>
          walk_at "w"
          exact ⟨e7, bx7, ks, _, _, _, _, rfl, nl7, fr, nd, by omega, gl, by omega, by omega, bd⟩
        | nil =>
          walk_at "w"
          refine iteT ?_
          walk_at "w"
          refine ⟨.inl ⟨rfl, _, SqL.of nl7.lst⟩, ?_⟩
          walk_at "w"
          refine ⟨sz 3, fun t ht => ?_⟩
          walk_at "w"
          have s8 : Same H7 (upd H7 t (.tup [.int (at_ + s1), .int (at_ + s1 + long), .int (low + pr)])) := Same.new ht
          have tl : l ≠ t := ne_of_none nl7.lst ht
          have tb : t ≠ b := bx7.ne ht
          refine w_app (s8 _ _ nl7.lst) (by rw [refs_length]; omega) ?_
          have hno : ∀ k ∈ ks, k.2.p = low + pr → k.2.e < at_ + s1 := fun k hk e => by
            have h := List.filter_eq_nil_iff.mp hem k hk
            have h' := of_decide_eq_false (by simpa using h : decide (k.2.p = low + pr ∧ at_ + s1 ≤ k.2.e) = false)
            have : ¬ at_ + s1 ≤ k.2.e := fun z => h' ⟨e, z⟩
            omega
          have ht0 : H t = none := e7.free tb ht
          refine ⟨(e7.trans (Ex.of s8)).mut hl0, (bx7.same s8).put lb, ks ++ [(t, ⟨at_ + s1, at_ + s1 + long, low + pr⟩)], _, _, _, _, rfl, ⟨by rw [upd_same, refs_append]; rfl, ?_⟩, ?_, ?_, by rw [List.length_append, List.length_singleton]; omega, ?_, by omega, by omega, ?_⟩
          · have tp8 : Tp H7 (upd (upd H7 t (.tup [.int (at_ + s1), .int (at_ + s1 + long), .int (low + pr)])) l (.lst (refs ks ++ [.ref t]))) := fun a xs e => by
              rw [upd_ne (fun z => by rw [z, nl7.lst] at e; cases e)]
              exact s8 _ _ e
            refine Tus.append (nl7.tus.tp tp8) ?_
            show (upd (upd H7 t _) l _) t = _
            rw [upd_ne (Ne.symm tl), upd_same]
            rfl
          · intro k hk
            rcases List.mem_append.mp hk with hk | hk
            · exact fr k hk
            · rw [List.mem_singleton.mp hk]
              exact ht0
          · rw [List.map_append, List.nodup_append]
            refine ⟨nd, by simp, fun a ha c hc => ?_⟩
            obtain ⟨k, hk, rfl⟩ := List.mem_map.mp ha
            rw [List.map_cons, List.map_nil, List.mem_singleton] at hc
            rw [hc]
            exact ne_of_none (nl7.tus k hk) ht
          · rw [vals_append]
            refine gl.snoc ⟨?_, ?_, ?_, ?_, ?_⟩ ?_
            · show 0 ≤ at_ + s1; omega
            · show at_ + s1 ≤ at_ + s1 + long; omega
            · show at_ + s1 + long ≤ 9999; omega
            · show 0 ≤ low + pr; omega
            · show low + pr ≤ 119; omega
            · intro m hm e
              obtain ⟨k, hk, rfl⟩ := mem_vals hm
              exact hno k hk e
          · intro k hk
            rcases List.mem_append.mp hk with hk | hk
            · exact bd k hk
            · rw [List.mem_singleton.mp hk]
              refine ⟨?_, ?_⟩
              · show low + pr ≤ 103; omega
              · show at_ + s1 + long ≤ 9138; omega
    · rintro σ H' ⟨y, bx, ks, at_, v9, v10, v11, rfl, nl, fr, nd, kl, gl, a0, a1, bd⟩
      walk_at "w"
      refine ⟨l, ks, rfl, nl, by omega, fun k hk => gl.ok _ (List.mem_map_of_mem hk), fun js p pj oj hp => ?_⟩
      have pb : p ≠ b := bx.ne hp
      have sp := Same.new (o := .lst (refs js)) hp
      refine q _ p js (y.new hp) ((bx.new hp).le (by omega)) ⟨upd_same, fun k hk => sp _ _ (nl.tus k (pj.mem_iff.mp hk))⟩ (y.free pb hp) (fun k hk => fr k (pj.mem_iff.mp hk)) ((pj.map _).nodup_iff.mpr nd) (by rw [pj.length_eq]; omega) (gl.perm (pj.map _)) oj (fun k hk => bd k (pj.mem_iff.mp hk))
abbrev st_law_pitches : Stmt := topS 43
theorem sc_law_pitches : FnScope ["notes", "found", "note"] ["notes"] (defScope st_law_pitches) := ⟨rfl, rfl, rfl, by decide +kernel, rfl, by decide +kernel, by decide +kernel⟩

def spPitches : Sp := fun vs H Q _ => ∃ (a : Addr) (ks : List (Addr × Note)), vs = [.ref a] ∧ NL H a ks ∧ ks.length ≤ 60 ∧
  ∀ (H' : Hp) (p : Addr) (bs : List Int), Same H H' → H p = none → H' p = some (.lst (bs.map V.int)) → IsPitches (vals ks) bs → bs.length ≤ ks.length → Q (.ref p) H'
theorem ok_pitches (T : Tx K mg Cp) {f : Addr} {fd : FuncData} (F : Fun K "_law_pitches" "_law_pitches" st_law_pitches f fd) : FnOk P w K mg base (L2.CX P w) 1 f fd ["notes"] spPitches := by
  refine F.okX sc_law_pitches (fun vs H Q E h => ?_) (fun cdv A outer s H vs Q E hr h => ?_)
  · obtain ⟨a, ks, rfl, _⟩ := h
    rfl
  · obtain ⟨a, ks, rfl, hl, h60, q⟩ := h
    refine ⟨_, PSs.nox (pss_cons (ps_set (i := 1) sc_law_pitches.nd rfl (Or.inl rfl) (pe_lst pa_nil))
      (pss_cons (ps_for PassesOwn.never (by rfl) (pi_list (pv 0)) (pg_name (i := 2) sc_law_pitches.nd rfl (Or.inl rfl))
      (pss_one (ps_if (pt_cmpR (r := rIn K true) op_notIn_seq (pe_ix (r := rIxT K) ix_tup (pv 2) pe_int (fun _ _ => rfl)) (pv 1) (by rfl))
      (pss_one (ps_expr (pe_bm PySem.F.plainAttrs_list PySem.F.slot_list_append PySem.F.type_list_append mt_append (pv 1) (pa_cons (pe_ix (r := rIxT K) ix_tup (pv 2) pe_int (fun _ _ => rfl)) pa_nil)))) pss_nil)))
      (pss_one (ps_ret (pe_callB (r := rSorted K) cr_sorted (by rfl) T.m_sorted (by decide +kernel) (pa_cons (pv 1) pa_nil)))))), ?_⟩
    walk_at "w"
    refine ⟨sz 0, fun l hn => ?_⟩
    walk_at "w"
    refine ⟨a, rfl, ⟨_, SqL.of (hl.same (Same.new hn)).lst⟩, for_list (xs := refs ks) (fun i σ H' => Same H H' ∧ ∃ (fs : List Int) (v2 : Option V), σ = [some (.ref a), some (.ref l), v2] ∧ H' l = some (.lst (fs.map V.int)) ∧ fs.Nodup ∧ fs.length ≤ i ∧
        ∀ x, x ∈ fs ↔ ∃ n ∈ (vals ks).take i, n.p = x)
      ⟨Same.new hn, [], none, rfl, upd_same, List.nodup_nil, Nat.le_refl _, fun x => ⟨fun h => absurd h (by simp), fun ⟨n, h, _⟩ => absurd h (by simp)⟩⟩ (fun i σ H' _ ⟨e, _⟩ => SqL.of (hl.same e).lst) ?_ ?_⟩
    · rintro i x σ H' hx ⟨e, fs, v2, rfl, hf, nd, fl, fm⟩
      obtain ⟨k, hk, rfl⟩ := of_refs hx
      have hi : i < ks.length := (List.getElem?_eq_some_iff.mp hk).1
      have tk : H' k.1 = some (.tup [.int k.2.s, .int k.2.e, .int k.2.p]) := e _ _ (hl.tus k (List.mem_of_getElem? hk))
      have step := fun x => mem_take_succ (vals_get hk) (fun n => n.p = x)
      walk_at "w"
      refine w_ninI hf ?_
      walk_at "w"
      refine ifN2 (fun h3 => ?_) (fun h3 => ?_)
      · walk_at "w"
        refine ⟨.inl ⟨rfl, _, SqL.of hf⟩, ?_⟩
        walk_at "w"
        refine w_app hf (by rw [List.length_map]; omega) ?_
        refine ⟨Same.mut e hn, fs ++ [k.2.p], _, rfl, by rw [upd_same, List.map_append]; rfl, nodup_snoc nd h3, by rw [List.length_append, List.length_singleton]; omega, fun x => ?_⟩
        rw [step, ← fm, List.mem_append, List.mem_singleton]
        exact ⟨fun z => z.imp id fun z => z.symm, fun z => z.imp id fun z => z.symm⟩
      · walk_at "w"
        refine ⟨e, fs, _, rfl, hf, nd, by omega, fun x => ?_⟩
        rw [step, ← fm]
        exact ⟨.inl, fun z => z.elim id fun z => z ▸ h3⟩
    · rintro σ H' ⟨e, fs, v2, rfl, hf, nd, fl, fm⟩
      rw [refs_length] at fl fm
      walk_at "w"
      refine ⟨l, fs, rfl, SqL.of hf, by omega, fun bs p pb sb hp => ?_⟩
      refine q _ p bs (e.trans (Same.new hp)) (Same.fresh e hp) upd_same ⟨sd_of pb nd sb, fun x => ?_⟩ (by rw [pb.length_eq]; exact fl)
      rw [pb.mem_iff, fm, List.take_of_length_le (by rw [vals_length]; exact Nat.le_refl _)]
abbrev st_is_drum : Stmt := topS 30
theorem sc_is_drum : FnScope ["value", "drums"] ["value", "drums"] (defScope st_is_drum) := ⟨rfl, rfl, rfl, by decide +kernel, rfl, by decide +kernel, by decide +kernel⟩

def spDrum : Sp := fun vs H Q _ => ∃ v d : Int, vs = [.int v, .int d] ∧ 1 ≤ v ∧ v ≤ d ∧ Q (.bl true) H
theorem ok_is_drum (T : Tx K mg Cp) (c_is_integer : Cal P w K mg base 1 "is_integer" ["value", "low", "high"] (spInt K)) {f : Addr} {fd : FuncData} (F : Fun K "is_drum" "is_drum" st_is_drum f fd) : FnOk P w K mg base (L2.CX P w) 2 f fd ["value", "drums"] spDrum := by
  refine F.okX sc_is_drum (fun vs H Q E h => ?_) (fun cdv A outer s H vs Q E hr h => ?_)
  · obtain ⟨v, d, rfl, _⟩ := h
    rfl
  · obtain ⟨v, d, rfl, h1, h2, q⟩ := h
    refine ⟨_, PSs.nox (pss_one (ps_ret (pe_cal c_is_integer hr passL (pa_cons (pv 0) (pa_cons pe_int (pa_cons (pv 1) pa_nil)))))), ?_⟩
    walk_at "w"
    exact spInt_in h1 h2 q
abbrev st_need_drums : Stmt := topS 31
theorem sc_need_drums : FnScope ["drums"] ["drums"] (defScope st_need_drums) := ⟨rfl, rfl, rfl, by decide +kernel, rfl, by decide +kernel, by decide +kernel⟩

def spNeedDrums : Sp := fun vs H Q _ => ∃ v : Int, vs = [.int v] ∧ 1 ≤ v ∧ v ≤ 12 ∧ Q .non H
theorem ok_need_drums (T : Tx K mg Cp) (m_MOST_DRUMS : ∃ t, mg "MOST_DRUMS" = some (.int 12 t)) (c_is_drum : Cal P w K mg base 2 "is_drum" ["value", "drums"] spDrum) {f : Addr} {fd : FuncData} (F : Fun K "need_drums" "need_drums" st_need_drums f fd) : FnOk P w K mg base (L2.CX P w) 3 f fd ["drums"] spNeedDrums := by
  refine F.okX sc_need_drums (fun vs H Q E h => ?_) (fun cdv A outer s H vs Q E hr h => ?_)
  · obtain ⟨v, rfl, _⟩ := h
    rfl
  · obtain ⟨v, rfl, h1, h2, q⟩ := h
    refine ⟨_, PSs.nox (pss_one (ps_if (pt_not (pt_val (pe_cal c_is_drum hr passL (pa_cons (pv 0) (pa_cons (pe_globI (by rfl) m_MOST_DRUMS) pa_nil)))))
      (pss_one ps_never) pss_nil)), ?_⟩
    walk_at "w"
    refine ⟨v, 12, rfl, h1, h2, ?_⟩
    walk_at "w"
    exact q
abbrev st_nearest : Stmt := topS 33
theorem sc_nearest : FnScope ["notes", "at", "firsts", "by", "other"] ["notes", "at"] (defScope st_nearest) := ⟨rfl, rfl, rfl, by decide +kernel, rfl, by decide +kernel, by decide +kernel⟩

def spNearest : Sp := fun vs H Q _ => ∃ (a : Addr) (ks : List (Addr × Note)) (at_ : Nat) (k : Addr × Note), vs = [.ref a, .int at_] ∧ NL H a ks ∧ ks[at_]? = some k ∧ ks.length ≤ 60 ∧ (∀ k ∈ ks, k.2.ok) ∧ ks.Pairwise (fun x y => x.2.key ≤ y.2.key) ∧
  ∀ H' p rs, Same H H' → TL pl H' p rs → NR (vals ks) at_ (vals rs) → Q (.ref p) H'
theorem ok_nearest (T : Tx K mg Cp) {f : Addr} {fd : FuncData} (F : Fun K "nearest" "nearest" st_nearest f fd) : FnOk P w K mg base (L2.CX P w) 1 f fd ["notes", "at"] spNearest := by
  refine F.okX sc_nearest (fun vs H Q E h => ?_) (fun cdv A outer s H vs Q E hr h => ?_)
  · obtain ⟨a, ks, at_, k, rfl, _⟩ := h
    rfl
  · obtain ⟨a, ks, at_, k, rfl, hl, hk, h60, hok, hord, q⟩ := h
    refine ⟨_, PSs.nox (pss_cons (ps_set (i := 2) sc_nearest.nd rfl (Or.inl rfl) (pe_disp (pps_cons (pe_ix (r := rIxT K) ix_tup (pe_ix (r := rIxL K) ix_list (pv 0) (pv 1) (fun _ _ => rfl)) pe_int (fun _ _ => rfl)) (pv 1) pps_nil) (by rfl) (by rfl) (fun z => by cases z) (by decide)))
      (pss_cons (ps_for PassesOwn.never (by rfl) (pi_enum (by rfl) T.m_enumerate (pa_cons (pv 0) pa_nil)) (pg_tup (by rfl) (pgs_cons (pg_name (i := 3) sc_nearest.nd rfl (Or.inl rfl)) (pgs_cons (pg_name (i := 4) sc_nearest.nd rfl (Or.inl rfl)) pgs_nil)))
      (pss_one (ps_if (PW.pt (pw_and (pt_cmpR op_ge (pe_ix (r := rIxT K) ix_tup (pv 4) pe_int (fun _ _ => rfl)) (pe_ix (r := rIxT K) ix_tup (pe_ix (r := rIxL K) ix_list (pv 0) (pv 1) (fun _ _ => rfl)) pe_int (fun _ _ => rfl)) (nomark _)) (pw_and1 (pt_cmp (pc_dnotin (hu_of hr) (pe_ix (r := rIxT K) ix_tup (pv 4) pe_int (fun _ _ => rfl)) (pv 2)) (by rfl)))))
      (pss_one (ps_dput (hu_of hr) (pv 2) (pe_ix (r := rIxT K) ix_tup (pv 4) pe_int (fun _ _ => rfl)) (pv 3) rfl)) pss_nil)))
      (pss_one (ps_ret (pe_callB cr_sort2 (by rfl) T.m_sorted (by decide +kernel) (pa_cons (pe_lock (pe_lc (own := [("by", 3)]) (g := gName 3) (by rfl) sc_nearest.nd (pi_values (pv 2)) (blkOk_by (own := [("by", 3)]) (N := ["notes", "at", "firsts", "by", "other"]) (sc := defScope st_nearest) (by decide +kernel)) (fun _ _ _ _ _ => pg_name (i := 3) sc_nearest.nd rfl (Or.inl rfl)) (fun _ _ _ _ _ => (pts_one (pt_cmpR op_ne (pv 3) (pv 1) (nomark _)))) (fun _ _ _ _ _ => (pe_tup (pa_cons (pe_ix (r := rIxT K) ix_tup (pe_ix (r := rIxL K) ix_list (pv 0) (pv 3) (fun _ _ => rfl)) pe_int (fun _ _ => rfl)) (pa_cons (pv 3) pa_nil)))))) pa_nil)))))), ?_⟩
    have hkm : k ∈ ks := List.mem_of_getElem? hk
    have hat : at_ < ks.length := (List.getElem?_eq_some_iff.mp hk).1
    walk_at "w"
    -- firsts = {notes[at][2]: at}
    intro d hd
    have s1 : Same H (upd H d (.dK [])) := Same.new hd
    have tk1 : (upd H d (.dK [])) k.1 = some (.tup [.int k.2.s, .int k.2.e, .int k.2.p]) := s1 _ _ (hl.tus k hkm)
    walk_at "w"
    refine w_ixN (hl.same s1).lst (refs_get hk) ?_
    walk_at "w"
    refine ⟨upd_same, [(Sum.inl k.2.p, .int at_)], rfl, by simp, ?_⟩
    generalize h2 : upd (upd H d (.dK [])) d (.dK (mergeK [] [(Sum.inl k.2.p, V.int at_)])) = H2
    have hd2 : H2 d = some (.dK (kd [(k.2.p, at_)])) := by rw [← h2]; exact upd_same
    have s2 : Same H H2 := by rw [← h2]; exact Same.mut s1 hd
    walk_at "w"
    -- for by, other in enumerate(notes)
    refine ⟨a, _, rfl, SqL.of (hl.same s2).lst, for_enum (xs := refs ks) (fun i σ H' => Same H H' ∧ ∃ L v3 v4, σ = [some (.ref a), some (.int at_), some (.ref d), v3, v4] ∧ H' d = some (.dK (kd L)) ∧ L.length ≤ i + 1 ∧ Fst (vals ks) at_ k.2.p k.2.e i L)
      ⟨s2, _, none, none, rfl, hd2, Nat.le_refl _, Fst.start⟩ (fun i σ H' _ ⟨e, _⟩ => SqL.of (hl.same e).lst) ?_ ?_⟩
    · rintro i x T σ H3 hx ⟨e3, L, v3, v4, rfl, hd3, hL, fs⟩ hT
      obtain ⟨m, hm, rfl⟩ := of_refs hx
      have hi : i < ks.length := (List.getElem?_eq_some_iff.mp hm).1
      generalize h4 : upd H3 T (.tup [.int (i : Nat), .ref m.1]) = H4
      have s34 : Same H3 H4 := by rw [← h4]; exact Same.new hT
      have e4 : Same H H4 := e3.trans s34
      have hT4 : H4 T = some (.tup [.int (i : Nat), .ref m.1]) := by rw [← h4]; exact upd_same
      have tm : H4 m.1 = some (.tup [.int m.2.s, .int m.2.e, .int m.2.p]) := e4 _ _ (hl.tus m (List.mem_of_getElem? hm))
      have tk : H4 k.1 = some (.tup [.int k.2.s, .int k.2.e, .int k.2.p]) := e4 _ _ (hl.tus k hkm)
      have hd4 : H4 d = some (.dK (kd L)) := s34 _ _ hd3
      have hmn : (vals ks)[i]? = some m.2 := by rw [List.getElem?_map, hm]; rfl
      walk_at "w"
      refine w_gtup hT4 rfl ?_
      walk_at "w"
      refine w_ixN (hl.same e4).lst (refs_get hk) ?_
      walk_at "w"
      refine if2 (fun he => ?_) (fun he => ?_)
      · walk_at "w"
        refine ⟨d, _, rfl, DGet.k (k := Sum.inl m.2.p) hd4, ?_⟩
        walk_at "w"
        cases hv : valV (kd L) (Sum.inl m.2.p) with
        | some y =>
          walk_at "w"
          refine ⟨e4, L, _, _, rfl, hd4, by omega, fs.skip hmn (.inr ?_)⟩
          refine Classical.byContradiction fun hz => ?_
          rw [kd_none.mpr (fun x hx q => hz ⟨x, hx, q⟩)] at hv
          cases hv
        | none =>
          walk_at "w"
          refine ⟨d, _, rfl, DPut.k (k := Sum.inl m.2.p) hd4 (szl (by unfold kd; rw [List.length_map]; omega)), ?_⟩
          have hn := kd_none.mp hv
          refine ⟨Same.mut e4 hd, L ++ [(m.2.p, i)], _, _, rfl, by rw [upd_same, kd_put hn], by rw [List.length_append, List.length_singleton]; omega, fs.put hmn he hn⟩
      · walk_at "w"
        exact ⟨e4, L, _, _, rfl, hd4, by omega, fs.skip hmn (.inl he)⟩
    · rintro σ H3 ⟨e3, L, v3, v4, rfl, hd3, hL, fs⟩
      rw [refs_length] at hL fs
      walk_at "w"
      refine ⟨d, _, hd3, trivial, fun od => ?_⟩
      walk_at "w"
      generalize h4 : upd H3 d (.frz od (.dK (kd L))) = H4
      have hd4 : H4 d = some (.frz od (.dK (kd L))) := by rw [← h4]; exact upd_same
      have e4 : Same H H4 := by rw [← h4]; exact Same.mut e3 hd
      refine ⟨d, od, kd L, rfl, hd4, fun D hD => lc_vals (kvs := kd L) (fun i H' => Same H H' ∧ H' d = some (.frz od (.dK (kd L))) ∧ ∃ rs : List (Addr × (Int × Int)), TL pl H' D rs ∧ vals rs = rowsOf (vals ks) at_ (L.take i))
        ⟨Same.mut e4 (e4.free hD), by rw [upd_ne (ne_of_none hd4 hD)]; exact hd4, [], ⟨upd_same, Tus.nil⟩, by rw [List.take_zero]; rfl⟩ (fun i H' _ ⟨_, h, _⟩ => h) ?_ ?_⟩
      · rintro i kk x H5 hx ⟨e5, hd5, rs, hr, ev⟩
        obtain ⟨y, hy, hyx⟩ : ∃ y, L[i]? = some y ∧ x = .int (y.2 : Nat) := by
          unfold kd at hx
          rw [List.getElem?_map] at hx
          cases e : L[i]? with
          | none => rw [e] at hx; cases hx
          | some y =>
            rw [e] at hx
            have hx' := Option.some.inj hx
            exact ⟨y, rfl, (Prod.mk.inj hx').2.symm⟩
        subst hyx
        have hi60 : i < 61 := by have := (List.getElem?_eq_some_iff.mp hy).1; omega
        have hrl : rs.length ≤ i := by
          have h1 : (vals rs).length ≤ (L.take i).length := by
            rw [ev]
            unfold rowsOf
            rw [List.length_map]
            exact List.length_filter_le _ _
          rw [List.length_map, List.length_take] at h1
          omega
        walk_at "w"
        refine ⟨rfl, ?_⟩
        walk_at "w"
        refine ifN2 (fun hne => ?_) (fun heq => ?_)
        · have hne' : y.2 ≠ at_ := fun z => hne (by rw [z])
          -- the note at that place
          obtain ⟨m, hm⟩ : ∃ m, ks[y.2]? = some m := by
            rcases fs.sound y (List.mem_of_getElem? hy) with q | ⟨m, q, _⟩
            · obtain ⟨R, rfl⟩ := fs.head
              have nd := fs.nd
              rw [List.map_cons, List.nodup_cons] at nd
              rcases List.mem_cons.mp (List.mem_of_getElem? hy) with z | z
              · rw [z]; exact ⟨k, hk⟩
              · exact absurd (List.mem_map.mpr ⟨y, z, q⟩) nd.1
            · rw [List.getElem?_map] at q
              cases e : ks[y.2]? with
              | none => rw [e] at q; cases q
              | some m => exact ⟨m, rfl⟩
          have tm : H5 m.1 = some (.tup [.int m.2.s, .int m.2.e, .int m.2.p]) := e5 _ _ (hl.tus m (List.mem_of_getElem? hm))
          walk_at "w"
          refine w_ixN (hl.same e5).lst (refs_get hm) ?_
          walk_at "w"
          refine ⟨sz 2, fun T hT => ?_⟩
          have nTD : D ≠ T := ne_of_none hr.lst hT
          have s6 : Same H5 (upd H5 T (.tup [.int m.2.s, .int (y.2 : Nat)])) := Same.new hT
          refine ⟨_, s6 _ _ hr.lst, szl (by rw [refs_length]; omega), Same.mut (e5.trans s6) (e4.free hD), ?_, rs ++ [(T, (m.2.s, (y.2 : Int)))], ⟨?_, ?_⟩, ?_⟩
          · rw [upd_ne (ne_of_none hd4 hD)]
            exact s6 _ _ hd5
          · rw [upd_same, refs_append]
            rfl
          · refine Tus.append ((hr.tus.tp (Same.tp s6)).tp fun a xs e => ?_) ?_
            · rw [upd_ne (fun z => by rw [z, s6 _ _ hr.lst] at e; cases e)]
              exact e
            · show (upd (upd H5 T _) D _) T = _
              rw [upd_ne (Ne.symm nTD), upd_same]
              rfl
          · rw [rowsOf_snoc hy, if_neg hne', vals_append, ev]
            congr 2
            have hmn : (vals ks)[y.2]? = some m.2 := by rw [List.getElem?_map, hm]; rfl
            rw [hmn]
            rfl
        · have heq' : y.2 = at_ := Int.ofNat.inj heq
          refine ⟨e5, hd5, rs, hr, ?_⟩
          rw [rowsOf_snoc hy, if_pos heq', List.append_nil]
          exact ev
      · rintro H5 ⟨e5, hd5, rs, hr, ev⟩
        refine ⟨hd5, ?_⟩
        have e6 : Same H (upd H5 d (.dK (kd L))) := Same.mut e5 hd
        have ndD : D ≠ d := ne_of hr.lst hd5 (by intro z; cases z)
        have tp6 : Tp H5 (upd H5 d (.dK (kd L))) := fun a xs e => by
          rw [upd_ne (fun z => by rw [z, hd5] at e; cases e)]
          exact e
        have evL : vals rs = rowsOf (vals ks) at_ L := by
          rw [ev]
          unfold kd
          rw [List.length_map, List.take_length]
        have hrl : rs.length ≤ 61 := by
          have h1 : (vals rs).length ≤ L.length := by
            rw [evL]
            unfold rowsOf
            rw [List.length_map]
            exact List.length_filter_le _ _
          rw [List.length_map] at h1
          omega
        walk_at "w"
        refine ⟨D, rs, rfl, ⟨by rw [upd_ne ndD]; exact hr.lst, hr.tus.tp tp6⟩, by omega, fun r hrm => ?_, fun js p pj oj hp => ?_⟩
        · have h1 : r.2 ∈ rowsOf (vals ks) at_ L := by rw [← evL]; exact List.mem_map_of_mem hrm
          obtain ⟨x, hx, hne, e⟩ := mem_rowsOf h1
          obtain ⟨m, hm⟩ : ∃ m, (vals ks)[x.2]? = some m := by
            rcases fs.sound x hx with q | ⟨m, q, _⟩
            · obtain ⟨R, rfl⟩ := fs.head
              have nd := fs.nd
              rw [List.map_cons, List.nodup_cons] at nd
              rcases List.mem_cons.mp hx with z | z
              · exact absurd (by rw [z]) hne
              · exact absurd (List.mem_map.mpr ⟨x, z, q⟩) nd.1
            · exact ⟨m, q⟩
          have hlt := (List.getElem?_eq_some_iff.mp hm).1
          rw [List.length_map] at hlt
          have hok' : m.ok := by
            obtain ⟨k', hk', rfl⟩ := List.mem_map.mp (List.mem_of_getElem? hm)
            exact hok k' hk'
          obtain ⟨o1, o2, o3, _⟩ := hok'
          rw [e, hm]
          show 0 ≤ m.s ∧ m.s < 32768 ∧ 0 ≤ (x.2 : Int) ∧ (x.2 : Int) < 32768
          omega
        · have s7 : Same (upd H5 d (.dK (kd L))) (upd (upd H5 d (.dK (kd L))) p (.lst (refs js))) := Same.new hp
          refine q _ p js (e6.trans s7) ⟨upd_same, fun r hrm => s7 _ _ (tp6 _ _ (hr.tus r (pj.mem_iff.mp hrm)))⟩ ?_
          refine Fst.nr (n := k.2) (L := L) (by rw [List.length_map]; exact fs) (by rw [List.getElem?_map, hk]; rfl) (fun m hm => ?_) (by rw [List.pairwise_map]; exact hord) (by rw [← evL]; exact pj.map _) (by rw [List.pairwise_map]; exact oj)
          obtain ⟨k', hk', rfl⟩ := List.mem_map.mp hm
          exact hok k' hk'
abbrev st_tightest : Stmt := topS 34
theorem sc_tightest : FnScope ["part", "many", "notes", "best", "at", "note", "rows", "chosen", "row", "gap", "by"] ["part", "many"] (defScope st_tightest) := ⟨rfl, rfl, rfl, by decide +kernel, rfl, by decide +kernel, by decide +kernel⟩

/-- what tightest finds among the first i notes -/
def Best (ns : List Note) (R : Nat → List (Int × Int)) (many i : Nat) (v : V) (H : Hp) : Prop :=
  (v = .non ∧ ∀ j, j < i → (R j).length + 1 < many) ∨
  ∃ (t l : Addr) (g : Int) (idx : List Int) (j : Nat) (n : Note), v = .ref t ∧ H t = some (.tup [.int g, .ref l]) ∧ H l = some (.lst (idx.map V.int)) ∧ j < i ∧ ns[j]? = some n ∧ many ≤ (R j).length + 1 ∧
    idx.Perm ((j : Int) :: ((R j).take (many - 1)).map (·.2)) ∧ idx.Pairwise (· ≤ ·) ∧ IsMax (n.s :: ((R j).take (many - 1)).map (·.1)) (g + n.e) ∧
    (∀ j' n' g', j' < i → ns[j']? = some n' → many ≤ (R j').length + 1 → IsMax (n'.s :: ((R j').take (many - 1)).map (·.1)) (g' + n'.e) → g ≤ g') ∧
    ∀ j' n' g', j' < j → ns[j']? = some n' → many ≤ (R j').length + 1 → IsMax (n'.s :: ((R j').take (many - 1)).map (·.1)) (g' + n'.e) → g < g'
theorem Best.same {ns : List Note} {R : Nat → List (Int × Int)} {many i : Nat} {v : V} {H H' : Hp} (h : Best ns R many i v H) (e : Same H H') : Best ns R many i v H' := by
  rcases h with h | ⟨t, l, g, idx, j, n, h1, h2, h3, h4⟩
  · exact .inl h
  · exact .inr ⟨t, l, g, idx, j, n, h1, e _ _ h2, e _ _ h3, h4⟩
theorem Best.family {ns : List Note} {R R' : Nat → List (Int × Int)} {many i : Nat} {v : V} {H : Hp} (h : Best ns R many i v H) (e : ∀ j, j < i → R' j = R j) : Best ns R' many i v H := by
  rcases h with ⟨h1, h2⟩ | ⟨t, l, g, idx, j, n, h1, h2, h3, h4, h5, h6, h7, h8, h9, h10, h11⟩
  · exact .inl ⟨h1, fun j hj => by rw [e j hj]; exact h2 j hj⟩
  · refine .inr ⟨t, l, g, idx, j, n, h1, h2, h3, h4, h5, by rw [e j h4]; exact h6, by rw [e j h4]; exact h7, h8, by rw [e j h4]; exact h9, fun j' n' g' hj => (by rw [e j' hj]; exact h10 j' n' g' hj), fun j' n' g' hj => by rw [e j' (by omega)]; exact h11 j' n' g' hj⟩
def spTight (C : Addr) : Sp := fun vs H Q _ => ∃ (p : Addr) (ks : List (Addr × Note)) (many : Nat), vs = [.ref p, .int many] ∧ PartAt C H p ks ∧ ks.length ≤ 60 ∧ (∀ k ∈ ks, k.2.ok) ∧ ks.Pairwise (fun x y => x.2.key ≤ y.2.key) ∧ 2 ≤ many ∧ many ≤ 61 ∧
  ∀ H' v R, Same H H' → (∀ i, i < ks.length → NR (vals ks) i (R i)) → Best (vals ks) R many ks.length v H' → Q v H'
theorem ok_tightest (T : Tx K mg Cp) (c_Part_notes : CalM P w K mg base Cp 1 "notes" ["self"] (spNotes Cp)) (c_nearest : Cal P w K mg base 1 "nearest" ["notes", "at"] spNearest) {f : Addr} {fd : FuncData} (F : Fun K "tightest" "tightest" st_tightest f fd) : FnOk P w K mg base (L2.CX P w) 2 f fd ["part", "many"] (spTight Cp) := by
  refine F.okX sc_tightest (fun vs H Q E h => ?_) (fun cdv A outer s H vs Q E hr h => ?_)
  · obtain ⟨p, ks, many, rfl, _⟩ := h
    rfl
  · obtain ⟨p, ks, many, rfl, hp, h60, hok, hord, m2, m61, q⟩ := h
    refine ⟨_, PSs.nox (pss_cons (ps_set (i := 2) sc_tightest.nd rfl (Or.inr rfl) (pe_calM0 c_Part_notes hr passL (pv 0)))
      (pss_cons (ps_set (i := 3) sc_tightest.nd rfl (Or.inl rfl) pe_non)
      (pss_cons (ps_for PassesOwn.never (by rfl) (pi_enum (by rfl) T.m_enumerate (pa_cons (pv 2) pa_nil)) (pg_tup (by rfl) (pgs_cons (pg_name (i := 4) sc_tightest.nd rfl (Or.inl rfl)) (pgs_cons (pg_name (i := 5) sc_tightest.nd rfl (Or.inl rfl)) pgs_nil)))
      (pss_cons (ps_set (i := 6) sc_tightest.nd rfl (Or.inl rfl) (pe_cal c_nearest hr passL (pa_cons (pv 2) (pa_cons (pv 4) pa_nil))))
      (pss_one (ps_if (pt_cmpR op_ge (pe_op op_add (pe_callB (r := rLenK K) cr_len (by rfl) T.m_len (by decide +kernel) (pa_cons (pv 6) pa_nil)) pe_int) (pv 1) (nomark _))
      (pss_cons (ps_set (i := 7) sc_tightest.nd rfl (Or.inl rfl) (pe_op op_cat (pe_lst (pa_cons (pv 4) pa_nil)) (pe_lc (own := [("row", 8)]) (g := gName 8) (by rfl) sc_tightest.nd (pi_list (pe_slice (r := rSlL K) sl_list (pv 6) po_none (po_some (pe_op op_sub (pv 1) pe_int)))) (blkOk_by (own := [("row", 8)]) (N := ["part", "many", "notes", "best", "at", "note", "rows", "chosen", "row", "gap", "by"]) (sc := defScope st_tightest) (by decide +kernel)) (fun _ _ _ _ _ => pg_name (i := 8) sc_tightest.nd rfl (Or.inl rfl)) (fun _ _ _ _ _ => pts_nil) (fun _ _ _ _ _ => (pe_ix (r := rIxT K) ix_tup (pv 8) pe_int (fun _ _ => rfl))))))
      (pss_cons (ps_set (i := 9) sc_tightest.nd rfl (Or.inl rfl) (pe_op op_sub (pe_callB (r := rMax K) (cr_max rfl) (by rfl) T.m_max (by decide +kernel) (pa_cons (pe_lc (own := [("by", 10)]) (g := gName 10) (by rfl) sc_tightest.nd (pi_list (pv 7)) (blkOk_by (own := [("by", 10)]) (N := ["part", "many", "notes", "best", "at", "note", "rows", "chosen", "row", "gap", "by"]) (sc := defScope st_tightest) (by decide +kernel)) (fun _ _ _ _ _ => pg_name (i := 10) sc_tightest.nd rfl (Or.inl rfl)) (fun _ _ _ _ _ => pts_nil) (fun _ _ _ _ _ => (pe_ix (r := rIxT K) ix_tup (pe_ix (r := rIxL K) ix_list (pv 2) (pv 10) (fun _ _ => rfl)) pe_int (fun _ _ => rfl)))) pa_nil)) (pe_ix (r := rIxT K) ix_tup (pv 5) pe_int (fun _ _ => rfl))))
      (pss_one (ps_if (PW.pt (pw_or (pt_cmpR op_isN_ (pv 3) pe_non (nomark _)) (pw_or1 (pt_cmpR op_lt (pv 9) (pe_ix (r := rIxT K) ix_tup (pv 3) pe_int (fun _ _ => rfl)) (nomark _)))))
      (pss_one (ps_set (i := 3) sc_tightest.nd rfl (Or.inl rfl) (pe_tup (pa_cons (pv 9) (pa_cons (pe_callB (r := rSorted K) cr_sorted (by rfl) T.m_sorted (by decide +kernel) (pa_cons (pv 7) pa_nil)) pa_nil))))) pss_nil)))) pss_nil))))
      (pss_one (ps_ret (pv 3)))))), ?_⟩
    walk_at "w"
    obtain ⟨dx, fs, hpi, hlk⟩ := hp.at_ "notes"
    refine ⟨p, dx, fs, rfl, hpi, hlk, p, ks, rfl, hp, fun H1 l hl0 e1 hl => ?_⟩
    walk_at "w"
    -- for at, note in enumerate(notes)
    refine ⟨l, _, rfl, SqL.of hl.lst, for_enum (xs := refs ks) (fun i σ H' => Same H1 H' ∧ ∃ bv v4 v5 v6 v7 v8 v9 v10, σ = [some (.ref p), some (.int many), some (.ref l), some bv, v4, v5, v6, v7, v8, v9, v10] ∧ ∃ R, (∀ j, j < i → NR (vals ks) j (R j)) ∧ Best (vals ks) R many i bv H')
      ⟨Same.refl _, .non, none, none, none, none, none, none, none, rfl, fun _ => [], fun j hj => absurd hj (Nat.not_lt_zero _), .inl ⟨rfl, fun j hj => absurd hj (Nat.not_lt_zero _)⟩⟩ (fun i σ H' _ ⟨e, _⟩ => SqL.of (hl.same e).lst) ?_ ?_⟩
    · rintro i x T σ H3 hx ⟨e3, bv, v4, v5, v6, v7, v8, v9, v10, rfl, R, hR, hB⟩ hT
      obtain ⟨k, hk, rfl⟩ := of_refs hx
      have hi : i < ks.length := (List.getElem?_eq_some_iff.mp hk).1
      have hkn : (vals ks)[i]? = some k.2 := vals_get hk
      generalize h4 : upd H3 T (.tup [.int (i : Nat), .ref k.1]) = H4
      have s34 : Same H3 H4 := by rw [← h4]; exact Same.new hT
      have e4 : Same H1 H4 := e3.trans s34
      have hT4 : H4 T = some (.tup [.int (i : Nat), .ref k.1]) := by rw [← h4]; exact upd_same
      have hB4 := hB.same s34
      walk_at "w"
      refine w_gtup hT4 rfl ?_
      walk_at "w"
      refine ⟨l, ks, i, k, rfl, hl.same e4, hk, h60, hok, hord, fun H5 pr rs e45 hrs hnr => ?_⟩
      have e5 : Same H1 H5 := e4.trans e45
      have hB5 := hB4.same e45
      -- the family of rows goes on
      obtain ⟨R', ri, rj⟩ : ∃ R' : Nat → List (Int × Int), R' i = vals rs ∧ ∀ j, j ≠ i → R' j = R j := ⟨fun j => if j = i then vals rs else R j, if_pos rfl, fun j h => if_neg h⟩
      have hR' : ∀ j, j < i + 1 → NR (vals ks) j (R' j) := fun j hj => by
        by_cases hji : j = i
        · rw [hji, ri]; exact hnr
        · rw [rj j hji]; exact hR j (by omega)
      have hBR := hB5.family (R' := R') fun j hj => rj j (by omega)
      walk_at "w"
      refine ⟨pr, _, rfl, .inl (SqL.of hrs.lst), ?_⟩
      rw [refs_length]
      walk_at "w"
      refine if2 (fun hge => ?_) (fun hlt => ?_)
      · have hge' : many ≤ (vals rs).length + 1 := by rw [vals_length]; omega
        walk_at "w"
        refine ⟨sz 1, fun c hc => ?_⟩
        have s6 : Same H5 (upd H5 c (.lst [.int (i : Nat)])) := Same.new hc
        walk_at "w"
        refine ⟨_, rfl, pr, _, rfl, SqL.of (hrs.same s6).lst, fun c2 hc2 => ?_⟩
        have em : (many : Int) - 1 = ((many - 1 : Nat) : Int) := by omega
        rw [em, cut_to, refs_take]
        generalize h7 : upd (upd H5 c (.lst [.int (i : Nat)])) c2 (.lst (refs (rs.take (many - 1)))) = H7
        have s7 : Same (upd H5 c (.lst [.int (i : Nat)])) H7 := by rw [← h7]; exact Same.new hc2
        have hc7 : H7 c = some (.lst [.int (i : Nat)]) := s7 _ _ upd_same
        have hc27 : H7 c2 = some (.lst (refs (rs.take (many - 1)))) := by rw [← h7]; exact upd_same
        have e57 : Same H5 H7 := s6.trans s7
        have htu : Tus pl H7 rs := hrs.tus.tp (Same.tp e57)
        refine ⟨c2, rfl, ⟨_, SqL.of hc27⟩, fun D hD => lc_pure (xs := refs (rs.take (many - 1))) (fun t => ((rs.take (many - 1))[t]?).map fun r => V.int r.2.2) (SqL.of hc27) hD (by rw [refs_length, List.length_take]; omega) ?_ ?_⟩
        · rintro t y H8 hy s8 N M hN hM
          obtain ⟨r, hr', rfl⟩ := of_refs hy
          have tr : H8 r.1 = some (.tup [.int r.2.1, .int r.2.2]) := s8 _ _ (htu r (List.mem_of_mem_take (List.mem_of_getElem? hr')))
          walk_at "w"
          refine ⟨rfl, ?_⟩
          walk_at "w"
          exact hN _ _ (by rw [hr']; rfl) (Same.refl _)
        · intro H8 s8 hD8
          have eD : (List.range (refs (rs.take (many - 1))).length).filterMap (fun t => ((rs.take (many - 1))[t]?).map fun r => V.int r.2.2) = (((vals rs).take (many - 1)).map (·.2)).map V.int := by
            rw [refs_length, filterMap_all (rs.take (many - 1)) (fun r => V.int r.2.2) _ fun t r hr' => by rw [hr']; rfl, vals_take, List.map_map, List.map_map]
            rfl
          rw [eD] at hD8
          refine w_cat (s8 _ _ hc7) hD8 (by simp only [List.length_map, List.length_take, List.length_cons, List.length_nil]; omega) fun c3 hc3 => ?_
          generalize h9 : upd H8 c3 (.lst ([.int (i : Nat)] ++ (((vals rs).take (many - 1)).map (·.2)).map V.int)) = H9
          have s9 : Same H8 H9 := by rw [← h9]; exact Same.new hc3
          have e9 : Same H5 H9 := e57.trans (s8.trans s9)
          have hc9 : H9 c3 = some (.lst (((i : Int) :: ((vals rs).take (many - 1)).map (·.2)).map V.int)) := by rw [← h9]; exact upd_same
          walk_at "w"
          -- the starts of the chosen notes
          generalize hcs : (i : Int) :: ((vals rs).take (many - 1)).map (·.2) = cs at hc9
          generalize hss : k.2.s :: ((vals rs).take (many - 1)).map (·.1) = ss
          have hcl : cs.length = ss.length := by rw [← hcs, ← hss]; simp
          have hcl2 : cs.length ≤ 61 := by rw [← hcs]; simp only [List.length_cons, List.length_map, List.length_take]; omega
          have hcn : ∀ (t : Nat) (c : Int), cs[t]? = some c → ∃ (j : Nat) (m : Addr × Note), c = (j : Int) ∧ ks[j]? = some m ∧ ss[t]? = some m.2.s := by
            intro t c hc
            rw [← hcs] at hc
            rw [← hss]
            cases t with
            | zero =>
              cases hc
              exact ⟨i, k, rfl, hk, rfl⟩
            | succ t =>
              rw [List.getElem?_cons_succ, List.getElem?_map] at hc
              rw [List.getElem?_cons_succ, List.getElem?_map]
              cases e : ((vals rs).take (many - 1))[t]? with
              | none => rw [e] at hc; cases hc
              | some r =>
                rw [e] at hc
                cases hc
                obtain ⟨j, m, n, a1, a2, _, a3, _⟩ := hnr.sound r (List.mem_of_mem_take (List.mem_of_getElem? e))
                obtain ⟨mk, b1, rfl⟩ := of_vals a2
                exact ⟨j, mk, a1, b1, congrArg some a3⟩
          refine ⟨c3, rfl, ⟨_, SqL.of hc9⟩, fun D2 hD2 => lc_pure (xs := cs.map V.int) (fun t => (ss[t]?).map V.int) (SqL.of hc9) hD2 (by rw [List.length_map]; omega) ?_ ?_⟩
          · rintro t y H10 hy s10 N M hN hM
            rw [List.getElem?_map] at hy
            cases ec : cs[t]? with
            | none => rw [ec] at hy; cases hy
            | some c' =>
              rw [ec] at hy
              cases hy
              obtain ⟨j, m, rfl, hm, hs'⟩ := hcn t c' ec
              have tm : H10 m.1 = some (.tup [.int m.2.s, .int m.2.e, .int m.2.p]) := s10 _ _ (e9 _ _ (e5 _ _ (hl.tus m (List.mem_of_getElem? hm))))
              walk_at "w"
              refine ⟨rfl, ?_⟩
              walk_at "w"
              refine w_ixN ((hl.same (e5.trans e9)).same s10).lst (refs_get hm) ?_
              walk_at "w"
              exact hN _ _ (by rw [hs']; rfl) (Same.refl _)
          · intro H10 s10 hD10
            have eD2 : (List.range (cs.map V.int).length).filterMap (fun t => (ss[t]?).map V.int) = ss.map V.int := by
              rw [List.length_map, hcl, filterMap_all ss V.int _ fun t r hr' => by rw [hr']; rfl]
            rw [eD2] at hD10
            have e10 : Same H1 H10 := e5.trans (e9.trans s10)
            have tk : H10 k.1 = some (.tup [.int k.2.s, .int k.2.e, .int k.2.p]) := e10 _ _ (hl.tus k (List.mem_of_getElem? hk))
            walk_at "w"
            refine ⟨D2, ss, rfl, SqL.of hD10, by rw [← hss]; exact Nat.succ_pos _, fun mx hmx hmx2 => ?_⟩
            walk_at "w"
            have hgap : IsMax (k.2.s :: ((vals rs).take (many - 1)).map (·.1)) (mx - k.2.e + k.2.e) := by
              rw [hss, Int.sub_add_cancel]
              exact ⟨hmx, hmx2⟩
            have hB10 := (hBR.same e9).same s10
            -- best = (gap, sorted(chosen))
            have store : ∀ (H11 : Hp) (t2 l2 : Addr) (idx : List Int), Same H10 H11 → H11 t2 = some (.tup [.int (mx - k.2.e), .ref l2]) → H11 l2 = some (.lst (idx.map V.int)) → idx.Perm cs → idx.Pairwise (· ≤ ·) →
                (∀ j' n' g', j' < i → (vals ks)[j']? = some n' → many ≤ (R' j').length + 1 → IsMax (n'.s :: ((R' j').take (many - 1)).map (·.1)) (g' + n'.e) → mx - k.2.e < g') →
                Best (vals ks) R' many (i + 1) (.ref t2) H11 := by
              intro H11 t2 l2 idx s11 ht2 hl2 hp2 ho2 hless
              refine .inr ⟨t2, l2, mx - k.2.e, idx, i, k.2, rfl, ht2, hl2, by omega, hkn, by rw [ri]; exact hge', by rw [ri, hcs]; exact hp2, ho2, by rw [ri]; exact hgap, fun j' n' g' hj' hn' hm' hg' => ?_, hless⟩
              by_cases hji : j' = i
              · subst hji
                rw [ri] at hg'
                rw [hkn] at hn'
                cases hn'
                have h1 := hgap.2 _ hg'.1
                have h2 := hg'.2 _ hgap.1
                omega
              · exact Int.le_of_lt (hless j' n' g' (by omega) hn' hm' hg')
            rcases hB10 with ⟨rfl, hno⟩ | ⟨t0, l0, g0, idx0, j0, n0, rfl, ht0, hl0', hj0, hn0, hm0, hp0, ho0, hg0, hmin0, hfst0⟩
            · walk_at "w"
              refine ⟨c3, cs, rfl, SqL.of (s10 _ _ hc9), by omega, fun ns' p2 hpm hpo hp2 => ?_⟩
              walk_at "w"
              refine ⟨sz 2, fun t2 ht2 => ?_⟩
              have s11 : Same H10 (upd H10 p2 (.lst (ns'.map V.int))) := Same.new hp2
              have s12 : Same (upd H10 p2 (.lst (ns'.map V.int))) (upd (upd H10 p2 (.lst (ns'.map V.int))) t2 (.tup [.int (mx - k.2.e), .ref p2])) := Same.new ht2
              refine ⟨e10.trans (s11.trans s12), _, _, _, _, _, _, _, _, rfl, _, hR', store _ t2 p2 ns' (s11.trans s12) upd_same (s12 _ _ upd_same) hpm hpo fun j' n' g' hj' hn' hm' _ => ?_⟩
              exact absurd (hno j' hj') (by omega)
            · walk_at "w"
              refine if2 (fun hg => ?_) (fun hg => ?_)
              · walk_at "w"
                refine ⟨c3, cs, rfl, SqL.of (s10 _ _ hc9), by omega, fun ns' p2 hpm hpo hp2 => ?_⟩
                walk_at "w"
                refine ⟨sz 2, fun t2 ht2 => ?_⟩
                have s11 : Same H10 (upd H10 p2 (.lst (ns'.map V.int))) := Same.new hp2
                have s12 : Same (upd H10 p2 (.lst (ns'.map V.int))) (upd (upd H10 p2 (.lst (ns'.map V.int))) t2 (.tup [.int (mx - k.2.e), .ref p2])) := Same.new ht2
                refine ⟨e10.trans (s11.trans s12), _, _, _, _, _, _, _, _, rfl, _, hR', store _ t2 p2 ns' (s11.trans s12) upd_same (s12 _ _ upd_same) hpm hpo fun j' n' g' hj' hn' hm' hg' => ?_⟩
                have := hmin0 j' n' g' hj' hn' hm' hg'
                omega
              · walk_at "w"
                refine ⟨e10, _, _, _, _, _, _, _, _, rfl, _, hR', .inr ⟨t0, l0, g0, idx0, j0, n0, rfl, ht0, hl0', by omega, hn0, hm0, hp0, ho0, hg0, fun j' n' g' hj' hn' hm' hg' => ?_, hfst0⟩⟩
                by_cases hji : j' = i
                · subst hji
                  rw [ri] at hg'
                  rw [hkn] at hn'
                  cases hn'
                  have h1 := hgap.2 _ hg'.1
                  have h2 := hg'.2 _ hgap.1
                  omega
                · exact hmin0 j' n' g' (by omega) hn' hm' hg'
      · have hlt' : (vals rs).length + 1 < many := by rw [vals_length]; omega
        walk_at "w"
        refine ⟨e5, _, _, _, _, _, _, _, _, rfl, _, hR', ?_⟩
        rcases hBR with ⟨rfl, hno⟩ | ⟨t0, l0, g0, idx0, j0, n0, rfl, ht0, hl0', hj0, hn0, hm0, hp0, ho0, hg0, hmin0, hfst0⟩
        · refine .inl ⟨rfl, fun j hj => ?_⟩
          by_cases hji : j = i
          · rw [hji, ri]; exact hlt'
          · exact hno j (by omega)
        · refine .inr ⟨t0, l0, g0, idx0, j0, n0, rfl, ht0, hl0', by omega, hn0, hm0, hp0, ho0, hg0, fun j' n' g' hj' hn' hm' hg' => ?_, hfst0⟩
          by_cases hji : j' = i
          · rw [hji, ri] at hm'
            omega
          · exact hmin0 j' n' g' (by omega) hn' hm' hg'
    · rintro σ H3 ⟨e3, bv, v4, v5, v6, v7, v8, v9, v10, rfl, R, hR, hB⟩
      rw [refs_length] at hR hB
      walk_at "w"
      exact q H3 bv R (e1.trans e3) hR hB
abbrev st_slowest : Stmt := topS 35
theorem sc_slowest : FnScope ["part", "drums", "found"] ["part", "drums"] (defScope st_slowest) := ⟨rfl, rfl, rfl, by decide +kernel, rfl, by decide +kernel, by decide +kernel⟩

/-- what slowest returns, for the rows near each note -/
def SlowV (ns : List Note) (R : Nat → List (Int × Int)) (d : Nat) (v : V) : Prop :=
    (v = .non ∧ ∀ j : Nat, j < ns.length → (R j).length + 1 < d + 1) ∨
    ∃ (g : Int) (j : Nat) (n : Note), v = .int (if g > 0 then g else 0) ∧ ns[j]? = some n ∧ d + 1 ≤ (R j).length + 1 ∧ IsMax (n.s :: ((R j).take d).map (·.1)) (g + n.e) ∧ (∀ (j' : Nat) (n' : Note) (g' : Int), j' < ns.length → ns[j']? = some n' → d + 1 ≤ (R j').length + 1 → IsMax (n'.s :: ((R j').take d).map (·.1)) (g' + n'.e) → g ≤ g')
theorem SlowV.ok {ns : List Note} {R : Nat → List (Int × Int)} {d : Nat} {v : V} (h : SlowV ns R d v) (hl : ns.length ≤ 60) (ok : ∀ n ∈ ns, n.ok) (hR : ∀ i, i < ns.length → NR ns i (R i)) : SlowOk ns d v := by
  rcases h with ⟨rfl, h⟩ | ⟨g, j, n, rfl, hj, hd, hM, hmin⟩
  · refine .inl ⟨rfl, fun ps hp => ?_⟩
    have := none_few (d := d) hl ok hR h hp
    omega
  · exact .inr ⟨_, rfl, slow_some hl ok hR hj hd hM hmin _ rfl⟩
def spSlow (C : Addr) : Sp := fun vs H Q _ => ∃ (p : Addr) (ks : List (Addr × Note)) (d : Nat), vs = [.ref p, .int d] ∧ PartAt C H p ks ∧ ks.length ≤ 60 ∧ (∀ k ∈ ks, k.2.ok) ∧ ks.Pairwise (fun x y => x.2.key ≤ y.2.key) ∧ 1 ≤ d ∧ d ≤ 12 ∧
  ∀ (H' : Hp) (R : Nat → List (Int × Int)) (v : V), Same H H' → (∀ i, i < (vals ks).length → NR (vals ks) i (R i)) → SlowV (vals ks) R d v → Q v H'
theorem ok_slowest (T : Tx K mg Cp) (c_need_part : Cal P w K mg base 1 "need_part" ["part"] (spNeedPart Cp)) (c_need_drums : Cal P w K mg base 3 "need_drums" ["drums"] spNeedDrums) (c_tightest : Cal P w K mg base 2 "tightest" ["part", "many"] (spTight Cp)) {f : Addr} {fd : FuncData} (F : Fun K "slowest" "slowest" st_slowest f fd) : FnOk P w K mg base (L2.CX P w) 4 f fd ["part", "drums"] (spSlow Cp) := by
  refine F.okX sc_slowest (fun vs H Q E h => ?_) (fun cdv A outer s H vs Q E hr h => ?_)
  · obtain ⟨p, ks, d, rfl, _⟩ := h
    rfl
  · obtain ⟨p, ks, d, rfl, hp, h60, hok, hord, d1, d12, q⟩ := h
    refine ⟨_, PSs.nox (pss_cons (ps_expr (pe_cal c_need_part hr passL (pa_cons (pv 0) pa_nil)))
      (pss_cons (ps_expr (pe_cal c_need_drums hr passL (pa_cons (pv 1) pa_nil)))
      (pss_cons (ps_set (i := 2) sc_slowest.nd rfl (Or.inl rfl) (pe_cal c_tightest hr passL (pa_cons (pv 0) (pa_cons (pe_op op_add (pv 1) pe_int) pa_nil))))
      (pss_one (ps_ret (pe_ifExp (pt_cmpR op_isN_ (pv 2) pe_non (nomark _)) pe_non (pe_callB (call_max2 rfl) (by rfl) T.m_max (by decide +kernel) (pa_cons pe_int (pa_cons (pe_ix (r := rIxT K) ix_tup (pv 2) pe_int (fun _ _ => rfl)) pa_nil))))))))), ?_⟩
    walk_at "w"
    refine ⟨p, ks, rfl, hp, ?_⟩
    walk_at "w"
    refine ⟨d, rfl, by omega, by omega, ?_⟩
    walk_at "w"
    refine ⟨p, ks, d + 1, rfl, hp, h60, hok, hord, by omega, by omega, fun H1 v R e1 hR hB => ?_⟩
    have hq := fun v => q H1 R v e1 (fun i hi => hR i (by rw [vals_length] at hi; exact hi))
    rcases hB with ⟨rfl, hno⟩ | ⟨t, l, g, idx, j, n, rfl, ht, hl, hj, hn, hm, hp', ho, hg, hmin, _⟩
    · walk_at "w"
      exact hq _ (.inl ⟨rfl, fun j hj => hno j (by rw [vals_length] at hj; exact hj)⟩)
    · walk_at "w"
      refine ⟨0, g, rfl, ?_⟩
      exact hq _ (.inr ⟨g, j, n, rfl, hn, hm, hg, fun j' n' g' hj' => hmin j' n' g' (by rw [vals_length] at hj'; exact hj')⟩)
abbrev st_pinch : Stmt := topS 36
theorem sc_pinch : FnScope ["part", "drums", "found"] ["part", "drums"] (defScope st_pinch) := ⟨rfl, rfl, rfl, by decide +kernel, rfl, by decide +kernel, by decide +kernel⟩

def spPinch (C : Addr) : Sp := fun vs H Q _ => ∃ (p : Addr) (ks : List (Addr × Note)) (d : Nat), vs = [.ref p, .int d] ∧ PartAt C H p ks ∧ ks.length ≤ 60 ∧ (∀ k ∈ ks, k.2.ok) ∧ ks.Pairwise (fun x y => x.2.key ≤ y.2.key) ∧ 1 ≤ d ∧ d ≤ 12 ∧
  ∀ (H' : Hp) (v : V), Same H H' → PinchV (vals ks) d v H' → Q v H'
theorem ok_pinch (T : Tx K mg Cp) (c_need_part : Cal P w K mg base 1 "need_part" ["part"] (spNeedPart Cp)) (c_need_drums : Cal P w K mg base 3 "need_drums" ["drums"] spNeedDrums) (c_tightest : Cal P w K mg base 2 "tightest" ["part", "many"] (spTight Cp)) {f : Addr} {fd : FuncData} (F : Fun K "pinch" "pinch" st_pinch f fd) : FnOk P w K mg base (L2.CX P w) 4 f fd ["part", "drums"] (spPinch Cp) := by
  refine F.okX sc_pinch (fun vs H Q E h => ?_) (fun cdv A outer s H vs Q E hr h => ?_)
  · obtain ⟨p, ks, d, rfl, _⟩ := h
    rfl
  · obtain ⟨p, ks, d, rfl, hp, h60, hok, hord, d1, d12, q⟩ := h
    have hok' : ∀ n ∈ vals ks, n.ok := fun n hn => by
      obtain ⟨k, hk, rfl⟩ := mem_vals hn
      exact hok k hk
    refine ⟨_, PSs.nox (pss_cons (ps_expr (pe_cal c_need_part hr passL (pa_cons (pv 0) pa_nil)))
      (pss_cons (ps_expr (pe_cal c_need_drums hr passL (pa_cons (pv 1) pa_nil)))
      (pss_cons (ps_set (i := 2) sc_pinch.nd rfl (Or.inl rfl) (pe_cal c_tightest hr passL (pa_cons (pv 0) (pa_cons (pe_op op_add (pv 1) pe_int) pa_nil))))
      (pss_one (ps_ret (pe_ifExp (pt_cmpR op_isN_ (pv 2) pe_non (nomark _)) pe_non (pe_ix (r := rIxT K) ix_tup (pv 2) pe_int (fun _ _ => rfl)))))))), ?_⟩
    walk_at "w"
    refine ⟨p, ks, rfl, hp, ?_⟩
    walk_at "w"
    refine ⟨d, rfl, by omega, by omega, ?_⟩
    walk_at "w"
    refine ⟨p, ks, d + 1, rfl, hp, h60, hok, hord, by omega, by omega, fun H1 v R e1 hR hB => ?_⟩
    have hl60 : (vals ks).length ≤ 60 := by rw [vals_length]; omega
    have hR' : ∀ j, j < (vals ks).length → NR (vals ks) j (R j) := fun j hj => hR j (by rw [vals_length] at hj; exact hj)
    rcases hB with ⟨rfl, hno⟩ | ⟨t, l, g, idx, j, n, rfl, ht, hl, hj, hn, hm, hp', ho, hg, hmin, hfst⟩
    · walk_at "w"
      exact q _ _ e1 (.inl ⟨rfl, fun ps hps => none_few (d := d) hl60 hok' hR' (fun j hj => hno j (by rw [vals_length] at hj; exact hj)) hps⟩)
    · walk_at "w"
      exact q _ _ e1 (.inr ⟨l, idx, g, R, j, n, rfl, hl, ⟨hR', hn, hm, hp', ho, hg, fun j' n' g' hj' => hmin j' n' g' (by rw [vals_length] at hj'; exact hj'), hfst⟩⟩)
abbrev st_law_least : Stmt := topS 44
theorem sc_law_least : FnScope ["notes", "many", "best", "start", "end", "pitch", "starts", "other", "some", "note"] ["notes", "many"] (defScope st_law_least) := ⟨rfl, rfl, rfl, by decide +kernel, rfl, by decide +kernel, by decide +kernel⟩

def spLeast : Sp := fun vs H Q _ => ∃ (a : Addr) (ks : List (Addr × Note)) (d : Nat), vs = [.ref a, .int (d + 1 : Nat)] ∧ NL H a ks ∧ ks.length ≤ 60 ∧ (∀ k ∈ ks, k.2.ok) ∧ d ≤ 100 ∧
  ∀ (H' : Hp) (b : Int), Same H H' → (∀ ps, IsPitches (vals ks) ps → LBest (vals ks) ps d (vals ks).length b) → Q (.int b) H'
theorem ok_least (T : Tx K mg Cp) (c_law_pitches : Cal P w K mg base 1 "_law_pitches" ["notes"] spPitches) {f : Addr} {fd : FuncData} (F : Fun K "_law_least" "_law_least" st_law_least f fd) : FnOk P w K mg base (L2.CX P w) 2 f fd ["notes", "many"] spLeast := by
  refine F.okX sc_law_least (fun vs H Q E h => ?_) (fun cdv A outer s H vs Q E hr h => ?_)
  · obtain ⟨a, ks, d, rfl, _⟩ := h
    rfl
  · obtain ⟨a, ks, d, rfl, hl, h60, hok, hd, q⟩ := h
    have hok' : ∀ n ∈ vals ks, n.ok := fun n hn => by
      obtain ⟨k, hk, rfl⟩ := mem_vals hn
      exact hok k hk
    obtain ⟨ps, ip⟩ := pit_ex hok'
    have lps : ps.length ≤ 60 := by
      have := nodup_sub (l := ps) (m := (vals ks).map (·.p)) (ip.sd.imp fun {a b} z => by omega) fun x hx => by
        obtain ⟨n, hn, e⟩ := (ip.mem x).mp hx
        exact List.mem_map.mpr ⟨n, hn, e⟩
      rw [List.length_map, vals_length] at this
      omega
    refine ⟨_, PSs.nox (pss_cons (ps_set (i := 2) sc_law_least.nd rfl (Or.inl rfl) (pe_op op_pow pe_int pe_int))
      (pss_cons (ps_for PassesOwn.never (by rfl) (pi_list (pv 0)) (pg_tup (by rfl) (pgs_cons (pg_name (i := 3) sc_law_least.nd rfl (Or.inl rfl)) (pgs_cons (pg_name (i := 4) sc_law_least.nd rfl (Or.inr rfl)) (pgs_cons (pg_name (i := 5) sc_law_least.nd rfl (Or.inl rfl)) pgs_nil))))
      (pss_cons (ps_set (i := 6) sc_law_least.nd rfl (Or.inl rfl) (pe_lst (pa_cons (pv 3) pa_nil)))
      (pss_cons (ps_for PassesOwn.never (by rfl) (pi_list (pe_cal c_law_pitches hr passL (pa_cons (pv 0) pa_nil))) (pg_name (i := 7) sc_law_least.nd rfl (Or.inr rfl))
      (pss_cons (ps_setLc (i := 8) (own := [("note", 9)]) (g := gName 9) (by rfl) sc_law_least.nd rfl rfl (sw_true rfl rfl rfl (by decide +kernel)) (pi_list (pv 0)) (blkOk_by (own := [("note", 9)]) (N := ["notes", "many", "best", "start", "end", "pitch", "starts", "other", "some", "note"]) (sc := defScope st_law_least) (by decide +kernel)) (fun _ _ _ _ _ => pg_name (i := 9) sc_law_least.nd rfl (Or.inl rfl)) (fun _ _ _ _ _ => (pts_one (PW.pt (pw_and (pt_cmpR op_eq (pe_ix (r := rIxT K) ix_tup (pv 9) pe_int (fun _ _ => rfl)) (pv 7) (nomark _)) (pw_and1 (pt_cmpR op_ge (pe_ix (r := rIxT K) ix_tup (pv 9) pe_int (fun _ _ => rfl)) (pv 4) (nomark _))))))) (fun _ _ _ _ _ => (pe_ix (r := rIxT K) ix_tup (pv 9) pe_int (fun _ _ => rfl))))
      (pss_one (ps_if (PW.pt (pw_and (pt_cmpR op_ne (pv 7) (pv 5) (nomark _)) (pw_and1 (pt_cmpR (r := rNeD K) (op_neD hr.units) (pv 8) (pe_lst pa_nil) (nomark _)))))
      (pss_one (ps_expr (pe_bm PySem.F.plainAttrs_list PySem.F.slot_list_append PySem.F.type_list_append mt_append (pv 6) (pa_cons (pe_callB (call_max2 rfl) (by rfl) T.m_max (by decide +kernel) (pa_cons (pv 3) (pa_cons (pe_callB (r := rMin K) (cr_min rfl) (by rfl) T.m_min (by decide +kernel) (pa_cons (pv 8) pa_nil)) pa_nil))) pa_nil)))) pss_nil))))
      (pss_one (ps_if (pt_cmpR op_ge (pe_callB (r := rLenK K) cr_len (by rfl) T.m_len (by decide +kernel) (pa_cons (pv 6) pa_nil)) (pv 1) (nomark _))
      (pss_one (ps_set (i := 2) sc_law_least.nd rfl (Or.inl rfl) (pe_callB (call_min2 rfl) (by rfl) T.m_min (by decide +kernel) (pa_cons (pv 2) (pa_cons (pe_op op_sub (pe_ix (r := rIxL K) ix_list (pe_callB (r := rSorted K) cr_sorted (by rfl) T.m_sorted (by decide +kernel) (pa_cons (pv 6) pa_nil)) (pe_op op_sub (pv 1) pe_int) (fun _ _ => rfl)) (pv 4)) pa_nil))))) pss_nil)))))
      (pss_one (ps_ret (pv 2))))), ?_⟩
    walk_at "w"
    refine ⟨a, rfl, ⟨_, SqL.of hl.lst⟩, for_list (xs := refs ks) (fun i σ H' => Same H H' ∧ ∃ (b : Int) (v3 v4 v5 v6 v7 v8 : Option V), σ = [some (.ref a), some (.int (d + 1 : Nat)), some (.int b), v3, v4, v5, v6, v7, v8, none] ∧ LBest (vals ks) ps d i b)
      ⟨Same.refl H, _, none, none, none, none, none, none, rfl, LBest.zero⟩ (fun i σ H' _ ⟨e, _⟩ => SqL.of (hl.same e).lst) ?_ ?_⟩
    · rintro i x σ H1 hx ⟨e1, b, v3, v4, v5, v6, v7, v8, rfl, lb⟩
      obtain ⟨k, hk, rfl⟩ := of_refs hx
      have tk : H1 k.1 = some (.tup [.int k.2.s, .int k.2.e, .int k.2.p]) := e1 _ _ (hl.tus k (List.mem_of_getElem? hk))
      walk_at "w"
      refine w_gtup tk rfl ?_
      walk_at "w"
      refine ⟨sz 1, fun st hst => ?_⟩
      have s1 := Same.new (o := .lst [.int k.2.s]) hst
      have hst1 : (upd H1 st (.lst [.int k.2.s])) st = some (.lst ((k.2.s :: ([] : List Int)).map V.int)) := upd_same
      have hst0 : H st = none := Same.fresh e1 hst
      generalize upd H1 st (.lst [.int k.2.s]) = H2 at s1 hst1 ⊢
      have f2 := e1.trans s1
      walk_at "w"
      refine ⟨a, ks, rfl, hl.same f2, h60, fun H3 lp ps' e3 hlp0 hlp hps' _ => ?_⟩
      obtain rfl := hps'.uniq ip
      have f3 := f2.trans e3
      have nls : lp ≠ st := fun z => by
        rw [z, hst1] at hlp0
        cases hlp0
      refine ⟨lp, rfl, ⟨_, SqL.of hlp⟩, for_list (xs := ps'.map V.int) (fun j σ H' => Same H H' ∧ H' lp = some (.lst (ps'.map V.int)) ∧ ∃ (v7 v8 : Option V), σ = [some (.ref a), some (.int (d + 1 : Nat)), some (.int b), some (.int k.2.s), some (.int k.2.e), some (.int k.2.p), some (.ref st), v7, v8, none] ∧ H' st = some (.lst ((k.2.s :: (ps'.take j).filterMap (entry (vals ks) k.2)).map V.int)))
        ⟨f3, hlp, _, _, rfl, e3 _ _ hst1⟩ (fun j σ H' _ ⟨_, e, _⟩ => SqL.of e) ?_ ?_⟩
      · rintro j y σ H4 hy ⟨e4, hlp4, v7', v8', rfl, hst4⟩
        obtain ⟨o, ho, rfl⟩ := of_ints hy
        have hj : j < ps'.length := (List.getElem?_eq_some_iff.mp ho).1
        have nl4 := hl.same e4
        walk_at "w"
        refine ⟨a, rfl, ⟨_, SqL.of nl4.lst⟩, fun D hD => lc_pure (xs := refs ks) (fun j => (ks[j]?).bind fun m => if m.2.p = o ∧ m.2.e ≥ k.2.e then some (V.int m.2.s) else none) (SqL.of nl4.lst) hD (by rw [refs_length]; omega) ?_ ?_⟩
        · intro j' y H5 hy e5 N M hN hM
          obtain ⟨m, hm, rfl⟩ := of_refs hy
          have tm : H5 m.1 = some (.tup [.int m.2.s, .int m.2.e, .int m.2.p]) := e5 _ _ (nl4.tus m (List.mem_of_getElem? hm))
          walk_at "w"
          refine ⟨rfl, ?_⟩
          walk_at "w"
          refine if2 (fun h1 => ?_) (fun h1 => ?_)
          · walk_at "w"
            refine if2 (fun h2 => ?_) (fun h2 => ?_)
            · walk_at "w"
              exact hN _ _ (by rw [hm]; exact if_pos ⟨h1, h2⟩) (Same.refl _)
            · exact hM _ (by rw [hm]; exact if_neg (fun z => h2 z.2)) (Same.refl _)
          · exact hM _ (by rw [hm]; exact if_neg (fun z => h1 z.1)) (Same.refl _)
        · intro H5 e5 hD5
          rw [refs_length, range_bind, fm_if (fun m : Addr × Note => m.2.p = o ∧ m.2.e ≥ k.2.e) (fun m => V.int m.2.s)] at hD5
          have em : ((ks.filter fun m => decide (m.2.p = o ∧ m.2.e ≥ k.2.e)).map fun m => V.int m.2.s) = (cand (vals ks) k.2 o).map V.int := by
            unfold cand
            rw [← vals_filter ks fun m => decide (m.p = o ∧ m.e ≥ k.2.e), List.map_map, List.map_map]
            rfl
          rw [em] at hD5
          have f5 := e4.trans e5
          have hst5 := e5 _ _ hst4
          have hlp5 := e5 _ _ hlp4
          have step := fm_take_succ (f := entry (vals ks) k.2) ho
          have keep : entry (vals ks) k.2 o = none → (ps'.take (j + 1)).filterMap (entry (vals ks) k.2) = (ps'.take j).filterMap (entry (vals ks) k.2) := fun e => by rw [step, e, List.append_nil]
          walk_at "w"
          refine ifN2 (fun h1 => ?_) (fun h1 => ?_)
          · walk_at "w"
            refine ⟨sz 0, fun u hu => ?_⟩
            have s6 := Same.new (o := .lst []) hu
            refine w_neInts (s6 _ _ hD5) upd_same ?_
            have hD6 := s6 _ _ hD5
            have hst6 := s6 _ _ hst5
            have hlp6 := s6 _ _ hlp5
            generalize upd H5 u (.lst []) = H6 at s6 hD6 hst6 hlp6 ⊢
            have f6 := f5.trans s6
            cases hc : cand (vals ks) k.2 o with
            | nil =>
              refine ⟨_, rfl, ?_⟩
              refine iteFn ?_
              walk_at "w"
              refine ⟨f6, hlp6, _, _, rfl, ?_⟩
              rw [keep (by unfold entry; rw [if_neg (fun z => z.2 hc)])]
              exact hst6
            | cons c0 cr =>
              refine ⟨_, rfl, ?_⟩
              refine iteTn ?_
              walk_at "w"
              refine ⟨.inl ⟨rfl, _, SqL.of hst6⟩, ?_⟩
              walk_at "w"
              refine ⟨D, _, rfl, SqL.of hD6, by rw [hc]; simp, fun mn hm1 hm2 => ?_⟩
              have emn := minL_uniq hm1 hm2
              walk_at "w"
              refine ⟨_, _, rfl, ?_⟩
              walk_at "w"
              have len1 : ((ps'.take j).filterMap (entry (vals ks) k.2)).length ≤ 60 := Nat.le_trans (List.length_filterMap_le _ _) (by rw [List.length_take]; omega)
              refine w_app hst6 (by rw [List.length_map, List.length_cons]; omega) ?_
              refine ⟨Same.mut f6 hst0, by rw [upd_ne nls]; exact hlp6, _, _, rfl, ?_⟩
              rw [upd_same, step]
              have ee : entry (vals ks) k.2 o = some (if mn > k.2.s then mn else k.2.s) := by
                unfold entry
                rw [if_pos ⟨h1, by rw [hc]; simp⟩, ← emn]
              rw [ee, List.map_cons, List.map_cons, List.map_append]
              rfl
          · walk_at "w"
            refine ⟨f5, hlp5, _, _, rfl, ?_⟩
            rw [keep (by unfold entry; rw [if_neg (fun z => z.1 h1)])]
            exact hst5
      · rintro σ H4 ⟨e4, hlp4, v7', v8', rfl, hst4⟩
        rw [List.length_map, List.take_length] at hst4
        walk_at "w"
        refine ⟨st, _, rfl, .inl (SqL.of hst4), ?_⟩
        rw [List.length_map]
        walk_at "w"
        refine if2 (fun hge => ?_) (fun hlt => ?_)
        · walk_at "w"
          have len2 : (ps'.filterMap (entry (vals ks) k.2)).length ≤ 60 := Nat.le_trans (List.length_filterMap_le _ _) lps
          refine ⟨st, k.2.s :: ps'.filterMap (entry (vals ks) k.2), rfl, SqL.of hst4, by rw [List.length_cons]; omega, fun ss r pss sss hr => ?_⟩
          have s7 := Same.new (o := .lst (ss.map V.int)) hr
          obtain ⟨g, hg, eg⟩ := lgap_ex (ps := ps') (n := k.2) (ns := vals ks) pss sss (by show d + 1 ≤ (k.2.s :: ps'.filterMap (entry (vals ks) k.2)).length; omega)
          walk_at "w"
          rw [show (((d + 1 : Nat) : Int)) - 1 = ((d : Nat) : Int) by omega]
          refine w_ixN upd_same (v := .int (g + k.2.e)) (by rw [List.getElem?_map, eg]; rfl) ?_
          walk_at "w"
          refine ⟨_, _, rfl, ?_⟩
          walk_at "w"
          rw [show g + k.2.e - k.2.e = g by omega]
          exact ⟨e4.trans s7, _, _, _, _, _, _, _, rfl, lb.put (vals_get hk) hg⟩
        · walk_at "w"
          exact ⟨e4, _, _, _, _, _, _, _, rfl, lb.skip (vals_get hk) (by show ¬ d + 1 ≤ (k.2.s :: ps'.filterMap (entry (vals ks) k.2)).length; omega)⟩
    · rintro σ H1 ⟨e1, b, v3, v4, v5, v6, v7, v8, rfl, lb⟩
      rw [refs_length] at lb
      walk_at "w"
      refine q H1 b e1 fun qs hqs => ?_
      obtain rfl := hqs.uniq ip
      rw [vals_length]
      exact lb
abbrev st_law_pinch_right : Stmt := topS 45
theorem sc_law_pinch_right : FnScope ["notes", "drums", "found", "at", "index", "some", "gap", "note"] ["notes", "drums", "found"] (defScope st_law_pinch_right) := ⟨rfl, rfl, rfl, by decide +kernel, rfl, by decide +kernel, by decide +kernel⟩

def spPinchRight : Sp := fun vs H Q _ => ∃ (a : Addr) (ks : List (Addr × Note)) (d : Nat) (v : V), vs = [.ref a, .int d, v] ∧ NL H a ks ∧ ks.length ≤ 60 ∧ GoodL (vals ks) ∧ ks.Pairwise (fun x y => x.2.key ≤ y.2.key) ∧ 1 ≤ d ∧ d ≤ 12 ∧ PinchV (vals ks) d v H ∧ ∀ H' : Hp, Same H H' → Q (.bl true) H'
theorem ok_pinch_right (T : Tx K mg Cp) (c_law_pitches : Cal P w K mg base 1 "_law_pitches" ["notes"] spPitches) (c_law_least : Cal P w K mg base 2 "_law_least" ["notes", "many"] spLeast) (c_slowest : Cal P w K mg base 4 "slowest" ["part", "drums"] (spSlow Cp)) (c_Part : CalC P w K mg base Cp 5 "Part" ["self", "notes"] (spInit Cp)) {f : Addr} {fd : FuncData} (F : Fun K "_law_pinch_right" "_law_pinch_right" st_law_pinch_right f fd) : FnOk P w K mg base (L2.CX P w) 7 f fd ["notes", "drums", "found"] spPinchRight := by
  refine F.okX sc_law_pinch_right (fun vs H Q E h => ?_) (fun cdv A outer s H vs Q E hr h => ?_)
  · obtain ⟨a, ks, d, v, rfl, _⟩ := h
    rfl
  · obtain ⟨a, ks, d, v, rfl, hl, h60, good, ord, d1, d12, hv, q⟩ := h
    have hok' := good.ok
    have okk : ∀ k ∈ ks, k.2.ok := fun k hk => good.ok _ (List.mem_map_of_mem hk)
    have hl60 : (vals ks).length ≤ 60 := by rw [vals_length]; omega
    refine ⟨_, PSs.nox (pss_cons (ps_if (pt_cmpR op_le (pe_callB (r := rLenK K) cr_len (by rfl) T.m_len (by decide +kernel) (pa_cons (pe_cal c_law_pitches hr passL (pa_cons (pv 0) pa_nil)) pa_nil)) (pv 1) (nomark _))
      (pss_one (ps_ret (pe_cmpR op_isN_ (pv 2) pe_non (nomark _)))) pss_nil)
      (pss_cons (ps_if (PW.pt (pw_or (pt_not (pt_val (pe_callB (r := rIsi K) call_isi (by rfl) T.m_isinstance (by decide +kernel) (pa_cons (pv 2) (pa_cons (pe_bltn (v := .ty "list") (u := .type "list") (by rfl) T.m_list (by decide +kernel) rfl) pa_nil))))) (pw_or1 (pt_cmpR op_ne (pe_callB (r := rLenK K) cr_len (by rfl) T.m_len (by decide +kernel) (pa_cons (pv 2) pa_nil)) (pe_op op_add (pv 1) pe_int) (nomark _)))))
      (pss_one (ps_ret pe_bl)) pss_nil)
      (pss_cons (ps_for PassesOwn.never (by rfl) (pi_enum (by rfl) T.m_enumerate (pa_cons (pv 2) pa_nil)) (pg_tup (by rfl) (pgs_cons (pg_name (i := 3) sc_law_pinch_right.nd rfl (Or.inl rfl)) (pgs_cons (pg_name (i := 4) sc_law_pinch_right.nd rfl (Or.inl rfl)) pgs_nil)))
      (pss_one (ps_if (PW.pt (pw_or (pt_not (pt_val (pe_callB (r := rIsi K) call_isi (by rfl) T.m_isinstance (by decide +kernel) (pa_cons (pv 4) (pa_cons (pe_bltn (v := .ty "int") (u := .type "int") (by rfl) T.m_int (by decide +kernel) rfl) pa_nil))))) (pw_or (pt_val (pe_callB (r := rIsi K) call_isi (by rfl) T.m_isinstance (by decide +kernel) (pa_cons (pv 4) (pa_cons (pe_bltn (v := .ty "bool") (u := .type "bool") (by rfl) T.m_bool (by decide +kernel) rfl) pa_nil)))) (pw_or (pt_not (pt_chain op_le op_lt pe_int (pv 4) (pe_callB (r := rLenK K) cr_len (by rfl) T.m_len (by decide +kernel) (pa_cons (pv 0) pa_nil)))) (pw_or1 (PW.pt (pw_and (pt_cmpR op_gt (pv 3) pe_int (nomark _)) (pw_and1 (pt_cmpR op_ge (pe_ix (r := rIxL K) ix_list (pv 2) (pe_op op_sub (pv 3) pe_int) (fun _ _ => rfl)) (pv 4) (nomark _))))))))))
      (pss_one (ps_ret pe_bl)) pss_nil)))
      (pss_cons (ps_setLc (i := 5) (own := [("index", 4)]) (g := gName 4) (by rfl) sc_law_pinch_right.nd rfl rfl (sw_true rfl rfl rfl (by decide +kernel)) (pi_list (pv 2)) (blkOk_by (own := [("index", 4)]) (N := ["notes", "drums", "found", "at", "index", "some", "gap", "note"]) (sc := defScope st_law_pinch_right) (by decide +kernel)) (fun _ _ _ _ _ => pg_name (i := 4) sc_law_pinch_right.nd rfl (Or.inl rfl)) (fun _ _ _ _ _ => pts_nil) (fun _ _ _ _ _ => (pe_ix (r := rIxL K) ix_list (pv 0) (pv 4) (fun _ _ => rfl))))
      (pss_cons (ps_if (pt_cmpR op_ne (pe_callB (r := rLenK K) cr_len (by rfl) T.m_len (by decide +kernel) (pa_cons (pe_cal c_law_pitches hr passL (pa_cons (pv 5) pa_nil)) pa_nil)) (pe_op op_add (pv 1) pe_int) (nomark _))
      (pss_one (ps_ret pe_bl)) pss_nil)
      (pss_cons (ps_set (i := 6) sc_law_pinch_right.nd rfl (Or.inl rfl) (pe_op op_sub (pe_callB (r := rMax K) (cr_max rfl) (by rfl) T.m_max (by decide +kernel) (pa_cons (pe_lc (own := [("note", 7)]) (g := gName 7) (by rfl) sc_law_pinch_right.nd (pi_list (pv 5)) (blkOk_by (own := [("note", 7)]) (N := ["notes", "drums", "found", "at", "index", "some", "gap", "note"]) (sc := defScope st_law_pinch_right) (by decide +kernel)) (fun _ _ _ _ _ => pg_name (i := 7) sc_law_pinch_right.nd rfl (Or.inl rfl)) (fun _ _ _ _ _ => pts_nil) (fun _ _ _ _ _ => (pe_ix (r := rIxT K) ix_tup (pv 7) pe_int (fun _ _ => rfl)))) pa_nil)) (pe_callB (r := rMin K) (cr_min rfl) (by rfl) T.m_min (by decide +kernel) (pa_cons (pe_lc (own := [("note", 7)]) (g := gName 7) (by rfl) sc_law_pinch_right.nd (pi_list (pv 5)) (blkOk_by (own := [("note", 7)]) (N := ["notes", "drums", "found", "at", "index", "some", "gap", "note"]) (sc := defScope st_law_pinch_right) (by decide +kernel)) (fun _ _ _ _ _ => pg_name (i := 7) sc_law_pinch_right.nd rfl (Or.inl rfl)) (fun _ _ _ _ _ => pts_nil) (fun _ _ _ _ _ => (pe_ix (r := rIxT K) ix_tup (pv 7) pe_int (fun _ _ => rfl)))) pa_nil))))
      (pss_one (ps_ret (pe_and (pe_cmpR op_eq (pv 6) (pe_cal c_law_least hr passL (pa_cons (pv 0) (pa_cons (pe_op op_add (pv 1) pe_int) pa_nil))) (nomark _)) (pe_one (pe_cmpR op_eq (pe_cal c_slowest hr passL (pa_cons (pe_calC c_Part hr passL (pa_cons (pv 0) pa_nil)) (pa_cons (pv 1) pa_nil))) (pe_callB (call_max2 rfl) (by rfl) T.m_max (by decide +kernel) (pa_cons pe_int (pa_cons (pv 6) pa_nil))) (nomark _)))))))))))), ?_⟩
    walk_at "w"
    refine ⟨a, ks, rfl, hl, h60, fun H1 lp ps e1 _ hlp hps _ => ?_⟩
    walk_at "w"
    refine ⟨lp, _, rfl, .inl (SqL.of hlp), ?_⟩
    rw [List.length_map]
    walk_at "w"
    rcases hv with ⟨rfl, hno⟩ | ⟨l, idx, g, R, j, n, rfl, hidx, pin⟩
    · refine ifT (by have := hno ps hps; omega) ?_
      walk_at "w"
      exact q H1 e1
    · have hmany : d + 1 ≤ ps.length := gap_few (pin.fam j (List.getElem?_eq_some_iff.mp pin.at_).1) pin.at_ (by have := pin.many; omega) hps
      obtain ⟨il, ib⟩ := pin.bound
      rw [vals_length] at ib
      have sd := pin.sd
      refine ifF (by omega) ?_
      walk_at "w"
      refine w_isi (.ty "list") (.base (.lst (e1 _ _ hidx))) kit_list_list ?_
      walk_at "w"
      refine ⟨l, _, rfl, .inl (SqL.of (e1 _ _ hidx)), ?_⟩
      rw [List.length_map, il]
      walk_at "w"
      refine ifNF (by omega) ?_
      walk_at "w"
      refine ⟨l, _, rfl, SqL.of (e1 _ _ hidx), for_enum (xs := idx.map V.int) (fun i σ H' => Same H H' ∧ ∃ (v3 v4 : Option V), σ = [some (.ref a), some (.int d), some (.ref l), v3, v4, none, none, none])
        ⟨e1, none, none, rfl⟩ (fun i σ H' _ ⟨e, _⟩ => SqL.of (e _ _ hidx)) ?_ ?_⟩
      · rintro i x U σ H3 hx ⟨e3, v3, v4, rfl⟩ hU
        obtain ⟨c, hc, rfl⟩ := of_ints hx
        have hcb := ib c (List.mem_of_getElem? hc)
        have s34 := Same.new (o := .tup [.int (i : Nat), .int c]) hU
        generalize hH4 : upd H3 U (.tup [.int (i : Nat), .int c]) = H4 at s34
        have e4 : Same H H4 := e3.trans s34
        have hU4 : H4 U = some (.tup [.int (i : Nat), .int c]) := by rw [← hH4]; exact upd_same
        walk_at "w"
        refine w_gtup hU4 rfl ?_
        walk_at "w"
        refine w_isi (.ty "int") (.base (.int c)) kit_int_int ?_
        walk_at "w"
        refine w_isi (.ty "bool") (.base (.int c)) kit_int_bool ?_
        walk_at "w"
        refine ifT hcb.1 ?_
        walk_at "w"
        refine ⟨a, _, rfl, .inl (SqL.of (hl.same e4).lst), ?_⟩
        rw [refs_length]
        walk_at "w"
        rw [decide_eq_true hcb.2]
        walk_at "w"
        refine if2 (fun hi => ?_) (fun hi => ?_)
        · obtain ⟨b, hb⟩ : ∃ b, i = b + 1 := ⟨i - 1, by omega⟩
          have hbl : b < idx.length := by have := (List.getElem?_eq_some_iff.mp hc).1; omega
          have kb : idx[b]? = some idx[b] := List.getElem?_eq_getElem hbl
          have lt := pairwise_get sd (show b < i by omega) kb hc
          walk_at "w"
          rw [show ((i : Nat) : Int) - 1 = ((b : Nat) : Int) by omega]
          refine w_ixN (e4 _ _ hidx) (v := .int idx[b]) (by rw [List.getElem?_map, kb]; rfl) ?_
          walk_at "w"
          refine ifF (by omega) ?_
          walk_at "w"
          exact ⟨e4, _, _, rfl⟩
        · walk_at "w"
          exact ⟨e4, _, _, rfl⟩
      · rintro σ H3 ⟨e3, v3, v4, rfl⟩
        walk_at "w"
        refine ⟨l, rfl, ⟨_, SqL.of (e3 _ _ hidx)⟩, fun D hD => lc_pure (xs := idx.map V.int) (fun t => (idx[t]?).bind fun i => (ks[i.toNat]?).map fun k => V.ref k.1) (SqL.of (e3 _ _ hidx)) hD (by rw [List.length_map]; omega) ?_ ?_⟩
        · intro t y H4 hy e4 N M hN hM
          obtain ⟨c, hc, rfl⟩ := of_ints hy
          have hcb := ib c (List.mem_of_getElem? hc)
          have kc : ks[c.toNat]? = some ks[c.toNat] := List.getElem?_eq_getElem (by omega)
          walk_at "w"
          refine ⟨rfl, ?_⟩
          walk_at "w"
          refine w_ixL (e4 _ _ (e3 _ _ hl.lst)) hcb.1 (refs_get kc) ?_
          exact hN _ _ (by rw [hc]; show (ks[c.toNat]?).map _ = _; rw [kc]; rfl) (Same.refl _)
        · intro H4 e4 hD4
          rw [List.length_map, range_bind, refs_sel] at hD4
          have f4 := e3.trans e4
          have nlS : NL H4 D (seln ks idx) := ⟨hD4, fun k hk => f4 _ _ (hl.tus k (mem_sel hk))⟩
          have lS : (seln ks idx).length ≤ 13 := Nat.le_trans len_sel (by omega)
          obtain ⟨pr1, pr2, pr3⟩ := pin.right
          have evS := vals_sel ks idx
          walk_at "w"
          refine ⟨D, seln ks idx, rfl, nlS, by omega, fun H5 l5 ps5 e5 _ hl5 hps5 _ => ?_⟩
          rw [evS] at hps5
          walk_at "w"
          refine ⟨l5, _, rfl, .inl (SqL.of hl5), ?_⟩
          rw [List.length_map, pr1 ps5 hps5]
          walk_at "w"
          refine ifNF (by omega) ?_
          have nlS5 := nlS.same e5
          have comp : ∀ (H6 : Hp) (fn : Note → Int), (List.range (refs (seln ks idx)).length).filterMap (fun t => ((seln ks idx)[t]?).map fun k => V.int (fn k.2)) = ((seln (vals ks) idx).map fn).map V.int := fun H6 fn => by
            rw [refs_length, filterMap_all (seln ks idx) (fun k => V.int (fn k.2)) _ fun i x h => by rw [h]; rfl, ← evS, List.map_map, List.map_map]
            rfl
          walk_at "w"
          refine ⟨D, rfl, ⟨_, SqL.of nlS5.lst⟩, fun D2 hD2 => lc_pure (xs := refs (seln ks idx)) (fun t => ((seln ks idx)[t]?).map fun k => V.int k.2.s) (SqL.of nlS5.lst) hD2 (by rw [refs_length]; omega) ?_ ?_⟩
          · intro t y H6 hy e6 N M hN hM
            obtain ⟨k, hk, rfl⟩ := of_refs hy
            have tk : H6 k.1 = some (.tup [.int k.2.s, .int k.2.e, .int k.2.p]) := e6 _ _ (nlS5.tus k (List.mem_of_getElem? hk))
            walk_at "w"
            refine ⟨rfl, ?_⟩
            walk_at "w"
            exact hN _ _ (by rw [hk]; rfl) (Same.refl _)
          · intro H6 e6 hD6
            rw [comp H6 (·.s)] at hD6
            have nlS6 := nlS5.same e6
            walk_at "w"
            have lpos : 0 < (seln (vals ks) idx).length := by
              obtain ⟨ms, pm, _⟩ := pin.sel
              rw [pm.length_eq]
              simp
            refine ⟨D2, _, rfl, SqL.of hD6, by rw [List.length_map]; exact lpos, fun mx h1 h2 => ?_⟩
            have emx := pr2 mx h1 h2
            walk_at "w"
            refine ⟨D, rfl, ⟨_, SqL.of nlS6.lst⟩, fun D3 hD3 => lc_pure (xs := refs (seln ks idx)) (fun t => ((seln ks idx)[t]?).map fun k => V.int k.2.e) (SqL.of nlS6.lst) hD3 (by rw [refs_length]; omega) ?_ ?_⟩
            · intro t y H7 hy e7 N M hN hM
              obtain ⟨k, hk, rfl⟩ := of_refs hy
              have tk : H7 k.1 = some (.tup [.int k.2.s, .int k.2.e, .int k.2.p]) := e7 _ _ (nlS6.tus k (List.mem_of_getElem? hk))
              walk_at "w"
              refine ⟨rfl, ?_⟩
              walk_at "w"
              exact hN _ _ (by rw [hk]; rfl) (Same.refl _)
            · intro H7 e7 hD7
              rw [comp H7 (·.e)] at hD7
              walk_at "w"
              refine ⟨D3, _, rfl, SqL.of hD7, by rw [List.length_map]; exact lpos, fun mn h3 h4 => ?_⟩
              have emn := pr3 mn h3 h4
              obtain rfl : mx = g + n.e := emx
              obtain rfl : mn = n.e := emn
              have f7 := f4.trans (e5.trans (e6.trans e7))
              walk_at "w"
              rw [show g + n.e - n.e = g by omega]
              refine ⟨a, ks, d, rfl, hl.same f7, h60, okk, by omega, fun H8 b e8 hb => ?_⟩
              have gs : GapSem (vals ks) d g := gap_sem hl60 hok' pin.fam pin.at_ pin.many pin.gap pin.min
              obtain rfl : b = g := ((hb ps hps).sem hok' hps (by omega)).uniq gs
              walk_at "w"
              rw [decide_eq_true rfl]
              walk_at "w"
              intro x dx hx hdx hne
              refine ⟨x, dx, a, ks, rfl, upd_same, NL.made (hl.same (f7.trans e8)) hx hdx hne, h60, good, fun H9 js pj oj keep part => ⟨rfl, ?_⟩⟩
              have e9 := Same.make hx hdx keep
              have ev := vals_sorted pj oj ord okk
              walk_at "w"
              refine ⟨x, js, d, rfl, part, by rw [pj.length_eq]; omega, fun k hk => okk k (pj.mem_iff.mp hk), oj, d1, d12, fun H10 R' v' e10 hR' hv' => ?_⟩
              rw [ev] at hR' hv'
              obtain rfl := SlowV.gap hl60 hok' hR' hps (by omega) gs hv'
              walk_at "w"
              refine ⟨_, _, rfl, ?_⟩
              walk_at "w"
              rw [decide_eq_true rfl]
              exact q _ (f7.trans (e8.trans (e9.trans e10)))
abbrev st_law : Stmt := topS 46
theorem sc_law : FnScope ["script", "k", "box", "notes", "drums", "found"] ["script"] (defScope st_law) := ⟨rfl, rfl, rfl, by decide +kernel, rfl, by decide +kernel, by decide +kernel⟩

def spLaw (K : PySem.W.Frag) : Sp := fun vs H Q _ => ∃ (a : Addr) (ns : List Int), vs = [.ref a] ∧ SqL K H a (ns.map V.int) ∧ ns.length ≤ 63 ∧ ∀ H', Q (.bl true) H'
theorem okG_law (T : Tx K mg Cp) (c_law_cell : Cal P w K mg base 1 "_law_cell" ["script", "k"] (spCell K)) (c_law_box : Cal P w K mg base 1 "_law_box" ["cell"] spBox) (c_law_take : Cal P w K mg base 1 "_law_take" ["box", "many"] spTake)
    (c_law_even : CalG P w K mg base 1 "_law_even" ["told", "due"] (spEven K)) (c_law_notes : Cal P w K mg base 2 "_law_notes" ["box", "most"] spLNotes)
    (c_law_pinch_right : Cal P w K mg base 7 "_law_pinch_right" ["notes", "drums", "found"] spPinchRight) (c_pinch : Cal P w K mg base 4 "pinch" ["part", "drums"] (spPinch Cp)) (c_Part : CalC P w K mg base Cp 5 "Part" ["self", "notes"] (spInit Cp))
    {f : Addr} {fd : FuncData} (F : Fun K "law" "law" st_law f fd) : FnG P w K mg base (L2.CX P w) 8 f fd ["script"] (spLaw K) := by
  refine F.okG sc_law (fun vs H Q E h => ?_) (fun cdv A hG outer s H vs Q E hr h => ?_)
  · obtain ⟨a, ns, rfl, _⟩ := h
    rfl
  · obtain ⟨a, ns, rfl, hS, h63, q⟩ := h
    refine ⟨_, PSs.nox (pss_cons (ps_for PassesOwn.never (by rfl) (pi_range1 (by rfl) T.m_range (pa_cons (pe_callB (call_max2 rfl) (by rfl) T.m_max (by decide +kernel) (pa_cons pe_int (pa_cons (pe_callB (call_min2 rfl) (by rfl) T.m_min (by decide +kernel) (pa_cons pe_int (pa_cons (pe_callB (r := rLenK K) cr_len (by rfl) T.m_len (by decide +kernel) (pa_cons (pv 0) pa_nil)) pa_nil))) pa_nil))) pa_nil)) (pg_name (i := 1) sc_law.nd rfl (Or.inl rfl))
      (pss_cons (ps_set (i := 2) sc_law.nd rfl (Or.inl rfl) (pe_cal c_law_box hr passL (pa_cons (pe_cal c_law_cell hr passL (pa_cons (pv 0) (pa_cons (pv 1) pa_nil))) pa_nil)))
      (pss_cons (ps_set (i := 3) sc_law.nd rfl (Or.inl rfl) (pe_cal c_law_notes hr passL (pa_cons (pv 2) (pa_cons (pe_ix (r := rIxL K) ix_list (pe_lst (pa_cons pe_int (pa_cons pe_int pa_nil))) (pe_cal c_law_take hr passL (pa_cons (pv 2) (pa_cons pe_int pa_nil))) (fun _ _ => rfl)) pa_nil))))
      (pss_one (ps_for PassesOwn.never (by rfl) (pi_list (pe_lst (pa_cons pe_int (pa_cons pe_int (pa_cons pe_int (pa_cons (pe_op op_add pe_int (pe_cal c_law_take hr passL (pa_cons (pv 2) (pa_cons pe_int pa_nil)))) pa_nil)))))) (pg_name (i := 4) sc_law.nd rfl (Or.inl rfl))
      (pss_cons (ps_set (i := 5) sc_law.nd rfl (Or.inl rfl) (pe_cal c_pinch hr passL (pa_cons (pe_calC c_Part hr passL (pa_cons (pv 3) pa_nil)) (pa_cons (pv 4) pa_nil))))
      (pss_one (ps_if (PW.pt (pw_or (pt_not (pt_val (pe_cal c_law_pinch_right hr passL (pa_cons (pv 3) (pa_cons (pv 4) (pa_cons (pv 5) pa_nil)))))) (pw_or1 (pt_not (pt_val (pe_calG hG c_law_even hr passL (pa_cons (pe_cal c_pinch hr passL (pa_cons (pe_calC c_Part hr passL (pa_cons (pv 3) pa_nil)) (pa_cons (pv 4) pa_nil))) (pa_cons (pv 5) pa_nil))))))))
      (pss_one (ps_ret pe_bl)) pss_nil))))))))
      (pss_one (ps_ret (pe_calG hG c_law_even hr passL (pa_cons (pe_cal c_pinch hr passL (pa_cons (pe_calC c_Part hr passL (pa_cons (pe_lst (pa_cons (pe_tup (pa_cons pe_int (pa_cons pe_int (pa_cons pe_int pa_nil)))) (pa_cons (pe_tup (pa_cons pe_int (pa_cons pe_int (pa_cons pe_int pa_nil)))) (pa_cons (pe_tup (pa_cons pe_int (pa_cons pe_int (pa_cons pe_int pa_nil)))) pa_nil)))) pa_nil)) (pa_cons pe_int pa_nil))) (pa_cons (pe_lst (pa_cons pe_int (pa_cons pe_int pa_nil))) pa_nil)))))), ?_⟩
    walk_at "w"
    refine ⟨a, _, rfl, .inl hS, ?_⟩
    walk_at "w"
    rw [List.length_map]
    refine ⟨_, _, rfl, ?_⟩
    walk_at "w"
    refine ⟨_, _, rfl, ?_⟩
    walk_at "w"
    generalize hz : (if (if (ns.length : Int) < 8 then (ns.length : Int) else 8) > 2 then (if (ns.length : Int) < 8 then (ns.length : Int) else 8) else 2) = z
    have z8 : z ≤ 8 := by rw [← hz]; split <;> (split <;> omega)
    have z2 : 2 ≤ z := by rw [← hz]; split <;> (split <;> omega)
    refine ⟨z, rfl, by omega, by omega, ?_⟩
    refine for_range (fun i σ H' => Same H H' ∧ ∃ (v1 v2 v3 v4 v5 : Option V), σ = [some (.ref a), v1, v2, v3, v4, v5]) ⟨Same.refl H, _, _, _, _, _, rfl⟩ ?_ ?_
    · rintro i σ H1 hi ⟨e1, v1, v2, v3, v4, v5, rfl⟩
      walk_at "w"
      refine ⟨a, ns, i, by rw [Int.zero_add]; rfl, Same.seq e1 hS, fun c => ?_⟩
      walk_at "w"
      refine ⟨c, rfl, fun b H2 hb e2 bx => ?_⟩
      have hb0 : H b = none := Same.fresh e1 hb
      have f2 : Same H H2 := e1.trans e2
      walk_at "w"
      refine ⟨sz 2, fun l1 hl1 => ?_⟩
      walk_at "w"
      refine ⟨b, _, _, rfl, bx.new hl1, by omega, by omega, by omega, fun r1 H3 r10 r11 x3 b3 => ?_⟩
      have f3 : Same H H3 := x3.same (f2.trans (Same.new hl1)) hb0
      refine w_pickI (ns := [20, 8]) (x3.at_ _ _ (bx.ne hl1) upd_same) r10 r11 fun most hmost => ?_
      have hmost' : most = ((most.toNat : Nat) : Int) ∧ 4 ≤ most.toNat ∧ most.toNat ≤ 60 := by simp only [List.mem_cons, List.not_mem_nil, or_false] at hmost; omega
      walk_at "w"
      refine ⟨b, most.toNat, _, by rw [← hmost'.1]; rfl, b3, hmost'.2.1, hmost'.2.2, by omega, fun H4 l ks x4 b4 nl hl0 fr nd hlen good ord bd0 => ?_⟩
      have f4 : Same H H4 := x4.same f3 hb0
      have okk : ∀ k ∈ ks, k.2.ok := fun k hk => good.ok _ (List.mem_map_of_mem hk)
      have hl60 : (vals ks).length ≤ 60 := by rw [vals_length]; omega
      walk_at "w"
      refine ⟨b, _, _, rfl, b4, by omega, by omega, by omega, fun r2 H7 r20 r21 x7 b7 => ?_⟩
      have f7 : Same H H7 := x7.same f4 hb0
      have nl7 := nl.ex b4 x7
      walk_at "w"
      refine ⟨sz 4, fun l2 hl2 => ?_⟩
      have e8 := Same.new (o := .lst [.int 1, .int 2, .int 3, .int (1 + r2)]) hl2
      refine ⟨l2, rfl, ⟨_, SqL.of upd_same⟩, for_list (xs := [1, 2, 3, 1 + r2].map V.int) (fun i' σ H' => Same H7 H' ∧ H' l2 = some (.lst ([1, 2, 3, 1 + r2].map V.int)) ∧ ∃ v4 v5, σ = [some (.ref a), some (.int (0 + i)), some (.ref b), some (.ref l), v4, v5]) ⟨e8, upd_same, _, _, rfl⟩ (fun i σ H' _ ⟨_, e, _⟩ => SqL.of e) ?_ ?_⟩
      · rintro i' y σ H8 hy ⟨e9, hl9, v4', v5', rfl⟩
        obtain ⟨d, hd, rfl⟩ := of_ints hy
        have hd12 : 1 ≤ d ∧ d ≤ 12 := by
          have := List.mem_of_getElem? hd
          simp only [List.mem_cons, List.not_mem_nil, or_false] at this
          omega
        have hdn : d = ((d.toNat : Nat) : Int) := by omega
        generalize d.toNat = dn at hdn
        subst hdn
        have d1 : 1 ≤ dn := by omega
        have d12 : dn ≤ 12 := by omega
        have nl8 := nl7.same e9
        walk_at "w"
        intro x dx hx hdx hne
        refine ⟨x, dx, l, ks, rfl, upd_same, NL.made nl8 hx hdx hne, by omega, good, fun H9 js pj oj keep part => ⟨rfl, ?_⟩⟩
        have g9 := Same.make hx hdx keep
        have ev := vals_sorted pj oj ord okk
        walk_at "w"
        refine ⟨x, js, dn, rfl, part, by rw [pj.length_eq]; omega, fun k hk => okk k (pj.mem_iff.mp hk), oj, d1, d12, fun H10 v e10 hv => ?_⟩
        rw [ev] at hv
        have f10 := e9.trans (g9.trans e10)
        walk_at "w"
        refine ⟨l, ks, dn, v, rfl, nl7.same f10, by omega, good, ord, d1, d12, hv, fun H11 e11 => ?_⟩
        walk_at "w"
        intro x2 dx2 hx2 hdx2 hne2
        refine ⟨x2, dx2, l, ks, rfl, upd_same, NL.made (nl7.same (f10.trans e11)) hx2 hdx2 hne2, by omega, good, fun H12 js2 pj2 oj2 keep2 part2 => ⟨rfl, ?_⟩⟩
        have g12 := Same.make hx2 hdx2 keep2
        have ev2 := vals_sorted pj2 oj2 ord okk
        walk_at "w"
        refine ⟨x2, js2, dn, rfl, part2, by rw [pj2.length_eq]; omega, fun k hk => okk k (pj2.mem_iff.mp hk), oj2, d1, d12, fun H13 v2 e13 hv2 => ?_⟩
        rw [ev2] at hv2
        obtain ⟨Dt, D1, D2, D3⟩ := PinchV.data (K := K) hl60 good d12 hv2 (hv.same (e11.trans (g12.trans e13)))
        walk_at "w"
        refine spEven_eq2 (d := Dt) D1 D2 D3 ?_
        walk_at "w"
        have f13 := f10.trans (e11.trans (g12.trans e13))
        exact ⟨f13, (g9.trans (e10.trans (e11.trans (g12.trans e13)))) _ _ hl9, _, _, rfl⟩
      · rintro σ H8 ⟨e9, hl9, v4', v5', rfl⟩
        exact ⟨f7.trans e9, _, _, _, _, _, rfl⟩
    · rintro σ H1 ⟨e1, v1, v2, v3, v4, v5, rfl⟩
      walk_at "w"
      refine ⟨sz 3, fun t1 ht1 => ?_⟩
      walk_at "w"
      refine ⟨sz 3, fun t2 ht2 => ?_⟩
      walk_at "w"
      refine ⟨sz 3, fun t3 ht3 => ?_⟩
      walk_at "w"
      refine ⟨sz 3, fun l1 hl1 => ?_⟩
      obtain ⟨nl1, s1⟩ := mk3 ⟨0, 0, 7⟩ ⟨5, 5, 9⟩ ⟨6, 6, 7⟩ ht1 ht2 ht3 hl1
      walk_at "w"
      intro x dx hx hdx hne
      refine ⟨x, dx, l1, _, rfl, upd_same, NL.made nl1 hx hdx hne, (show 3 ≤ 60 by decide), g32, fun H2 js pj oj keep part => ⟨rfl, ?_⟩⟩
      have ev := vals_sorted' (ns := ex32) pj oj (.refl _) o32 g32.ok
      have okj : ∀ k ∈ js, k.2.ok := fun k hk => g32.ok _ (by rw [← ev]; exact List.mem_map_of_mem hk)
      walk_at "w"
      refine ⟨x, js, 1, rfl, part, by rw [pj.length_eq]; show 3 ≤ 60; decide, okj, oj, by decide, by decide, fun H3 v e3 hv => ?_⟩
      rw [ev] at hv
      obtain ⟨lv, rfl, hlv⟩ := hv.ex32
      walk_at "w"
      refine ⟨sz 2, fun l4 hl4 => ?_⟩
      have s4 := Same.new (o := .lst [.int 1, .int 2]) hl4
      walk_at "w"
      refine spEven_eq2 (d := dL [1, 2]) (Dp.lints (ns := [1, 2]) (s4 _ _ hlv)) (Dp.lints (ns := [1, 2]) upd_same) ((FD.dL (by decide)).fine (by decide) (by decide)) (q _)
end
theorem all_mk {l : PySem.W.OpenLaw} {w : World} {K : PySem.W.Frag} {h : Heap} {mg : Str → Option Value} {fa Cp f0 f1 f2 f3 f4 f5 f6 f7 f8 f9 f10 f11 f12 f13 f14 f15 f16 f17 f18 f19 f20 f21 f22 : Addr} (X : K.In h) (G : h.Ns mainGlobals mg) (hfa : mg "law" = some (.ref fa))
    {oc0 kV0 dc0 pm0 cd0 ct0 : Value} {od0 an0 : Option Addr} {sl0 : Array (Option Value)} {oc1 kV1 dc1 pm1 cd1 ct1 : Value} {od1 an1 : Option Addr} {sl1 : Array (Option Value)} {oc2 kV2 dc2 pm2 cd2 ct2 : Value} {od2 an2 : Option Addr} {sl2 : Array (Option Value)} {oc3 kV3 dc3 pm3 cd3 ct3 : Value} {od3 an3 : Option Addr} {sl3 : Array (Option Value)} {oc4 kV4 dc4 pm4 cd4 ct4 : Value} {od4 an4 : Option Addr} {sl4 : Array (Option Value)} {oc5 kV5 dc5 pm5 cd5 ct5 : Value} {od5 an5 : Option Addr} {sl5 : Array (Option Value)} {oc6 kV6 dc6 pm6 cd6 ct6 : Value} {od6 an6 : Option Addr} {sl6 : Array (Option Value)} {oc7 kV7 dc7 pm7 cd7 ct7 : Value} {od7 an7 : Option Addr} {sl7 : Array (Option Value)} {oc8 kV8 dc8 pm8 cd8 ct8 : Value} {od8 an8 : Option Addr} {sl8 : Array (Option Value)} {oc9 kV9 dc9 pm9 cd9 ct9 : Value} {od9 an9 : Option Addr} {sl9 : Array (Option Value)} {oc10 kV10 dc10 pm10 cd10 ct10 : Value} {od10 an10 : Option Addr} {sl10 : Array (Option Value)} {oc11 kV11 dc11 pm11 cd11 ct11 : Value} {od11 an11 : Option Addr} {sl11 : Array (Option Value)} {oc12 kV12 dc12 pm12 cd12 ct12 : Value} {od12 an12 : Option Addr} {sl12 : Array (Option Value)} {oc13 kV13 dc13 pm13 cd13 ct13 : Value} {od13 an13 : Option Addr} {sl13 : Array (Option Value)} {oc14 kV14 dc14 pm14 cd14 ct14 : Value} {od14 an14 : Option Addr} {sl14 : Array (Option Value)} {oc15 kV15 dc15 pm15 cd15 ct15 : Value} {od15 an15 : Option Addr} {sl15 : Array (Option Value)} {oc16 kV16 dc16 pm16 cd16 ct16 : Value} {od16 an16 : Option Addr} {sl16 : Array (Option Value)} {oc17 kV17 dc17 pm17 cd17 ct17 : Value} {od17 an17 : Option Addr} {sl17 : Array (Option Value)} {oc18 kV18 dc18 pm18 cd18 ct18 : Value} {od18 an18 : Option Addr} {sl18 : Array (Option Value)} {oc19 kV19 dc19 pm19 cd19 ct19 : Value} {od19 an19 : Option Addr} {sl19 : Array (Option Value)} {oc20 kV20 dc20 pm20 cd20 ct20 : Value} {od20 an20 : Option Addr} {sl20 : Array (Option Value)} {oc21 kV21 dc21 pm21 cd21 ct21 : Value} {od21 an21 : Option Addr} {sl21 : Array (Option Value)} {oc22 kV22 dc22 pm22 cd22 ct22 : Value} {od22 an22 : Option Addr} {sl22 : Array (Option Value)} {t_HIGHEST : _} {t_LAST : _} {t_MOST_NOTES : _} {t_MOST_DRUMS : _}
    (aC : PySem.W.nsIn K mainGlobals "Part" = some (some (.ref Cp)))
    (a0 : PySem.W.nsIn K mainGlobals "is_integer" = some (some (.ref f0)))
    (l0 : K.lookup f0 = some ⟨oc0, od0, .func (PySem.W.fnOf "is_integer" "is_integer" (defArgs st_is_integer) (defBody st_is_integer) (defScope st_is_integer) .none kV0 dc0 pm0 an0 cd0 ct0), sl0⟩)
    (c0 : PySem.W.codeIn K cd0 "is_integer" = true)
    (k0 : PySem.W.keepIn K (.ref f0) = true)
    (a1 : PySem.W.nsIn K mainGlobals "is_list" = some (some (.ref f1)))
    (l1 : K.lookup f1 = some ⟨oc1, od1, .func (PySem.W.fnOf "is_list" "is_list" (defArgs st_is_list) (defBody st_is_list) (defScope st_is_list) .none kV1 dc1 pm1 an1 cd1 ct1), sl1⟩)
    (c1 : PySem.W.codeIn K cd1 "is_list" = true)
    (k1 : PySem.W.keepIn K (.ref f1) = true)
    (a2 : PySem.W.nsIn K mainGlobals "is_pitch" = some (some (.ref f2)))
    (l2 : K.lookup f2 = some ⟨oc2, od2, .func (PySem.W.fnOf "is_pitch" "is_pitch" (defArgs st_is_pitch) (defBody st_is_pitch) (defScope st_is_pitch) .none kV2 dc2 pm2 an2 cd2 ct2), sl2⟩)
    (c2 : PySem.W.codeIn K cd2 "is_pitch" = true)
    (k2 : PySem.W.keepIn K (.ref f2) = true)
    (a3 : PySem.W.nsIn K mainGlobals "is_note" = some (some (.ref f3)))
    (l3 : K.lookup f3 = some ⟨oc3, od3, .func (PySem.W.fnOf "is_note" "is_note" (defArgs st_is_note) (defBody st_is_note) (defScope st_is_note) .none kV3 dc3 pm3 an3 cd3 ct3), sl3⟩)
    (c3 : PySem.W.codeIn K cd3 "is_note" = true)
    (k3 : PySem.W.keepIn K (.ref f3) = true)
    (a4 : PySem.W.nsIn K mainGlobals "need_note" = some (some (.ref f4)))
    (l4 : K.lookup f4 = some ⟨oc4, od4, .func (PySem.W.fnOf "need_note" "need_note" (defArgs st_need_note) (defBody st_need_note) (defScope st_need_note) .none kV4 dc4 pm4 an4 cd4 ct4), sl4⟩)
    (c4 : PySem.W.codeIn K cd4 "need_note" = true)
    (k4 : PySem.W.keepIn K (.ref f4) = true)
    (a5 : PySem.W.findIn K (.ref Cp) "__init__" = some (some (.ref f5)))
    (i5 : PySem.W.isFn K (.ref f5) = true)
    (l5 : K.lookup f5 = some ⟨oc5, od5, .func (PySem.W.fnOf "__init__" "Part.__init__" (defArgs st_Part___init) (defBody st_Part___init) (defScope st_Part___init) .none kV5 dc5 pm5 an5 cd5 ct5), sl5⟩)
    (c5 : PySem.W.codeIn K cd5 "Part.__init__" = true)
    (k5 : PySem.W.keepIn K (.ref f5) = true)
    (a6 : PySem.W.nsIn K mainGlobals "need_part" = some (some (.ref f6)))
    (l6 : K.lookup f6 = some ⟨oc6, od6, .func (PySem.W.fnOf "need_part" "need_part" (defArgs st_need_part) (defBody st_need_part) (defScope st_need_part) .none kV6 dc6 pm6 an6 cd6 ct6), sl6⟩)
    (c6 : PySem.W.codeIn K cd6 "need_part" = true)
    (k6 : PySem.W.keepIn K (.ref f6) = true)
    (a7 : PySem.W.findIn K (.ref Cp) "notes" = some (some (.ref f7)))
    (i7 : PySem.W.isFn K (.ref f7) = true)
    (l7 : K.lookup f7 = some ⟨oc7, od7, .func (PySem.W.fnOf "notes" "Part.notes" (defArgs st_Part_notes) (defBody st_Part_notes) (defScope st_Part_notes) .none kV7 dc7 pm7 an7 cd7 ct7), sl7⟩)
    (c7 : PySem.W.codeIn K cd7 "Part.notes" = true)
    (k7 : PySem.W.keepIn K (.ref f7) = true)
    (a8 : PySem.W.nsIn K mainGlobals "_law_cell" = some (some (.ref f8)))
    (l8 : K.lookup f8 = some ⟨oc8, od8, .func (PySem.W.fnOf "_law_cell" "_law_cell" (defArgs st_law_cell) (defBody st_law_cell) (defScope st_law_cell) .none kV8 dc8 pm8 an8 cd8 ct8), sl8⟩)
    (c8 : PySem.W.codeIn K cd8 "_law_cell" = true)
    (k8 : PySem.W.keepIn K (.ref f8) = true)
    (a9 : PySem.W.nsIn K mainGlobals "_law_box" = some (some (.ref f9)))
    (l9 : K.lookup f9 = some ⟨oc9, od9, .func (PySem.W.fnOf "_law_box" "_law_box" (defArgs st_law_box) (defBody st_law_box) (defScope st_law_box) .none kV9 dc9 pm9 an9 cd9 ct9), sl9⟩)
    (c9 : PySem.W.codeIn K cd9 "_law_box" = true)
    (k9 : PySem.W.keepIn K (.ref f9) = true)
    (a10 : PySem.W.nsIn K mainGlobals "_law_take" = some (some (.ref f10)))
    (l10 : K.lookup f10 = some ⟨oc10, od10, .func (PySem.W.fnOf "_law_take" "_law_take" (defArgs st_law_take) (defBody st_law_take) (defScope st_law_take) .none kV10 dc10 pm10 an10 cd10 ct10), sl10⟩)
    (c10 : PySem.W.codeIn K cd10 "_law_take" = true)
    (k10 : PySem.W.keepIn K (.ref f10) = true)
    (a11 : PySem.W.nsIn K mainGlobals "_law_even" = some (some (.ref f11)))
    (l11 : K.lookup f11 = some ⟨oc11, od11, .func (PySem.W.fnOf "_law_even" "_law_even" (defArgs st_law_even) (defBody st_law_even) (defScope st_law_even) .none kV11 dc11 pm11 an11 cd11 ct11), sl11⟩)
    (c11 : PySem.W.codeIn K cd11 "_law_even" = true)
    (k11 : PySem.W.keepIn K (.ref f11) = true)
    (a12 : PySem.W.nsIn K mainGlobals "_law_notes" = some (some (.ref f12)))
    (l12 : K.lookup f12 = some ⟨oc12, od12, .func (PySem.W.fnOf "_law_notes" "_law_notes" (defArgs st_law_notes) (defBody st_law_notes) (defScope st_law_notes) .none kV12 dc12 pm12 an12 cd12 ct12), sl12⟩)
    (c12 : PySem.W.codeIn K cd12 "_law_notes" = true)
    (k12 : PySem.W.keepIn K (.ref f12) = true)
    (a13 : PySem.W.nsIn K mainGlobals "_law_pitches" = some (some (.ref f13)))
    (l13 : K.lookup f13 = some ⟨oc13, od13, .func (PySem.W.fnOf "_law_pitches" "_law_pitches" (defArgs st_law_pitches) (defBody st_law_pitches) (defScope st_law_pitches) .none kV13 dc13 pm13 an13 cd13 ct13), sl13⟩)
    (c13 : PySem.W.codeIn K cd13 "_law_pitches" = true)
    (k13 : PySem.W.keepIn K (.ref f13) = true)
    (a14 : PySem.W.nsIn K mainGlobals "is_drum" = some (some (.ref f14)))
    (l14 : K.lookup f14 = some ⟨oc14, od14, .func (PySem.W.fnOf "is_drum" "is_drum" (defArgs st_is_drum) (defBody st_is_drum) (defScope st_is_drum) .none kV14 dc14 pm14 an14 cd14 ct14), sl14⟩)
    (c14 : PySem.W.codeIn K cd14 "is_drum" = true)
    (k14 : PySem.W.keepIn K (.ref f14) = true)
    (a15 : PySem.W.nsIn K mainGlobals "need_drums" = some (some (.ref f15)))
    (l15 : K.lookup f15 = some ⟨oc15, od15, .func (PySem.W.fnOf "need_drums" "need_drums" (defArgs st_need_drums) (defBody st_need_drums) (defScope st_need_drums) .none kV15 dc15 pm15 an15 cd15 ct15), sl15⟩)
    (c15 : PySem.W.codeIn K cd15 "need_drums" = true)
    (k15 : PySem.W.keepIn K (.ref f15) = true)
    (a16 : PySem.W.nsIn K mainGlobals "nearest" = some (some (.ref f16)))
    (l16 : K.lookup f16 = some ⟨oc16, od16, .func (PySem.W.fnOf "nearest" "nearest" (defArgs st_nearest) (defBody st_nearest) (defScope st_nearest) .none kV16 dc16 pm16 an16 cd16 ct16), sl16⟩)
    (c16 : PySem.W.codeIn K cd16 "nearest" = true)
    (k16 : PySem.W.keepIn K (.ref f16) = true)
    (a17 : PySem.W.nsIn K mainGlobals "tightest" = some (some (.ref f17)))
    (l17 : K.lookup f17 = some ⟨oc17, od17, .func (PySem.W.fnOf "tightest" "tightest" (defArgs st_tightest) (defBody st_tightest) (defScope st_tightest) .none kV17 dc17 pm17 an17 cd17 ct17), sl17⟩)
    (c17 : PySem.W.codeIn K cd17 "tightest" = true)
    (k17 : PySem.W.keepIn K (.ref f17) = true)
    (a18 : PySem.W.nsIn K mainGlobals "slowest" = some (some (.ref f18)))
    (l18 : K.lookup f18 = some ⟨oc18, od18, .func (PySem.W.fnOf "slowest" "slowest" (defArgs st_slowest) (defBody st_slowest) (defScope st_slowest) .none kV18 dc18 pm18 an18 cd18 ct18), sl18⟩)
    (c18 : PySem.W.codeIn K cd18 "slowest" = true)
    (k18 : PySem.W.keepIn K (.ref f18) = true)
    (a19 : PySem.W.nsIn K mainGlobals "pinch" = some (some (.ref f19)))
    (l19 : K.lookup f19 = some ⟨oc19, od19, .func (PySem.W.fnOf "pinch" "pinch" (defArgs st_pinch) (defBody st_pinch) (defScope st_pinch) .none kV19 dc19 pm19 an19 cd19 ct19), sl19⟩)
    (c19 : PySem.W.codeIn K cd19 "pinch" = true)
    (k19 : PySem.W.keepIn K (.ref f19) = true)
    (a20 : PySem.W.nsIn K mainGlobals "_law_least" = some (some (.ref f20)))
    (l20 : K.lookup f20 = some ⟨oc20, od20, .func (PySem.W.fnOf "_law_least" "_law_least" (defArgs st_law_least) (defBody st_law_least) (defScope st_law_least) .none kV20 dc20 pm20 an20 cd20 ct20), sl20⟩)
    (c20 : PySem.W.codeIn K cd20 "_law_least" = true)
    (k20 : PySem.W.keepIn K (.ref f20) = true)
    (a21 : PySem.W.nsIn K mainGlobals "_law_pinch_right" = some (some (.ref f21)))
    (l21 : K.lookup f21 = some ⟨oc21, od21, .func (PySem.W.fnOf "_law_pinch_right" "_law_pinch_right" (defArgs st_law_pinch_right) (defBody st_law_pinch_right) (defScope st_law_pinch_right) .none kV21 dc21 pm21 an21 cd21 ct21), sl21⟩)
    (c21 : PySem.W.codeIn K cd21 "_law_pinch_right" = true)
    (k21 : PySem.W.keepIn K (.ref f21) = true)
    (a22 : PySem.W.nsIn K mainGlobals "law" = some (some (.ref f22)))
    (l22 : K.lookup f22 = some ⟨oc22, od22, .func (PySem.W.fnOf "law" "law" (defArgs st_law) (defBody st_law) (defScope st_law) .none kV22 dc22 pm22 an22 cd22 ct22), sl22⟩)
    (c22 : PySem.W.codeIn K cd22 "law" = true)
    (k22 : PySem.W.keepIn K (.ref f22) = true)
    (z_int : PySem.W.nsIn K mainGlobals "int" = some none)
    (z_bool : PySem.W.nsIn K mainGlobals "bool" = some none)
    (z_list : PySem.W.nsIn K mainGlobals "list" = some none)
    (z_tuple : PySem.W.nsIn K mainGlobals "tuple" = some none)
    (z_isinstance : PySem.W.nsIn K mainGlobals "isinstance" = some none)
    (z_len : PySem.W.nsIn K mainGlobals "len" = some none)
    (z_sorted : PySem.W.nsIn K mainGlobals "sorted" = some none)
    (z_max : PySem.W.nsIn K mainGlobals "max" = some none)
    (z_min : PySem.W.nsIn K mainGlobals "min" = some none)
    (z_range : PySem.W.nsIn K mainGlobals "range" = some none)
    (z_repr : PySem.W.nsIn K mainGlobals "repr" = some none)
    (z_enumerate : PySem.W.nsIn K mainGlobals "enumerate" = some none)
    (z_HIGHEST : PySem.W.nsIn K mainGlobals "HIGHEST" = some (some (.int 119 t_HIGHEST)))
    (z_LAST : PySem.W.nsIn K mainGlobals "LAST" = some (some (.int 9999 t_LAST)))
    (z_MOST_NOTES : PySem.W.nsIn K mainGlobals "MOST_NOTES" = some (some (.int 60 t_MOST_NOTES)))
    (pg : PySem.W.plainGet K Cp Str.empty = true)
    (hd : PySem.W.hasDictIn K Cp = true)
    (po : PySem.W.plainOver K Cp = true)
    (sa : PySem.W.findIn K (.ref Cp) "__setattr__" = some (some (.builtin "object.__setattr__")))
    (mk : PySem.W.makesIn K Cp = true)
    (kc : PySem.W.keepIn K (.ref Cp) = true)
    (ha : PySem.W.findIn K (.ref Cp) "__class__" = some (some (.builtin "object.__class__")))
    (hn : PySem.W.specialIn K (.builtin "object.__class__") "__get__" = some (some (.builtin "getset_descriptor.__get__")))
    (ht : PySem.W.takesIn K (.builtin "object.__class__") = some true)
    (hm : PySem.W.mroIn K Cp (.type "object") = some true)
    (ni : PySem.W.subIn K (.ref Cp) (.type "int") = some false)
    (np : PySem.W.findIn K (.ref Cp) "part_notes" = some none)
    (z_MOST_DRUMS : PySem.W.nsIn K mainGlobals "MOST_DRUMS" = some (some (.int 12 t_MOST_DRUMS))) :
    ∃ fd : FuncData, (∀ (s : Shared) (v : Value), BindsTo s fd ⟨[v], []⟩ [("script", v)]) ∧ ∀ base : Heap, K.In base → base.Ns mainGlobals mg → FnG l.prog w K mg base (L2.CX l.prog w) 8 fa fd ["script"] (spLaw K) := by
  have e := hfa.symm.trans (PySem.W.mg_of X G a22)
  cases e
  have T : Tx K mg Cp := { m_int := PySem.W.mg_none_of X G z_int, m_bool := PySem.W.mg_none_of X G z_bool, m_list := PySem.W.mg_none_of X G z_list, m_tuple := PySem.W.mg_none_of X G z_tuple, m_isinstance := PySem.W.mg_none_of X G z_isinstance, m_len := PySem.W.mg_none_of X G z_len, m_sorted := PySem.W.mg_none_of X G z_sorted, m_max := PySem.W.mg_none_of X G z_max, m_min := PySem.W.mg_none_of X G z_min, m_range := PySem.W.mg_none_of X G z_range, m_repr := PySem.W.mg_none_of X G z_repr, m_enumerate := PySem.W.mg_none_of X G z_enumerate, m_HIGHEST := ⟨_, PySem.W.mg_of X G z_HIGHEST⟩, m_LAST := ⟨_, PySem.W.mg_of X G z_LAST⟩, m_MOST_NOTES := ⟨_, PySem.W.mg_of X G z_MOST_NOTES⟩, m_Part := PySem.W.mg_of X G aC, c_Part := ⟨⟨pg, hd, po, sa⟩, ha, hn, ht, hm, kit_self, kit_sub (by decide +kernel) ni⟩, n_notes := np }
  have m_MOST_DRUMS : ∃ t, mg "MOST_DRUMS" = some (.int 12 t) := ⟨_, PySem.W.mg_of X G z_MOST_DRUMS⟩
  have F0 := fun_mk (st := st_is_integer) l0 c0 k0
  have b0 := F0.binds (ps := ["value", "low", "high"]) fun _ _ _ _ _ _ us hl => match us, hl with | [_, _, _], _ => rfl
  have F1 := fun_mk (st := st_is_list) l1 c1 k1
  have b1 := F1.binds (ps := ["value", "most"]) fun _ _ _ _ _ _ us hl => match us, hl with | [_, _], _ => rfl
  have F2 := fun_mk (st := st_is_pitch) l2 c2 k2
  have b2 := F2.binds (ps := ["value"]) fun _ _ _ _ _ _ us hl => match us, hl with | [_], _ => rfl
  have F3 := fun_mk (st := st_is_note) l3 c3 k3
  have b3 := F3.binds (ps := ["value"]) fun _ _ _ _ _ _ us hl => match us, hl with | [_], _ => rfl
  have F4 := fun_mk (st := st_need_note) l4 c4 k4
  have b4 := F4.binds (ps := ["note"]) fun _ _ _ _ _ _ us hl => match us, hl with | [_], _ => rfl
  have F5 := fun_mk (st := st_Part___init) l5 c5 k5
  have b5 := F5.binds (ps := ["self", "notes"]) fun _ _ _ _ _ _ us hl => match us, hl with | [_, _], _ => rfl
  have F6 := fun_mk (st := st_need_part) l6 c6 k6
  have b6 := F6.binds (ps := ["part"]) fun _ _ _ _ _ _ us hl => match us, hl with | [_], _ => rfl
  have F7 := fun_mk (st := st_Part_notes) l7 c7 k7
  have b7 := F7.binds (ps := ["self"]) fun _ _ _ _ _ _ us hl => match us, hl with | [_], _ => rfl
  have F8 := fun_mk (st := st_law_cell) l8 c8 k8
  have b8 := F8.binds (ps := ["script", "k"]) fun _ _ _ _ _ _ us hl => match us, hl with | [_, _], _ => rfl
  have F9 := fun_mk (st := st_law_box) l9 c9 k9
  have b9 := F9.binds (ps := ["cell"]) fun _ _ _ _ _ _ us hl => match us, hl with | [_], _ => rfl
  have F10 := fun_mk (st := st_law_take) l10 c10 k10
  have b10 := F10.binds (ps := ["box", "many"]) fun _ _ _ _ _ _ us hl => match us, hl with | [_, _], _ => rfl
  have F11 := fun_mk (st := st_law_even) l11 c11 k11
  have b11 := F11.binds (ps := ["told", "due"]) fun _ _ _ _ _ _ us hl => match us, hl with | [_, _], _ => rfl
  have F12 := fun_mk (st := st_law_notes) l12 c12 k12
  have b12 := F12.binds (ps := ["box", "most"]) fun _ _ _ _ _ _ us hl => match us, hl with | [_, _], _ => rfl
  have F13 := fun_mk (st := st_law_pitches) l13 c13 k13
  have b13 := F13.binds (ps := ["notes"]) fun _ _ _ _ _ _ us hl => match us, hl with | [_], _ => rfl
  have F14 := fun_mk (st := st_is_drum) l14 c14 k14
  have b14 := F14.binds (ps := ["value", "drums"]) fun _ _ _ _ _ _ us hl => match us, hl with | [_, _], _ => rfl
  have F15 := fun_mk (st := st_need_drums) l15 c15 k15
  have b15 := F15.binds (ps := ["drums"]) fun _ _ _ _ _ _ us hl => match us, hl with | [_], _ => rfl
  have F16 := fun_mk (st := st_nearest) l16 c16 k16
  have b16 := F16.binds (ps := ["notes", "at"]) fun _ _ _ _ _ _ us hl => match us, hl with | [_, _], _ => rfl
  have F17 := fun_mk (st := st_tightest) l17 c17 k17
  have b17 := F17.binds (ps := ["part", "many"]) fun _ _ _ _ _ _ us hl => match us, hl with | [_, _], _ => rfl
  have F18 := fun_mk (st := st_slowest) l18 c18 k18
  have b18 := F18.binds (ps := ["part", "drums"]) fun _ _ _ _ _ _ us hl => match us, hl with | [_, _], _ => rfl
  have F19 := fun_mk (st := st_pinch) l19 c19 k19
  have b19 := F19.binds (ps := ["part", "drums"]) fun _ _ _ _ _ _ us hl => match us, hl with | [_, _], _ => rfl
  have F20 := fun_mk (st := st_law_least) l20 c20 k20
  have b20 := F20.binds (ps := ["notes", "many"]) fun _ _ _ _ _ _ us hl => match us, hl with | [_, _], _ => rfl
  have F21 := fun_mk (st := st_law_pinch_right) l21 c21 k21
  have b21 := F21.binds (ps := ["notes", "drums", "found"]) fun _ _ _ _ _ _ us hl => match us, hl with | [_, _, _], _ => rfl
  have F22 := fun_mk (st := st_law) l22 c22 k22
  refine ⟨PySem.W.fnOf "law" "law" (defArgs st_law) (defBody st_law) (defScope st_law) .none kV22 dc22 pm22 an22 cd22 ct22, fun s v => .of_eq rfl, fun base _ _ => ?_⟩
  have c_is_integer : Cal l.prog w K mg base 1 "is_integer" ["value", "low", "high"] (spInt K) := ⟨_, _, (ok_is_integer (P := l.prog) (w := w) (base := base) T F0), PySem.W.mg_of X G a0, k0, b0⟩
  have c_is_list : Cal l.prog w K mg base 1 "is_list" ["value", "most"] spList := ⟨_, _, (ok_is_list (P := l.prog) (w := w) (base := base) T F1), PySem.W.mg_of X G a1, k1, b1⟩
  have c_is_pitch : Cal l.prog w K mg base 2 "is_pitch" ["value"] spPitch := ⟨_, _, (ok_is_pitch (P := l.prog) (w := w) (base := base) T c_is_integer F2), PySem.W.mg_of X G a2, k2, b2⟩
  have c_is_note : Cal l.prog w K mg base 3 "is_note" ["value"] spNote := ⟨_, _, (ok_is_note (P := l.prog) (w := w) (base := base) T c_is_integer c_is_pitch F3), PySem.W.mg_of X G a3, k3, b3⟩
  have c_need_note : Cal l.prog w K mg base 4 "need_note" ["note"] spNeedNote := ⟨_, _, (ok_need_note (P := l.prog) (w := w) (base := base) T c_is_note F4), PySem.W.mg_of X G a4, k4, b4⟩
  have c_Part : CalC l.prog w K mg base Cp 5 "Part" ["self", "notes"] (spInit Cp) := ⟨_, _, (ok_part_init (P := l.prog) (w := w) (base := base) T c_is_list c_need_note F5), ⟨mk, a5, i5, kc⟩, PySem.W.mg_of X G aC, b5⟩
  have c_need_part : Cal l.prog w K mg base 1 "need_part" ["part"] (spNeedPart Cp) := ⟨_, _, (ok_need_part (P := l.prog) (w := w) (base := base) T F6), PySem.W.mg_of X G a6, k6, b6⟩
  have c_Part_notes : CalM l.prog w K mg base Cp 1 "notes" ["self"] (spNotes Cp) := ⟨⟨pg, hd, po, sa⟩, _, _, (ok_part_notes (P := l.prog) (w := w) (base := base) T F7), ⟨a7, i7, k7⟩, b7⟩
  have c_law_cell : Cal l.prog w K mg base 1 "_law_cell" ["script", "k"] (spCell K) := ⟨_, _, (ok_cell (P := l.prog) (w := w) (base := base) T F8), PySem.W.mg_of X G a8, k8, b8⟩
  have c_law_box : Cal l.prog w K mg base 1 "_law_box" ["cell"] spBox := ⟨_, _, (ok_box (P := l.prog) (w := w) (base := base) T F9), PySem.W.mg_of X G a9, k9, b9⟩
  have c_law_take : Cal l.prog w K mg base 1 "_law_take" ["box", "many"] spTake := ⟨_, _, (ok_take (P := l.prog) (w := w) (base := base)  F10), PySem.W.mg_of X G a10, k10, b10⟩
  have c_law_even : CalG l.prog w K mg base 1 "_law_even" ["told", "due"] (spEven K) := ⟨_, _, (okG_even (P := l.prog) (w := w) (base := base) T F11), PySem.W.mg_of X G a11, k11, b11⟩
  have c_law_notes : Cal l.prog w K mg base 2 "_law_notes" ["box", "most"] spLNotes := ⟨_, _, (ok_notes (P := l.prog) (w := w) (base := base) T c_law_take F12), PySem.W.mg_of X G a12, k12, b12⟩
  have c_law_pitches : Cal l.prog w K mg base 1 "_law_pitches" ["notes"] spPitches := ⟨_, _, (ok_pitches (P := l.prog) (w := w) (base := base) T F13), PySem.W.mg_of X G a13, k13, b13⟩
  have c_is_drum : Cal l.prog w K mg base 2 "is_drum" ["value", "drums"] spDrum := ⟨_, _, (ok_is_drum (P := l.prog) (w := w) (base := base) T c_is_integer F14), PySem.W.mg_of X G a14, k14, b14⟩
  have c_need_drums : Cal l.prog w K mg base 3 "need_drums" ["drums"] spNeedDrums := ⟨_, _, (ok_need_drums (P := l.prog) (w := w) (base := base) T m_MOST_DRUMS c_is_drum F15), PySem.W.mg_of X G a15, k15, b15⟩
  have c_nearest : Cal l.prog w K mg base 1 "nearest" ["notes", "at"] spNearest := ⟨_, _, (ok_nearest (P := l.prog) (w := w) (base := base) T F16), PySem.W.mg_of X G a16, k16, b16⟩
  have c_tightest : Cal l.prog w K mg base 2 "tightest" ["part", "many"] (spTight Cp) := ⟨_, _, (ok_tightest (P := l.prog) (w := w) (base := base) T c_Part_notes c_nearest F17), PySem.W.mg_of X G a17, k17, b17⟩
  have c_slowest : Cal l.prog w K mg base 4 "slowest" ["part", "drums"] (spSlow Cp) := ⟨_, _, (ok_slowest (P := l.prog) (w := w) (base := base) T c_need_part c_need_drums c_tightest F18), PySem.W.mg_of X G a18, k18, b18⟩
  have c_pinch : Cal l.prog w K mg base 4 "pinch" ["part", "drums"] (spPinch Cp) := ⟨_, _, (ok_pinch (P := l.prog) (w := w) (base := base) T c_need_part c_need_drums c_tightest F19), PySem.W.mg_of X G a19, k19, b19⟩
  have c_law_least : Cal l.prog w K mg base 2 "_law_least" ["notes", "many"] spLeast := ⟨_, _, (ok_least (P := l.prog) (w := w) (base := base) T c_law_pitches F20), PySem.W.mg_of X G a20, k20, b20⟩
  have c_law_pinch_right : Cal l.prog w K mg base 7 "_law_pinch_right" ["notes", "drums", "found"] spPinchRight := ⟨_, _, (ok_pinch_right (P := l.prog) (w := w) (base := base) T c_law_pitches c_law_least c_slowest c_Part F21), PySem.W.mg_of X G a21, k21, b21⟩
  exact okG_law (P := l.prog) (w := w) (base := base) T c_law_cell c_law_box c_law_take c_law_even c_law_notes c_law_pinch_right c_pinch c_Part F22
theorem walk {l : PySem.W.OpenLaw} {q : Program} {loose : List Str} {XP : (Str → Option Value) → Heap → Prop} {YP : World → Heap → Prop} {d : DefRec} {K : Params → PySem.W.Frag} (hn : l.most = some 63) (hdf : d.params.defaults = [])
    (hY : ∀ (w : World) (h : Heap), YP w h → (K w.params).In h)
    (F : ∀ (w : World) (mg : Str → Option Value) (fa : Addr) (h : Heap), (K w.params).In h → h.Ns mainGlobals mg → mg d.name = some (.ref fa) →
      ∃ fd : FuncData, (∀ (s : Shared) (u : Value), BindsTo s fd ⟨[u], []⟩ [("script", u)]) ∧ ∀ base : Heap, (K w.params).In base → base.Ns mainGlobals mg → FnG l.prog w (K w.params) mg base (L2.CX l.prog w) 8 fa fd ["script"] (spLaw (K w.params))) :
    PySem.W.WalkO q loose XP YP l.row.toRowW d [] (fun f vs => PySem.call f vs) :=
  walk_ofG (n := 63) (k := 8) (x := "script") (CX := fun w => L2.CX l.prog w) (sp := fun w => spLaw (K w.params)) hn (by decide) hdf ⟨rfl, by decide, by decide⟩ hY F (fun _ _ a ns hl _ hS => ⟨a, ns, rfl, hS, hl, fun _ => rfl⟩) fun _ _ _ _ _ z => cx_none z
end Kt

open PySem PySem.W PyProof.Rows in
set_option maxRecDepth 100000 in
set_option maxHeartbeats 0 in
theorem PySem.Challenge.cw_kettletones_k32_notes_that_pinch_holds : PySem.Challenge.rw_kettletones_k32_notes_that_pinch.Holds := by
  w_on; o_law; k_head; (case hw => w_witness2)
  k_fill
  refine Kt.walk (l := PySem.Challenge.rw_kettletones_k32_notes_that_pinch) rfl rfl (fun w h Y => PySem.W.kIn_of Y) ?F
  case F =>
    intro w mg fa h KX G hmg
    refine' Kt.all_mk KX G hmg ?aC ?a0 ?l0 ?c0 ?k0 ?a1 ?l1 ?c1 ?k1 ?a2 ?l2 ?c2 ?k2 ?a3 ?l3 ?c3 ?k3 ?a4 ?l4 ?c4 ?k4 ?a5 ?i5 ?l5 ?c5 ?k5 ?a6 ?l6 ?c6 ?k6 ?a7 ?i7 ?l7 ?c7 ?k7 ?a8 ?l8 ?c8 ?k8 ?a9 ?l9 ?c9 ?k9 ?a10 ?l10 ?c10 ?k10 ?a11 ?l11 ?c11 ?k11 ?a12 ?l12 ?c12 ?k12 ?a13 ?l13 ?c13 ?k13 ?a14 ?l14 ?c14 ?k14 ?a15 ?l15 ?c15 ?k15 ?a16 ?l16 ?c16 ?k16 ?a17 ?l17 ?c17 ?k17 ?a18 ?l18 ?c18 ?k18 ?a19 ?l19 ?c19 ?k19 ?a20 ?l20 ?c20 ?k20 ?a21 ?l21 ?c21 ?k21 ?a22 ?l22 ?c22 ?k22 ?z_int ?z_bool ?z_list ?z_tuple ?z_isinstance ?z_len ?z_sorted ?z_max ?z_min ?z_range ?z_repr ?z_enumerate ?z_HIGHEST ?z_LAST ?z_MOST_NOTES ?pg ?hd ?po ?sa ?mk ?kc ?ha ?hn ?ht ?hm ?ni ?np ?z_MOST_DRUMS
    (case aC => k_is)
    (case a0 => k_is)
    (case l0 => k_is)
    (case c0 => k_is)
    (case k0 => k_is)
    (case a1 => k_is)
    (case l1 => k_is)
    (case c1 => k_is)
    (case k1 => k_is)
    (case a2 => k_is)
    (case l2 => k_is)
    (case c2 => k_is)
    (case k2 => k_is)
    (case a3 => k_is)
    (case l3 => k_is)
    (case c3 => k_is)
    (case k3 => k_is)
    (case a4 => k_is)
    (case l4 => k_is)
    (case c4 => k_is)
    (case k4 => k_is)
    (case a5 => k_is)
    (case i5 => k_is)
    (case l5 => k_is)
    (case c5 => k_is)
    (case k5 => k_is)
    (case a6 => k_is)
    (case l6 => k_is)
    (case c6 => k_is)
    (case k6 => k_is)
    (case a7 => k_is)
    (case i7 => k_is)
    (case l7 => k_is)
    (case c7 => k_is)
    (case k7 => k_is)
    (case a8 => k_is)
    (case l8 => k_is)
    (case c8 => k_is)
    (case k8 => k_is)
    (case a9 => k_is)
    (case l9 => k_is)
    (case c9 => k_is)
    (case k9 => k_is)
    (case a10 => k_is)
    (case l10 => k_is)
    (case c10 => k_is)
    (case k10 => k_is)
    (case a11 => k_is)
    (case l11 => k_is)
    (case c11 => k_is)
    (case k11 => k_is)
    (case a12 => k_is)
    (case l12 => k_is)
    (case c12 => k_is)
    (case k12 => k_is)
    (case a13 => k_is)
    (case l13 => k_is)
    (case c13 => k_is)
    (case k13 => k_is)
    (case a14 => k_is)
    (case l14 => k_is)
    (case c14 => k_is)
    (case k14 => k_is)
    (case a15 => k_is)
    (case l15 => k_is)
    (case c15 => k_is)
    (case k15 => k_is)
    (case a16 => k_is)
    (case l16 => k_is)
    (case c16 => k_is)
    (case k16 => k_is)
    (case a17 => k_is)
    (case l17 => k_is)
    (case c17 => k_is)
    (case k17 => k_is)
    (case a18 => k_is)
    (case l18 => k_is)
    (case c18 => k_is)
    (case k18 => k_is)
    (case a19 => k_is)
    (case l19 => k_is)
    (case c19 => k_is)
    (case k19 => k_is)
    (case a20 => k_is)
    (case l20 => k_is)
    (case c20 => k_is)
    (case k20 => k_is)
    (case a21 => k_is)
    (case l21 => k_is)
    (case c21 => k_is)
    (case k21 => k_is)
    (case a22 => k_is)
    (case l22 => k_is)
    (case c22 => k_is)
    (case k22 => k_is)
    (case z_int => k_is)
    (case z_bool => k_is)
    (case z_list => k_is)
    (case z_tuple => k_is)
    (case z_isinstance => k_is)
    (case z_len => k_is)
    (case z_sorted => k_is)
    (case z_max => k_is)
    (case z_min => k_is)
    (case z_range => k_is)
    (case z_repr => k_is)
    (case z_enumerate => k_is)
    (case z_HIGHEST => k_is)
    (case z_LAST => k_is)
    (case z_MOST_NOTES => k_is)
    (case pg => k_is)
    (case hd => k_is)
    (case po => k_is)
    (case sa => k_is)
    (case mk => k_is)
    (case kc => k_is)
    (case ha => k_is)
    (case hn => k_is)
    (case ht => k_is)
    (case hm => k_is)
    (case ni => k_is)
    (case np => k_is)
    (case z_MOST_DRUMS => k_is)
