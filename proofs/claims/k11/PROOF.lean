import PyProof.Rows.All
import Wide.All
import OpenK.AllK
import Wide.FinOn
import PySem.Challenge.RW_leastlore_k11_words_told
import HandS.ForMost
import HandS.ForExc
import HandS.IsInst
import HandS.Wide
import HandS.Style
import HandS.EndBits
import HandS.ExcInit
import HandS.ExcField
import HandS.ExcIs
import HandS.Walk
import HandS.Replace
import KE.KExcIs
set_option Elab.async false
set_option linter.all false
set_option maxRecDepth 100000
set_option maxHeartbeats 4000000
/-! ### what serves every law -/
namespace My
open PySem PySem.Spec PyProof.Rows L2
/-- the def x of the text stands, binds its arguments, and keeps its promise -/
structure Ok (P : Program) (w : World) (K : PySem.W.Frag) (mg : Str → Option Value) (base : Heap) (CX : CXT) (x : Str) (k : Nat) (ps : List Str) (sp : Sp) : Prop where
  ex : ∃ (f : Addr) (fd : FuncData), mg x = some (.ref f) ∧ PySem.W.keepIn K (.ref f) = true ∧ Binds K fd ps [] ∧ FnOk P w K mg base CX k f fd ps sp
section
variable {X : Cx}
theorem pe_callO {CX : CXT} {x : Str} {k : Nat} {ps : List Str} {sp : Sp} {E : XK} {e : Expr} {es : List Expr} {t : TA} {p pos : Pos} (G : Ok X.prog X.w X.K X.mg X.base CX x k ps sp) (hr : Room k X.A) (hg : Gl X x) (hx : Passes CX X E) (ha : PA X (e :: es) t)
    (hdb : (x == ("__debug__" : Str)) = false := by decide) (he : starEach (e :: es) X.env = (false, eval e X.env) :: starEach es X.env := by rfl) (hpl : (backTo pos (starEach es X.env)).any (·.1) = false := by rfl) :
    PE X (.Call (.Name x p) (e :: es) [] pos) (tCall sp [] E t) := by
  obtain ⟨f, fd, m, kp, b, F⟩ := G.ex
  exact pe_call F hr hg m kp b .nil hx ha hdb he hpl
theorem pe_callO0 {CX : CXT} {x : Str} {k : Nat} {ps : List Str} {sp : Sp} {E : XK} {p pos : Pos} (G : Ok X.prog X.w X.K X.mg X.base CX x k ps sp) (hr : Room k X.A) (hg : Gl X x) (hx : Passes CX X E)
    (hdb : (x == ("__debug__" : Str)) = false := by decide) : PE X (.Call (.Name x p) [] [] pos) (tCall sp [] E tNil) := by
  obtain ⟨f, fd, m, kp, b, F⟩ := G.ex
  exact pe_call0 F hr hg m kp b .nil hx hdb
end
/-- the def st stands under the name x in the written part -/
structure At (K : PySem.W.Frag) (x : Str) (st : Stmt) : Prop where
  ex : ∃ (f : Addr) (fd : FuncData), PySem.W.nsIn K mainGlobals x = some (some (.ref f)) ∧ Fun K x x st f fd
theorem at_mk {K : PySem.W.Frag} {x : Str} {st : Stmt} {f : Addr} {oc : Value} {od an : Option Addr} {osl : Array (Option Value)} {kV doc pm cdv ct : Value} (a : PySem.W.nsIn K mainGlobals x = some (some (.ref f)))
    (l : K.lookup f = some ⟨oc, od, .func (PySem.W.fnOf x x (defArgs st) (defBody st) (defScope st) .none kV doc pm an cdv ct), osl⟩)
    (c : PySem.W.codeIn K cdv x = true) (k : PySem.W.keepIn K (.ref f) = true) : At K x st := ⟨f, _, a, fun_mk l c k⟩
/-- from where it stands and what its body keeps -/
theorem At.ok {P : Program} {w : World} {K : PySem.W.Frag} {mg : Str → Option Value} {base h : Heap} {CX : CXT} {x : Str} {st : Stmt} {k : Nat} {ps : List Str} {sp : Sp} (A : At K x st) (X : K.In h) (G : h.Ns mainGlobals mg)
    (hb : ∀ (kV doc pm : Value) (an : Option Addr) (cdv ct : Value) (us : List Value), us.length = ps.length → bindArgs (PySem.W.fnOf x x (defArgs st) (defBody st) (defScope st) .none kV doc pm an cdv ct) ⟨us, []⟩ = pure (ps.zip us))
    (hF : ∀ f fd, Fun K x x st f fd → FnOk P w K mg base CX k f fd ps sp) : Ok P w K mg base CX x k ps sp := by
  obtain ⟨f, fd, a, F⟩ := A.ex
  exact ⟨f, fd, PySem.W.mg_of X G a, F.kp, F.binds hb, hF f fd F⟩
/-! ### heaps: a box of draws at b changes, new things come, all else stands -/
def Box (H : Hp) (b : Addr) : Prop := ∃ d m c : Int, H b = some (.lst [.int d, .int m, .int c])
structure Keep (b : Addr) (H H' : Hp) : Prop where
  box : Box H' b
  old : ∀ a o, a ≠ b → H a = some o → H' a = some o
theorem Keep.refl {b : Addr} {H : Hp} (h : Box H b) : Keep b H H := ⟨h, fun _ _ _ e => e⟩
theorem Keep.trans {b : Addr} {H H1 H2 : Hp} (k : Keep b H H1) (l : Keep b H1 H2) : Keep b H H2 := ⟨l.box, fun a o n e => l.old a o n (k.old a o n e)⟩
theorem Box.some {H : Hp} {b : Addr} (h : Box H b) : ∃ o, H b = some o := by
  obtain ⟨d, m, c, e⟩ := h
  exact ⟨_, e⟩
theorem Box.new {H : Hp} {b p : Addr} {o : HO} (h : Box H b) (n : H p = none) : Box (upd H p o) b := by
  obtain ⟨d, m, c, e⟩ := h
  exact ⟨d, m, c, by rw [upd_ne (ne_of_none e n)]; exact e⟩
theorem Keep.new {b p : Addr} {H H' : Hp} {o : HO} (k : Keep b H H') (n : H' p = none) : Keep b H (upd H' p o) :=
  ⟨k.box.new n, fun a u na e => by rw [upd_ne (ne_of_none (k.old a u na e) n)]; exact k.old a u na e⟩
theorem Keep.seq {K : PySem.W.Frag} {b a : Addr} {H H' : Hp} {xs : List V} (k : Keep b H H') (n : a ≠ b) (h : SqL K H a xs) : SqL K H' a xs := by
  rcases h with (h | ⟨o, h⟩) | h
  · exact .inl (.inl (k.old _ _ n h))
  · exact .inl (.inr ⟨o, k.old _ _ n h⟩)
  · exact .inr h
theorem same_upd {H : Hp} {p : Addr} {o : HO} (h : H p = none) : Same H (upd H p o) := fun b x e => by
  rw [upd_ne (ne_of_none e h)]
  exact e
theorem Same.new {H H' : Hp} {p : Addr} {o : HO} (k : Same H H') (h : H' p = none) : Same H (upd H' p o) := k.trans (same_upd h)
theorem Box.same {H H' : Hp} {b : Addr} (h : Box H b) (s : Same H H') : Box H' b := by
  obtain ⟨d, m, c, e⟩ := h
  exact ⟨d, m, c, s _ _ e⟩
theorem Same.keep {H H' : Hp} {b : Addr} (h : Box H b) (s : Same H H') : Keep b H H' := ⟨h.same s, fun a o _ e => s a o e⟩
theorem Keep.free {b p : Addr} {H H' : Hp} (k : Keep b H H') (h : Box H b) (n : H' p = none) : H p = none := by
  cases q : H p with
  | none => rfl
  | some o =>
    by_cases e : p = b
    · subst e
      obtain ⟨d, m, c, e2⟩ := k.box
      rw [e2] at n
      cases n
    · rw [k.old p o e q] at n
      cases n
end My

/-! ### defs that are run while nothing is being written out by repr (no guards): a promise over such surroundings alone -/
namespace My
open PySem PySem.Spec PyProof.Rows L2
structure FnG (P : Program) (w : World) (K : PySem.W.Frag) (mg : Str → Option Value) (base : Heap) (CX : CXT) (k : Nat) (f : Addr) (fd : FuncData) (ps : List Str) (sp : Sp) : Prop where
  len : ∀ vs H Q E, sp vs H Q E → vs.length = ps.length
  run : ∀ (A : Around) (outer : List Env) (s : Shared) (H : Hp) (args : Args) (us : List Value) (vs : List V) (Q : VK) (E : XK), A.guards = some [] → Room k A →
    Env0 P w K mg base A outer s H → BindsTo s fd args (ps.zip us) → Vals vs us → sp vs H Q E → codeAny (model P w) A (.call (.ref f) args) (CR CX outer P w H s Q E) s
section
variable {P : Program} {w : World} {K : PySem.W.Frag} {mg : Str → Option Value} {base : Heap} {CX : CXT} {k : Nat} {f : Addr} {fd : FuncData} {ps : List Str} {sp : Sp}
theorem fnG_of_ok (F : FnOk P w K mg base CX k f fd ps sp) : FnG P w K mg base CX k f fd ps sp :=
  ⟨F.len, fun A outer s H args us vs Q E _ hr e0 hb hv hs => F.run A outer s H args us vs Q E hr e0 hb hv hs⟩
/-- from a body -/
theorem fnG_of {name qual : Str} {params : Arguments} {body : List Stmt} {scope : Scope} {dV kV doc pm cdv ct oc : Value} {an od : Option Addr} {osl : Array (Option Value)} {N : List Str}
    (lk : K.lookup f = some ⟨oc, od, .func (PySem.W.fnOf name qual params body scope dV kV doc pm an cdv ct), osl⟩)
    (hcd : PySem.W.codeIn K cdv qual = true) (S : FnScope N ps scope) (len : ∀ vs H Q E, sp vs H Q E → vs.length = ps.length)
    (hbody : ∀ (A : Around) (outer : List Env) (s : Shared) (H : Hp) (vs : List V) (Q : VK) (E : XK), A.guards = some [] →
      Room k (A.deeper (envOfC qual scope s.heap.objs.size f cdv)) → sp vs H Q E →
      ∃ t, PSs (cxOf CX P w K mg base N qual scope f cdv A outer s H E) body t ∧ t { nx := fun _ H' => Q .non H', rt := Q } (start N vs) H) :
    FnG P w K mg base CX (k + 1) f (PySem.W.fnOf name qual params body scope dV kV doc pm an cdv ct) ps sp := by
  constructor
  · exact len
  · intro A outer s H args us vs Q E hgd hr e0 hb r hsp
    have kin : K.In s.heap := e0.mod.kin.keeps fun b o e => (e0.bs b o e).1
    have nol : s.heap.NoLimit := e0.mod.nolimit.keeps fun b o e => (e0.bs b o e).1
    have kinds : ∀ y ∈ ps.zip us, scope.names.lookup y.1 = some .local ∨ (scope.names.lookup y.1 = some .cell ∧ ((cellsFrom (s.heap.objs.size + 1) scope.names []).lookup y.1).isSome = true) := by
      intro y hy
      obtain ⟨n, v⟩ := y
      have hm := (List.of_mem_zip hy).1
      cases S.par n hm with
      | inl q => exact Or.inl q
      | inr q => exact Or.inr ⟨q, PySem.W.cellsFrom_some _ _ _ (Or.inl q)⟩
    apply codeAny_call_function hr.depth (kin _ _ lk) rfl S.co S.gen rfl (PySem.W.codeRec_of kin hcd)
    apply hb
    apply wpAny_newFunctionEnv_cells S.kind kinds
    intro env he s1 x
    subst he
    constructor
    · exact nol.keeps x.toInCall.keep
    · apply codeAny_func
      obtain ⟨t, ht, hq⟩ := hbody A outer s H vs Q E hgd (hr.deeper _) hsp
      have I : Inv (cxOf CX P w K mg base N qual scope f cdv A outer s H E) [] (start N vs) H s1 := inv_start S hr.hd e0 (len _ _ _ _ hsp) r x
      refine wpAny_mono (ht.run [] s1 (start N vs) H _ I hq) ?_ (fun e s' hs => hs)
      intro fl s' hs
      cases fl with
      | ret u =>
        obtain ⟨v, σ', H', J, rv, q⟩ := hs
        exact ⟨v, H', J.os, J.bare, J.base, J.hok, rv, q⟩
      | next =>
        obtain ⟨σ', H', J, q⟩ := hs
        exact ⟨V.non, H', J.os, J.bare, J.base, J.hok, rfl, q⟩
      | brk =>
        obtain ⟨_, _, _, q⟩ := hs
        cases q
      | cont =>
        obtain ⟨_, _, _, q⟩ := hs
        cases q
theorem okG {x qual : Str} {st : Stmt} {N : List Str} (F : Fun K x qual st f fd) (S : FnScope N ps (defScope st)) (len : ∀ vs H Q E, sp vs H Q E → vs.length = ps.length)
    (hbody : ∀ (cdv : Value) (A : Around) (outer : List Env) (s : Shared) (H : Hp) (vs : List V) (Q : VK) (E : XK), A.guards = some [] →
      Room k (A.deeper (envOfC qual (defScope st) s.heap.objs.size f cdv)) → sp vs H Q E →
      ∃ t, PSs (cxOf CX0 P w K mg base N qual (defScope st) f cdv A outer s H E).nox (defBody st) t ∧ t { nx := fun _ H' => Q .non H', rt := Q } (start N vs) H) :
    FnG P w K mg base CX0 (k + 1) f fd ps sp := by
  obtain ⟨oc, od, kV, doc, pm, an, cdv, ct, osl, rfl, lk, hcd⟩ := F.ex
  apply fnG_of lk hcd S len
  intro A outer s H vs Q E hgd hr hsp
  obtain ⟨t, h, q⟩ := hbody cdv A outer s H vs Q E hgd hr hsp
  exact ⟨t, h.nox, q⟩
end
/-- as Ok, over such surroundings -/
structure OkG (P : Program) (w : World) (K : PySem.W.Frag) (mg : Str → Option Value) (base : Heap) (CX : CXT) (x : Str) (k : Nat) (ps : List Str) (sp : Sp) : Prop where
  ex : ∃ (f : Addr) (fd : FuncData), mg x = some (.ref f) ∧ PySem.W.keepIn K (.ref f) = true ∧ Binds K fd ps [] ∧ FnG P w K mg base CX k f fd ps sp
theorem At.okG {P : Program} {w : World} {K : PySem.W.Frag} {mg : Str → Option Value} {base h : Heap} {CX : CXT} {x : Str} {st : Stmt} {k : Nat} {ps : List Str} {sp : Sp} (A : At K x st) (X : K.In h) (G : h.Ns mainGlobals mg)
    (hb : ∀ (kV doc pm : Value) (an : Option Addr) (cdv ct : Value) (us : List Value), us.length = ps.length → bindArgs (PySem.W.fnOf x x (defArgs st) (defBody st) (defScope st) .none kV doc pm an cdv ct) ⟨us, []⟩ = pure (ps.zip us))
    (hF : ∀ f fd, Fun K x x st f fd → FnG P w K mg base CX k f fd ps sp) : OkG P w K mg base CX x k ps sp := by
  obtain ⟨f, fd, a, F⟩ := A.ex
  exact ⟨f, fd, PySem.W.mg_of X G a, F.kp, F.binds hb, hF f fd F⟩
section
variable {X : Cx} {CX : CXT} {k : Nat} {f : Addr} {fd : FuncData} {ps : List Str} {sp : Sp} {E : XK} {x : Str}
theorem run_fnG {pins : List (Addr × Obj)} {σ : L2.St} {H : Hp} {s : Shared} {Q : VK} {us : List Value} {vs : List V} (F : FnG X.prog X.w X.K X.mg X.base CX k f fd ps sp) (hgd : X.A.guards = some []) (hr : Room k X.A) (hb : Binds X.K fd ps []) (hx : Passes CX X E)
    (I : Inv X pins σ H s) (r : Vals vs us) (h : sp vs H Q E) : wpAny (model X.prog X.w) X.A (call (.ref f) us) (EP X pins σ Q) X.xe s := by
  have hl : us.length = ps.length := r.length.symm.trans (F.len _ _ _ _ h)
  have hbt : BindsTo s fd ⟨us, []⟩ (ps.zip us) := by
    have z := hb s us I.kIn (by rw [List.append_nil]; exact hl)
    rw [List.append_nil] at z
    exact z
  apply wpAny_call
  refine codeAny_mono (F.run X.A X.stack s H ⟨us, []⟩ us vs Q E hgd hr I.env0 hbt r h) ?_
  intro res s' hq
  rcases res with e | fl
  · exact hx pins σ H s e s' I hq
  · cases fl with
    | ret u => exact I.after hq
    | next => cases hq
    | brk => cases hq
    | cont => cases hq
theorem pe_callG {e : Expr} {es : List Expr} {t : TA} {p pos : Pos} (G : OkG X.prog X.w X.K X.mg X.base CX x k ps sp) (hr : Room k X.A) (hgd : X.A.guards = some []) (hg : Gl X x) (hx : Passes CX X E) (ha : PA X (e :: es) t)
    (hdb : (x == ("__debug__" : Str)) = false := by decide) (he : starEach (e :: es) X.env = (false, eval e X.env) :: starEach es X.env := by rfl) (hpl : (backTo pos (starEach es X.env)).any (·.1) = false := by rfl) :
    PE X (.Call (.Name x p) (e :: es) [] pos) (tCall sp [] E t) := by
  obtain ⟨f, fd, hm, hk, hb, F⟩ := G.ex
  constructor
  intro pins s σ H Q I h
  apply wpAny_Call_Name_kw
  refine ld_glob I hg hm ?_ hdb
  refine PySem.W.callWith_K (h₀ := X.base) I.ok.mod.kin hk (thn (ha.run pos pins s σ H _ I h) ?_) he hpl
  intro us s1 hh
  obtain ⟨vs, H1, I1, r, q⟩ := hh
  rw [List.append_nil] at q
  exact ⟨I1.kIn, run_fnG F hgd hr hb hx I1 r q⟩
end
/-! ### repr of data -/
def rRepr (K : PySem.W.Frag) : List V → Hp → VK → Prop := fun xs H Q => ∃ (x : V) (d : PyData), xs = [x] ∧ Dp K H x d ∧ d.showable = true ∧ d.depth ≤ 60 ∧ d.shown.length ≤ sizeLine ∧ Q (.str d.shown) H
theorem dp_nodict {K : PySem.W.Frag} {H : Hp} : ∀ (d : PyData), (∀ v, Dp K H v d → d.hasDict = false) ∧ True := by
  intro d
  refine ⟨?_, trivial⟩
  intro v h
  induction h using Dp.rec (motive_2 := fun vs ds _ => PyData.hasDictAll ds = false) with
  | non => rfl
  | bl b => rfl
  | int i => rfl
  | str x => rfl
  | lst _ _ ih => simp only [PyData.hasDict]; exact ih
  | tup _ _ ih => simp only [PyData.hasDict]; exact ih
  | nil => rfl
  | cons _ _ ih1 ih2 => simp only [PyData.hasDictAll, ih1, ih2]; rfl
theorem call_reprD {X : Cx} (hgd : X.A.guards = some []) (hu : X.A.units + 64 < cLine) : CallR X (.builtin "repr") (rRepr X.K) := by
  intro pins s σ H xs us Q I r h
  obtain ⟨x, d, rfl, hd, hs, hdep, hz, q⟩ := h
  obtain ⟨u, rfl, r1⟩ := vals1 r
  obtain ⟨as, hr⟩ := Dp.reads I d x u hd r1
  have hnd := (dp_nodict d).1 x hd
  cases hd with
  | non =>
    cases r1
    exact PySem.P.repr_of_none ⟨.str _, H, I.tok _, ⟨_, rfl⟩, q⟩
  | bl b =>
    cases r1
    exact PySem.P.repr_of_bool ⟨.str _, H, I.tok _, ⟨_, rfl⟩, q⟩
  | int i =>
    obtain ⟨t, rfl⟩ := r1
    exact PySem.P.repr_of_int (by simpa [PyData.showable] using hs) ⟨.str _, H, I.tok _, ⟨_, rfl⟩, q⟩
  | str z =>
    obtain ⟨t, rfl⟩ := r1
    exact PySem.P.repr_of_str ⟨.str _, H, I.tok _, ⟨_, rfl⟩, q⟩ (by simpa only [PyData.shown] using hz)
  | lst h1 h2 =>
    cases r1
    exact repr_of_reads' hr hs (PyData.noDict_hsm hnd) hgd (by omega) (fun _ _ e => e) (fun h' u tk hk => ⟨.str _, H, I.kept (t' := tk) hk, ⟨_, rfl⟩, q⟩) hz
  | tup h1 h2 =>
    cases r1
    exact repr_of_reads' hr hs (PyData.noDict_hsm hnd) hgd (by omega) (fun _ _ e => e) (fun h' u tk hk => ⟨.str _, H, I.kept (t' := tk) hk, ⟨_, rfl⟩, q⟩) hz
end My

/-! ### the program's own errors: class X(LoreError), whose __init__ says LoreError.__init__(self, words) and keeps one thing -/
namespace My
open PySem PySem.Spec PyProof.Rows L2
/-- LoreError stands at L and hands on ValueError's __init__ -/
structure BaseC (K : PySem.W.Frag) (mg : Str → Option Value) (L : Addr) : Prop where
  gL : mg "LoreError" = some (.ref L)
  rd : PySem.W.readsIn K L (.type "type") = true
  ga : PySem.W.specialIn K (.ref L) "__getattribute__" = some (some (.builtin "type.__getattribute__"))
  vI : PySem.W.findCls K (.ref L) (.type "type") "__init__" = some (.val (.builtin "ValueError.__init__"))
theorem pe_loreinit {X : Cx} {L : Addr} {e : Expr} {es : List Expr} {ta : TA} {p1 p2 pos : Pos} {pl : Sem Bool} (B : BaseC X.K X.mg L) (hg : Gl X "LoreError") (ha : PA X (e :: es) ta)
    (hc : eval (.Call (.Attribute (.Name "LoreError" p1) "__init__" p2) (e :: es) [] pos) X.env = (do
      let ov ← eval (.Name "LoreError" p1) X.env
      standAt p2.atName
      let (g, first) ← holding [ov] (getMethod ov "__init__" pl)
      callWith pos g first (backTo pos (starEach (e :: es) X.env)) (backToKw pos (keywordEach [] X.env))) := by rfl)
    (he : starEach (e :: es) X.env = (false, eval e X.env) :: starEach es X.env := by rfl) (hpl : (backTo pos (starEach es X.env)).any (·.1) = false := by rfl) :
    PE X (.Call (.Attribute (.Name "LoreError" p1) "__init__" p2) (e :: es) [] pos) (tVeI X.K ta) := by
  constructor
  intro pins s σ H Q I h
  refine PySem.W.methodCall_KW (ld_glob I hg B.gL ?_) hc
  refine PySem.W.method_cls I.kIn B.ga (PySem.W.cls_value I.kIn B.rd B.vI (by decide +kernel) ?_)
  show wpAny _ _ (callWith pos (Value.builtin "ValueError.__init__") [] (backTo pos (starEach (e :: es) X.env)) []) _ _ _
  refine PyProof.Rows.callWith_method1 (thn (ha.run pos pins _ σ H _ (I.tok _) h) ?_) he hpl
  intro us s1 hh
  obtain ⟨vs, H1, I1, r1, a, C, ws, ev, hl, T, ea, q⟩ := hh
  subst ev
  cases r1 with
  | @cons _ u0 _ ur ra rw' =>
    have e0 : u0 = Value.ref a := ra
    subst e0
    refine oinit_ok T I1 ea ?_ fun s' J => ⟨.non, H1, J, rfl, q⟩
    have z := Paired.length rw'
    rw [sizeLine_eq]
    omega
/-- what __init__ does: self keeps v as f -/
def spInit1 (C : Addr) (f : Str) : Sp := fun vs H Q _ => ∃ (a : Addr) (v : V), vs = [.ref a, v] ∧ H a = some (exo a C none) ∧
  ∀ dx, H dx = none → dx ≠ a → Q .non (upd (upd H dx (exd dx [(f, v)])) a (exo a C (some dx)))
/-- what of the text such a class must have -/
structure ErrC (P : Program) (w : World) (K : PySem.W.Frag) (mg : Str → Option Value) (base : Heap) (x f : Str) (C : Addr) : Prop where
  gC : mg x = some (.ref C)
  oex : OexC K C
  noF : PySem.W.findIn K (.ref C) f = some none
  xf : XfC K C
  hcl : (PySem.W.clsIn K C).isSome = true
  ha : PySem.W.findIn K (.ref C) "__class__" = some (some (.builtin "object.__class__"))
  hm : PySem.W.mroIn K C (.type "object") = some true
  te : PySem.W.exmOne K (.ref C) (.ref C) = some true
  hn : PySem.W.specialIn K (.builtin "object.__class__") "__get__" = some (some (.builtin "getset_descriptor.__get__"))
  ht : PySem.W.takesIn K (.builtin "object.__class__") = some true
  ini : ∃ (fI : Addr) (fd : FuncData), PySem.W.findIn K (.ref C) "__init__" = some (some (.ref fI)) ∧ PySem.W.typeIn K (.ref fI) = some (.type "function") ∧ Binds K fd ["self", f] [] ∧ FnOk P w K mg base CX0 1 fI fd ["self", f] (spInit1 C f)
theorem PA_mono {X : Cx} {es : List Expr} {ta : TA} (h : PA X es ta) : PA X es (fun σ H Q => ∃ Q0 : List V → Hp → Prop, ta σ H Q0 ∧ ∀ vs H1, Q0 vs H1 → Q vs H1) := by
  constructor
  intro pos pins s σ H Q I hq
  obtain ⟨Q0, h0, h1⟩ := hq
  refine thn (h.run pos pins s σ H Q0 I h0) ?_
  intro us s1 hh
  obtain ⟨vs, H1, I1, r, q⟩ := hh
  exact ⟨vs, H1, I1, r, h1 vs H1 q⟩
/-- X(e): for any new d the dict that keeps the thing -/
def tMkE (C : Addr) (f : Str) (ta : TA) : L2.St → Hp → XK → Prop := fun σ H Q => ta σ H fun vs H1 => ∃ v, vs = [v] ∧ ∀ d, H1 d = none → Q (.ref C) (some d) (upd H1 d (.xd [(f, v)]))
theorem err_heap {H : Hp} {a dx C : Addr} {fs : List (Str × V)} (n : H a = none) (ne : dx ≠ a) :
    upd (del (upd (upd (upd H a (exo a C none)) dx (exd dx fs)) a (exo a C (some dx))) a) dx (.xd fs) = upd H dx (.xd fs) := by
  funext b
  by_cases h1 : b = dx
  · subst h1
    rw [upd_same, upd_same]
  · rw [upd_ne h1, upd_ne h1]
    by_cases h2 : b = a
    · subst h2
      rw [del_same, n]
    · rw [del_ne h2, upd_ne h2, upd_ne h1, upd_ne h2]
theorem pmk_err {X : Cx} {x f : Str} {C : Addr} {e : Expr} {ta : TA} {p pos : Pos} {k : Nat} (T : ErrC X.prog X.w X.K X.mg X.base x f C) (hr : Room (k + 2) X.A) (hg : Gl X x) (ha : PA X [e] ta)
    (hdb : (x == ("__debug__" : Str)) = false := by decide) (he : starEach [e] X.env = (false, eval e X.env) :: starEach [] X.env := by rfl) (hpl : (backTo pos (starEach [] X.env)).any (·.1) = false := by rfl) :
    PMk X (.Call (.Name x p) [e] [] pos) (tMkE C f ta) := by
  obtain ⟨fI, fd, iC, tI, hb, F1⟩ := T.ini
  intro pins s σ H Q I h
  refine pmk_oex T.oex iC tI F1 (hr.mono (by omega)) hb .nil pass0 hg T.gC (PA_mono ha) hdb he hpl pins s σ H Q I ⟨_, h, ?_⟩
  intro vs H1 hv
  obtain ⟨v, rfl, q⟩ := hv
  refine ⟨(by show 1 ≤ 1000; decide), fun a na => ⟨a, v, rfl, upd_same, fun dx nd ne => ?_⟩⟩
  have nd1 : H1 dx = none := by
    rw [upd_ne ne] at nd
    exact nd
  refine ⟨rfl, dx, [(f, v)], upd_same, ?_, nd1, ?_⟩
  · rw [upd_ne ne, upd_same]
  · rw [err_heap na ne]
    exact q dx nd1
/-- raise X(e) -/
theorem ps_err {X : Cx} {W : WX} {x f : Str} {C : Addr} {e : Expr} {ta : TA} {p pos pos2 : Pos} {k : Nat} (hc : X.calm = true) (T : ErrC X.prog X.w X.K X.mg X.base x f C) (hr : Room (k + 2) X.A) (tk : Takes X W) (hg : Gl X x) (ha : PA X [e] ta)
    (hdb : (x == ("__debug__" : Str)) = false := by decide) (he : starEach [e] X.env = (false, eval e X.env) :: starEach [] X.env := by rfl) (hpl : (backTo pos (starEach [] X.env)).any (·.1) = false := by rfl) :
    PS X (.Raise (some (.Call (.Name x p) [e] [] pos)) none pos2) (fun _ σ H => tMkE C f ta σ H fun cls d H' => W cls d σ H') := ps_raise hc tk (pmk_err T hr hg ha hdb he hpl)
/-- isinstance(e, c), e the caught error (at a, of the class cls, its dict d) -/
def rIsED (K : PySem.W.Frag) (D a : Addr) (cls : Value) (d : Option Addr) : List V → Hp → VK → Prop := fun xs H Q => ∃ (c : V) (cv : Value) (b : Bool) (dd : Addr) (fs : List (Str × V)), xs = [.ref a, c] ∧ cls = .ref D ∧ d = some dd ∧ H dd = some (.xd fs) ∧
  ClsV c cv ∧ PySem.W.kitOne K (.ref D) cv = some b ∧ Q (.bl b) H
theorem call_isED {X : Cx} {x f : Str} {a D : Addr} {oe : Obj} {cls : Value} {d : Option Addr} {pn : List (Addr × Obj)} (T : ErrC X.prog X.w X.K X.mg X.base x f D) (hz : Zc cls d oe) (hf : ∃ vs, oe.data = .fields vs) :
    CallR (X.suite a ((a, oe) :: pn)) (.builtin "isinstance") (rIsED X.K D a cls d) := by
  intro pins s σ H xs us Q I r h
  obtain ⟨c, cv, b, dd, fs, rfl, rfl, rfl, hd, hcv, e, q⟩ := h
  obtain ⟨u1, u2, rfl, r1, r2⟩ := vals2 r
  have e1 : u1 = Value.ref a := r1
  have e2 := hcv.eq r2
  subst e1 e2
  obtain ⟨hget, _⟩ := I.pin (a, oe) (List.mem_append.mpr (.inl List.mem_cons_self))
  obtain ⟨vs, hv⟩ := hf
  obtain ⟨mA, hns, _⟩ := (show ObjOk X.prog X.w H s.heap dd (.xd fs) from I.hok dd _ hd)
  obtain ⟨od, ho, _⟩ := lookIn_ns hns
  have J : PySem.W.InstAt s.heap a oe D (some od) := ⟨hget, hz.1, by unfold PySem.W.notCls; rw [hv] <;> rfl, by rw [hz.2]; exact ho⟩
  have Z := PySem.W.kitx_exc (K := X.K) (x := a) (C := D) (ox := oe) (od := some od) T.hcl T.xf.ga T.xf.gg T.xf.exC T.ha T.hn T.ht T.hm
  exact PySem.W.kia_one Z I.kIn J e (fun z => nomatch z) fun tk => ⟨.bl b, H, I.kept (t' := tk) fun _ _ z => z, rfl, q⟩
end My

/-! ### things by their kinds, and what isinstance says of them -/
namespace My
open PySem PySem.Spec PyProof.Rows L2
inductive Kd | non | bl | int | str | lst | tup | dic
deriving DecidableEq
def Kd.ty : Kd → String
  | .non => "NoneType" | .bl => "bool" | .int => "int" | .str => "str" | .lst => "list" | .tup => "tuple" | .dic => "dict"
inductive Thing (H : Hp) : V → Kd → Prop
  | non : Thing H .non .non
  | bl (b : Bool) : Thing H (.bl b) .bl
  | int (i : Int) : Thing H (.int i) .int
  | str (z : Str) : Thing H (.str z) .str
  | lst {a : Addr} {xs : List V} (h : H a = some (.lst xs)) : Thing H (.ref a) .lst
  | tup {a : Addr} {xs : List V} (h : H a = some (.tup xs)) : Thing H (.ref a) .tup
  | dic {a : Addr} {kvs : List (Key × V)} (h : H a = some (.dK kvs)) : Thing H (.ref a) .dic
theorem Thing.mono {H H' : Hp} {x : V} {k : Kd} (t : Thing H x k) (h : ∀ a o, x = .ref a → H a = some o → H' a = some o) : Thing H' x k := by
  cases t with
  | non => exact .non
  | bl b => exact .bl b
  | int i => exact .int i
  | str z => exact .str z
  | lst e => exact .lst (h _ _ rfl e)
  | tup e => exact .tup (h _ _ rfl e)
  | dic e => exact .dic (h _ _ rfl e)
theorem Thing.same {H H' : Hp} {x : V} {k : Kd} (t : Thing H x k) (s : Same H H') : Thing H' x k := t.mono fun a o _ e => s a o e
theorem Thing.tyx {K : PySem.W.Frag} {H : Hp} {x : V} {k : Kd} (t : Thing H x k) : TyX K H x (.type k.ty) := by
  cases t with
  | non => exact .base .non
  | bl b => exact .base (.bl b)
  | int i => exact .base (.int i)
  | str z => exact .base (.str z)
  | lst e => exact .base (.lst e)
  | tup e => exact .base (.tup e)
  | dic e => exact .base (.dK e)
def Kd.isInt : Kd → Bool | .int => true | .bl => true | _ => false
def Kd.isBool : Kd → Bool | .bl => true | _ => false
def Kd.isStr : Kd → Bool | .str => true | _ => false
def Kd.isList : Kd → Bool | .lst => true | _ => false
def Kd.isTup : Kd → Bool | .tup => true | _ => false
theorem kit_int (k : Kd) : kitB k.ty "int" = some k.isInt := by cases k <;> decide +kernel
theorem kit_bool (k : Kd) : kitB k.ty "bool" = some k.isBool := by cases k <;> decide +kernel
theorem kit_str (k : Kd) : kitB k.ty "str" = some k.isStr := by cases k <;> decide +kernel
theorem kit_list (k : Kd) : kitB k.ty "list" = some k.isList := by cases k <;> decide +kernel
theorem kit_tuple (k : Kd) : kitB k.ty "tuple" = some k.isTup := by cases k <;> decide +kernel
theorem kit_seq {K : PySem.W.Frag} (k : Kd) : PySem.W.kitAny K (.type k.ty) [.type "list", .type "tuple"] = some (k.isList || k.isTup) := by
  refine kitAny_cons (b := k.isList) (kit_ty (kit_list k)) (fun h => ?_) (fun h => by rw [h]; rfl)
  rw [h, Bool.false_or]
  exact kitAny_cons (b := k.isTup) (kit_ty (kit_tuple k)) (fun h => by rw [h]; exact kitAny_nil) (fun h => h)
/-! ### data without things within things, and how repr writes it -/
inductive Dat (H : Hp) : V → PyData → Kd → Prop
  | non : Dat H .non .none .non
  | bl (b : Bool) : Dat H (.bl b) (.bool b) .bl
  | int (i : Int) : Dat H (.int i) (.int i) .int
  | str (z : Str) : Dat H (.str z) (.str z) .str
  | lst {a : Addr} {ns : List Int} (h : H a = some (.lst (ns.map V.int))) : Dat H (.ref a) (.list (ns.map PyData.int)) .lst
  | tup {a : Addr} {ns : List Int} (h : H a = some (.tup (ns.map V.int))) : Dat H (.ref a) (.tuple (ns.map PyData.int)) .tup
  | dic {a : Addr} (h : H a = some (.dK [])) : Dat H (.ref a) (.dict []) .dic
theorem Dat.thing {H : Hp} {x : V} {d : PyData} {k : Kd} (t : Dat H x d k) : Thing H x k := by
  cases t with
  | non => exact .non
  | bl b => exact .bl b
  | int i => exact .int i
  | str z => exact .str z
  | lst e => exact .lst e
  | tup e => exact .tup e
  | dic e => exact .dic e
theorem Dat.mono {H H' : Hp} {x : V} {d : PyData} {k : Kd} (t : Dat H x d k) (h : ∀ a o, x = .ref a → H a = some o → H' a = some o) : Dat H' x d k := by
  cases t with
  | non => exact .non
  | bl b => exact .bl b
  | int i => exact .int i
  | str z => exact .str z
  | lst e => exact .lst (h _ _ rfl e)
  | tup e => exact .tup (h _ _ rfl e)
  | dic e => exact .dic (h _ _ rfl e)
theorem Dat.same {H H' : Hp} {x : V} {d : PyData} {k : Kd} (t : Dat H x d k) (s : Same H H') : Dat H' x d k := t.mono fun a o _ e => s a o e
theorem dpInts {K : PySem.W.Frag} {H : Hp} : ∀ ns : List Int, DpAll K H (ns.map V.int) (ns.map PyData.int)
  | [] => .nil
  | n :: r => .cons (.int n) (dpInts r)
def rReprX (K : PySem.W.Frag) : List V → Hp → VK → Prop := fun xs H Q => ∃ (x : V) (d : PyData) (k : Kd), xs = [x] ∧ Dat H x d k ∧ d.showable = true ∧ d.shown.length ≤ sizeLine ∧ Q (.str d.shown) H
theorem depth_ints : ∀ ns : List Int, PyData.depthAll (ns.map PyData.int) ≤ 1
  | [] => by simp [PyData.depthAll]
  | n :: r => by
    have z := depth_ints r
    simp only [List.map_cons, PyData.depthAll, PyData.depth]
    omega
theorem call_reprX {X : Cx} (hgd : X.A.guards = some []) (hu : X.A.units + 64 < cLine) : CallR X (.builtin "repr") (rReprX X.K) := by
  intro pins s σ H xs us Q I r h
  obtain ⟨x, d, k, rfl, hd, hs, hz, q⟩ := h
  by_cases hdic : ∃ a, x = .ref a ∧ H a = some (.dK []) ∧ d = .dict []
  · obtain ⟨a, rfl, ha, rfl⟩ := hdic
    obtain ⟨u, rfl, r1⟩ := vals1 r
    have e1 : u = Value.ref a := r1
    subst e1
    obtain ⟨_, hsys, vs, hkv, o, es, ep, h1, h2, h3, _, h4, _⟩ := (show ObjOk X.prog X.w H s.heap a (.dK []) from I.hok a _ ha)
    cases hkv
    have hes : es = #[] := by
      obtain ⟨l⟩ := es
      cases l with
      | nil => rfl
      | cons e r => cases h4
    subst hes
    have rd : Reads s.heap (.ref a) (.dict []) (a :: [] ++ []) := .dict (kvs := []) (as := []) (bs := []) h1 h2.1 h3 .nil .nil
    refine repr_of_reads' rd hs (fun _ hm => ?_) hgd (by simp only [PyData.depth, PyData.depthKv]; omega) (fun _ _ e => e) (fun h' u tk hk => ⟨.str _, H, I.kept (t' := tk) hk, ⟨_, rfl⟩, q⟩) hz
    rcases List.mem_cons.mp hm with e | e
    · rw [← e] at hsys
      simp at hsys
    · cases e
  · refine call_reprD hgd hu pins s σ H [x] us Q I r ⟨x, d, rfl, ?_, hs, ?_, hz, q⟩
    · cases hd with
      | non => exact .non
      | bl b => exact .bl b
      | int i => exact .int i
      | str z => exact .str z
      | lst e => exact .lst (SqL.of e) (dpInts _)
      | tup e => exact .tup (SqT.of e) (dpInts _)
      | dic e => exact absurd ⟨_, rfl, e, rfl⟩ hdic
    · cases hd with
      | non => decide
      | bl b => simp only [PyData.depth]; omega
      | int i => simp only [PyData.depth]; omega
      | str z => simp only [PyData.depth]; omega
      | lst e =>
        have := depth_ints ‹List Int›
        simp only [PyData.depth]
        omega
      | tup e =>
        have := depth_ints ‹List Int›
        simp only [PyData.depth]
        omega
      | dic e => exact absurd ⟨_, rfl, e, rfl⟩ hdic
theorem look1 {f : Str} {v : V} : ([(f, v)] : List (Str × V)).lookup f = some v := by simp [List.lookup]
end My

/-! ### from what the top has written to the facts of an error's class -/
namespace My
open PySem PySem.Spec PyProof.Rows L2
/-- the class stands at C, its __init__ is st -/
structure ErrAt (K : PySem.W.Frag) (x f q : Str) (st : Stmt) (C L : Addr) : Prop where
  at_ : PySem.W.nsIn K mainGlobals x = some (some (.ref C))
  oex : OexC K C
  noF : PySem.W.findIn K (.ref C) f = some none
  xf : XfC K C
  hcl : (PySem.W.clsIn K C).isSome = true
  ha : PySem.W.findIn K (.ref C) "__class__" = some (some (.builtin "object.__class__"))
  hm : PySem.W.mroIn K C (.type "object") = some true
  te : PySem.W.exmOne K (.ref C) (.ref C) = some true
  hn : PySem.W.specialIn K (.builtin "object.__class__") "__get__" = some (some (.builtin "getset_descriptor.__get__"))
  ht : PySem.W.takesIn K (.builtin "object.__class__") = some true
  ini : ∃ (fI : Addr) (fd : FuncData), PySem.W.findIn K (.ref C) "__init__" = some (some (.ref fI)) ∧ PySem.W.typeIn K (.ref fI) = some (.type "function") ∧ Fun K "__init__" q st fI fd
  lo : PySem.W.kitOne K (.ref C) (.ref L) = some true
theorem errAt_mk {K : PySem.W.Frag} {x f q : Str} {st : Stmt} {C L fI : Addr} {nm qn : Str} {N : Addr} {bs : List Value} {sn : List Str} {sub : List Value} {ab : Bool} {col : Option Bool} {dd : Option Addr} {m0 m1 m2 m3 m5 : Option Value}
    {oc : Value} {od an : Option Addr} {osl : Array (Option Value)} {kV doc pm cdv ct : Value}
    (a : PySem.W.nsIn K mainGlobals x = some (some (.ref C)))
    (xL : K.lookup C = some (excClassObj nm qn C N bs [.ref L, .type "ValueError", .type "Exception", .type "BaseException", .type "object"] true sn sub ab col dd m0 m1 m2 m3 m5 "ValueError.__new__"))
    (i : PySem.W.findIn K (.ref C) "__init__" = some (some (.ref fI)))
    (l : K.lookup fI = some ⟨oc, od, .func (PySem.W.fnOf "__init__" q (defArgs st) (defBody st) (defScope st) .none kV doc pm an cdv ct), osl⟩)
    (c : PySem.W.codeIn K cdv q = true) (k : PySem.W.keepIn K (.ref fI) = true) (tI : PySem.W.typeIn K (.ref fI) = some (.type "function"))
    (sa : PySem.W.findIn K (.ref C) "__setattr__" = some (some (.builtin "object.__setattr__"))) (ga : PySem.W.findIn K (.ref C) "__getattribute__" = some (some (.builtin "BaseException.__getattribute__")))
    (gg : PySem.W.findIn K (.ref C) "__getattr__" = some none) (noF : PySem.W.findIn K (.ref C) f = some none)
    (kC : PySem.W.keepIn K (.ref C) = true) (eC : PySem.W.subIn K (.ref C) (.type "BaseException") = some true) (tC : PySem.W.typeIn K (.ref C) = some (.type "type")) (hC : PySem.W.hasDictIn K C = true) (iC : PySem.W.isClsIn K C = true) (sC : PySem.W.subIn K (.ref C) (.ref C) = some true)
    (ha : PySem.W.findIn K (.ref C) "__class__" = some (some (.builtin "object.__class__"))) (hm : PySem.W.mroIn K C (.type "object") = some true)
    (hn : PySem.W.specialIn K (.builtin "object.__class__") "__get__" = some (some (.builtin "getset_descriptor.__get__"))) (ht : PySem.W.takesIn K (.builtin "object.__class__") = some true)
    (lo : PySem.W.kitOne K (.ref C) (.ref L) = some true) : ErrAt K x f q st C L where
  at_ := a
  oex := ⟨⟨nm, qn, N, bs, _, sn, sub, ab, col, dd, m0, m1, m2, m3, m5, xL, by rfl⟩, sa, eC, tC, kC⟩
  noF := noF
  xf := ⟨ga, gg, eC, hC⟩
  hcl := iC
  ha := ha
  hm := hm
  te := PySem.W.exm_ref eC hC tC sC
  hn := hn
  ht := ht
  ini := ⟨fI, _, i, tI, fun_mk l c k⟩
  lo := lo
theorem ErrAt.mk' {P : Program} {w : World} {K : PySem.W.Frag} {mg : Str → Option Value} {base h : Heap} {x f q : Str} {st : Stmt} {C L : Addr} (T : ErrAt K x f q st C L) (X : K.In h) (G : h.Ns mainGlobals mg)
    (hb : ∀ (kV doc pm : Value) (an : Option Addr) (cdv ct : Value) (us : List Value), us.length = (["self", f] : List Str).length → bindArgs (PySem.W.fnOf "__init__" q (defArgs st) (defBody st) (defScope st) .none kV doc pm an cdv ct) ⟨us, []⟩ = pure ((["self", f] : List Str).zip us))
    (hF : ∀ fI fd, Fun K "__init__" q st fI fd → FnOk P w K mg base CX0 1 fI fd ["self", f] (spInit1 C f)) : ErrC P w K mg base x f C := by
  obtain ⟨fI, fd, i, tI, F⟩ := T.ini
  exact { gC := PySem.W.mg_of X G T.at_, oex := T.oex, noF := T.noF, xf := T.xf, hcl := T.hcl, ha := T.ha, hm := T.hm, te := T.te, hn := T.hn, ht := T.ht, ini := ⟨fI, fd, i, tI, F.binds hb, hF fI fd F⟩ }
theorem baseC_mk {K : PySem.W.Frag} {h : Heap} {mg : Str → Option Value} {L : Addr} (X : K.In h) (G : h.Ns mainGlobals mg) (a : PySem.W.nsIn K mainGlobals "LoreError" = some (some (.ref L))) (rd : PySem.W.readsIn K L (.type "type") = true)
    (ga : PySem.W.specialIn K (.ref L) "__getattribute__" = some (some (.builtin "type.__getattribute__"))) (vI : PySem.W.findCls K (.ref L) (.type "type") "__init__" = some (.val (.builtin "ValueError.__init__"))) : BaseC K mg L := ⟨PySem.W.mg_of X G a, rd, ga, vI⟩
end My

/-! ### texts, sign by sign -/
namespace My
open PySem PySem.Spec PyProof.Rows L2
theorem Same.wr {H H' : Hp} {D : Addr} {o : HO} (s : Same H H') (n : H D = none) : Same H (upd H' D o) := fun b u e => by
  rw [upd_ne (ne_of_none e n)]
  exact s b u e
/-- a comprehension of truths over the signs of a text -/
theorem lc_signs {σ : L2.St} {H1 : Hp} {D : Addr} {z : Str} {vs : List Nat} {j : Nat} {te : TE} {f : Nat → Bool} {Qd : Hp → Prop} (hD : H1 D = none) (hw : ∀ v, wipe ((wipe σ vs).set j v) vs = wipe σ vs) (hl : z.length ≤ sizeLine)
    (hte : ∀ (c : Nat) (H : Hp) (Q : VK), Q (.bl (f c)) H → te ((wipe σ vs).set j (some (.str ⟨#[c]⟩))) H Q) (hd : ∀ H', Same H1 H' → H' D = some (.lst ((z.cps.toList.map f).map V.bl)) → Qd H') :
    ∃ W : Nat → Nat → Hp → Prop, (∃ m, W 0 m (upd H1 D (.lst []))) ∧ ∀ i m H, W i m H →
      ((Its z).stop i H ∧ Qd H) ∨ ((Its z).go i H ∧ ∃ Nx : Hp → Prop, (∀ H', Nx H' → ∃ m', m' < m ∧ W (i + 1) m' H') ∧ ∀ x H', (Its z).yld i H x H' → gName j x (wipe σ vs) H' fun σ2 H2 => wipe σ2 vs = wipe σ vs ∧ tYes σ2 H2 fun b H3 =>
        if b = true then te σ2 H3 fun y H4 => ∃ acc, H4 D = some (.lst acc) ∧ acc.length < sizeLine ∧ Nx (upd H4 D (.lst (acc ++ [y]))) else Nx H3) := by
  refine lc_it walk_str (fun i H' => Same H1 H' ∧ H' D = some (.lst (((z.cps.toList.take i).map f).map V.bl))) ⟨Same.wr (Same.refl _) hD, upd_same⟩ (fun _ _ _ _ => trivial) ?_ ?_
  · intro i x H H' hi hP hY
    obtain ⟨rfl, c, hc, rfl⟩ := hY
    obtain ⟨s, h⟩ := hP
    refine ⟨hw _, ?_⟩
    refine hte c _ _ ⟨_, h, ?_, Same.wr s hD, ?_⟩
    · have hl' : z.cps.size ≤ sizeLine := hl
      simp only [List.length_map, List.length_take, Array.length_toList]
      omega
    · have hc' : z.cps.toList[i]? = some c := by simpa using hc
      rw [upd_same, List.take_add_one, hc', List.map_append, List.map_append]
      rfl
  · intro H hP
    obtain ⟨s, h⟩ := hP
    rw [List.take_of_length_le (by simp)] at h
    exact hd H s h
/-- a comprehension of those signs of a text that a test holds -/
theorem lc_kept {σ : L2.St} {H1 : Hp} {D : Addr} {z : Str} {vs : List Nat} {j : Nat} {tt : TT} {te : TE} {f : Nat → Bool} {Qd : Hp → Prop} (hD : H1 D = none) (hw : ∀ v, wipe ((wipe σ vs).set j v) vs = wipe σ vs) (hl : z.length ≤ sizeLine)
    (htt : ∀ (c : Nat) (H : Hp) (Q : Bool → Hp → Prop), Q (f c) H → tt ((wipe σ vs).set j (some (.str ⟨#[c]⟩))) H Q)
    (hte : ∀ (c : Nat) (H : Hp) (Q : VK), Q (.str ⟨#[c]⟩) H → te ((wipe σ vs).set j (some (.str ⟨#[c]⟩))) H Q) (hd : ∀ H', Same H1 H' → H' D = some (.lst ((z.cps.toList.filter f).map fun c => V.str ⟨#[c]⟩)) → Qd H') :
    ∃ W : Nat → Nat → Hp → Prop, (∃ m, W 0 m (upd H1 D (.lst []))) ∧ ∀ i m H, W i m H →
      ((Its z).stop i H ∧ Qd H) ∨ ((Its z).go i H ∧ ∃ Nx : Hp → Prop, (∀ H', Nx H' → ∃ m', m' < m ∧ W (i + 1) m' H') ∧ ∀ x H', (Its z).yld i H x H' → gName j x (wipe σ vs) H' fun σ2 H2 => wipe σ2 vs = wipe σ vs ∧ tt σ2 H2 fun b H3 =>
        if b = true then te σ2 H3 fun y H4 => ∃ acc, H4 D = some (.lst acc) ∧ acc.length < sizeLine ∧ Nx (upd H4 D (.lst (acc ++ [y]))) else Nx H3) := by
  refine lc_it walk_str (fun i H' => Same H1 H' ∧ H' D = some (.lst (((z.cps.toList.take i).filter f).map fun c => V.str ⟨#[c]⟩))) ⟨Same.wr (Same.refl _) hD, upd_same⟩ (fun _ _ _ _ => trivial) ?_ ?_
  · intro i x H H' hi hP hY
    obtain ⟨rfl, c, hc, rfl⟩ := hY
    obtain ⟨s, h⟩ := hP
    have hc' : z.cps.toList[i]? = some c := by simpa using hc
    refine ⟨hw _, htt c _ _ ?_⟩
    cases hf : f c with
    | true =>
      refine hte c _ _ ⟨_, h, ?_, Same.wr s hD, ?_⟩
      · have hl' : z.cps.size ≤ sizeLine := hl
        have hle := List.length_filter_le f (z.cps.toList.take i)
        simp only [List.length_map, List.length_take, Array.length_toList] at hle ⊢
        omega
      · rw [upd_same, List.take_add_one, hc', List.filter_append, List.map_append]
        simp [hf]
    | false =>
      refine ⟨s, ?_⟩
      rw [h, List.take_add_one, hc', List.filter_append]
      simp [hf]
  · intro H hP
    obtain ⟨s, h⟩ := hP
    rw [List.take_of_length_le (by simp)] at h
    exact hd H s h
/-! ### names, values -/
def isL (c : Nat) : Bool := decide (97 ≤ c ∧ c ≤ 122)
def isF (c : Nat) : Bool := decide (48 ≤ c ∧ c ≤ 57)
theorem lets_eq : (PySem.Str.ofString "abcdefghijklmnopqrstuvwxyz").cps.toList = List.range' 97 26 := by decide +kernel
theorem figs_eq : (PySem.Str.ofString "0123456789").cps.toList = List.range' 48 10 := by decide +kernel
theorem in_lets (c : Nat) : decide (c ∈ (PySem.Str.ofString "abcdefghijklmnopqrstuvwxyz").cps.toList) = isL c := by
  unfold isL
  rw [decide_eq_decide, lets_eq, List.mem_range'_1]
  omega
theorem in_figs (c : Nat) : decide (c ∈ (PySem.Str.ofString "0123456789").cps.toList) = isF c := by
  unfold isF
  rw [decide_eq_decide, figs_eq, List.mem_range'_1]
  omega
theorem in_both (c : Nat) : decide (c ∈ (PySem.Str.ofString "abcdefghijklmnopqrstuvwxyz" ++ PySem.Str.ofString "0123456789").cps.toList) = (isL c || isF c) := by
  have e : (PySem.Str.ofString "abcdefghijklmnopqrstuvwxyz" ++ PySem.Str.ofString "0123456789").cps.toList = (PySem.Str.ofString "abcdefghijklmnopqrstuvwxyz").cps.toList ++ (PySem.Str.ofString "0123456789").cps.toList := by decide +kernel
  rw [e, ← in_lets, ← in_figs, ← Bool.decide_or]
  rw [decide_eq_decide]
  exact List.mem_append
def ownW : List Str := ["all", "key", "days", "turns", "last", "ends", "now", "both", "either", "but", "let", "bar", "frame", "find", "known", "ask"]
abbrev ownV : List V := ownW.map V.str
def nameB (z : Str) : Bool := decide (1 ≤ z.length ∧ z.length ≤ 8) && (!inV (.str z) ownV && z.cps.toList.all isL)
def valueB (z : Str) : Bool := decide (1 ≤ z.length ∧ z.length ≤ 12) && z.cps.toList.all fun c => isL c || isF c
def nameX : V → Bool | .str z => nameB z | _ => false
def valueX : V → Bool | .str z => valueB z | _ => false
theorem own_flat : ownV.all flatV = true := by decide +kernel
/-- what is promised of a function that tells a truth of a thing -/
def spTell (f : V → Bool) : Sp := fun vs H Q _ => ∃ (x : V) (k : Kd), vs = [x] ∧ Thing H x k ∧ (∀ z, x = .str z → z.length ≤ sizeLine) ∧ ∀ H', Same H H' → Q (.bl (f x)) H'
end My

/-! ### the law's call, where its promise is of that kind -/
namespace My
open PySem PySem.Spec PyProof.Rows L2
theorem law_callG {P : Program} {w : World} {K : PySem.W.Frag} {mg mb : Str → Option Value} {CX : CXT} {k : Nat} {fa a : Addr} {fd : FuncData} {x : Str} {sp : Sp} {s₁ : Shared} {vs : List Value} {ns : List Int} (KX : K.In s₁.heap) (hns : s₁.heap.Ns mainGlobals mg)
    (hb : s₁.heap.Ns builtinsNs mb) (hbb : ∀ x : Str, x ≠ "__name__" → mb x = bootBuiltins x) (hlim : s₁.heap.NoLimit) (hg : s₁.gens = #[]) (ha : s₁.heap.get? a = some { cls := .type "list", data := .seq vs.toArray })
    (hi : IntsAre vs ns) (hl : ns.length ≤ sizeLine) (hr : Room k callerA) (F : ∀ base : Heap, K.In base → base.Ns mainGlobals mg → FnG P w K mg base CX k fa fd [x] sp) (hbind : ∀ (s : Shared) (u : Value), BindsTo s fd ⟨[u], []⟩ [(x, u)])
    (hsp : ∀ H : Hp, Only H → SqL K H a (ns.map V.int) → sp [.ref a] H (fun v _ => v = .bl true) fun _ _ _ => False) (hCX : ∀ H e s', CX [] H s₁ (fun _ _ _ => False) e s' → False) :
    codeAny (model P w) callerA (.call (.ref fa) ⟨[.ref a], []⟩)
      (fun r s' => r = .ok (.ret (.bool true)) ∧ OldK s₁.heap s'.heap ∧ s'.os = s₁.os ∧ AllBare s'.gens) s₁ := by
  have rv := vals_ints hi
  have lenV := hi.length
  have core : ∀ H : Hp, Only H → SqL K H a (ns.map V.int) → HOk P w H s₁.heap → (∀ b, H b ≠ none → b = a) → (H a ≠ none → K.lookup a = none) →
      codeAny (model P w) callerA (.call (.ref fa) ⟨[.ref a], []⟩)
        (fun r s' => r = .ok (.ret (.bool true)) ∧ OldK s₁.heap s'.heap ∧ s'.os = s₁.os ∧ AllBare s'.gens) s₁ := by
    intro H hO hS hok hA hK
    have isA : ∀ {b : Addr} {u : HO}, H b = some u → b = a := by
      intro b u q
      apply hA b
      rw [q]
      exact fun z => nomatch z
    have dictFree : ∀ {b : Addr} {o : Obj} {es : Array DictEntry} {ep : Nat}, s₁.heap.get? b = some o → o.data = .dict es ep → H b = none := by
      intro b o es ep e d
      cases q : H b with
      | none => rfl
      | some u =>
        have e' := isA q
        subst e'
        rw [ha] at e
        cases e
        have d' : Data.seq vs.toArray _ = Data.dict es ep := d
        cases d'
    have ns2 : ∀ {b : Addr} {m : Str → Option Value}, s₁.heap.Ns b m → (hidT s₁.heap H).Ns b m := by
      intro b m h
      obtain ⟨o, es, ep, e, d, r⟩ := h
      exact ⟨o, es, ep, hidT_get e (dictFree e d), d, r⟩
    have kin2 : K.In (hidT s₁.heap H) := by
      intro b o e
      apply hidT_get (KX b o e)
      cases q : H b with
      | none => rfl
      | some u =>
        have e' := isA q
        subst e'
        have z := hK (by rw [q]; exact fun z => nomatch z)
        rw [z] at e
        cases e
    have nol2 : (hidT s₁.heap H).NoLimit := by
      obtain ⟨mc, h1, h2⟩ := hlim
      exact ⟨mc, ns2 h1, h2⟩
    have e0 : Env0 P w K mg (hidT s₁.heap H) callerA [] s₁ H :=
      { frames := rfl, mod := ⟨kin2, ns2 hns, ⟨mb, ns2 hb, hbb⟩, nol2⟩, bs := fun b o e => of_hidT e, bsz := Nat.le_of_eq (hidT_size _ _), funs := trivial, frf := fun b hb => (by cases (show b ∈ ([] : List Addr) from hb)), hok := hok, bare := .of_eq hg }
    have run := (F _ kin2 (ns2 hns)).run callerA [] s₁ H ⟨[.ref a], []⟩ [.ref a] [.ref a] _ _ rfl hr e0 (hbind s₁ (.ref a)) (.cons rfl .nil) (hsp H hO hS)
    refine codeAny_mono run ?_
    intro r s' h
    rcases r with e | fl
    · exact (hCX H e s' h).elim
    · cases fl with
      | next => cases h
      | brk => cases h
      | cont => cases h
      | ret u =>
        obtain ⟨v, H', os, bare, un, hok', r', q⟩ := h
        have q' : v = .bl true := q
        subst q'
        have ru : u = Value.bool true := r'
        subst ru
        refine ⟨rfl, OldK.of_keep ?_, os, bare⟩
        intro b o e
        cases q : H b with
        | none => exact un.keep b o e q (fun z => by cases (show b ∈ ([] : List Addr) from z)) (by simp)
        | some u =>
          rcases hO b with z | ⟨ob, xs, z⟩
          · rw [q] at z
            cases z
          · obtain ⟨e1, _⟩ := hok b _ z
            obtain ⟨e2, _⟩ := hok' b _ (un.frzs b ob _ z)
            rw [e] at e1
            cases e1
            exact e2
  cases hk : K.lookup a with
  | some o =>
    have e := KX a o hk
    rw [ha] at e
    cases e
    have hsq : SqL K (fun _ => none) a (ns.map V.int) := .inr ⟨_, vs.toArray, _, hk, rfl, rfl, rfl, by rw [List.size_toArray, lenV]; exact hl, by simpa using rv⟩
    exact core (fun _ => none) (fun _ => .inl rfl) hsq (fun b u z => nomatch z) (fun b z => absurd rfl z) fun z => absurd rfl z
  | none =>
    let H0 : Hp := upd (fun _ => none) a (.frz { cls := .type "list", data := .seq vs.toArray } (.lst (ns.map V.int)))
    have at0 : H0 a = some (.frz { cls := .type "list", data := .seq vs.toArray } (.lst (ns.map V.int))) := upd_same
    have off0 : ∀ b, b ≠ a → H0 b = none := fun b hb => upd_ne hb
    refine core H0 ?_ (.inl (.inr ⟨_, at0⟩)) ?_ ?_ (fun _ => hk)
    · intro b
      by_cases hb : b = a
      · subst hb
        exact .inr ⟨_, _, at0⟩
      · exact .inl (off0 b hb)
    · intro b u z
      by_cases hb : b = a
      · subst hb
        rw [at0] at z
        cases z
        exact ⟨ha, by rw [List.length_map]; exact hl, vs, _, rv, ha⟩
      · rw [off0 b hb] at z
        cases z
    · intro b z
      by_cases hb : b = a
      · exact hb
      · exact absurd (off0 b hb) z
theorem walk_ofG {l : PySem.W.OpenLaw} {n k : Nat} {q : Program} {loose : List Str} {XP : (Str → Option Value) → Heap → Prop} {YP : World → Heap → Prop} {d : DefRec} {K : Params → PySem.W.Frag} {CX : World → CXT} {sp : World → Sp} {x : Str}
    (hn : l.most = some n) (hn2 : n ≤ sizeLine) (hdf : d.params.defaults = []) (hr : Room k callerA) (hY : ∀ (w : World) (h : Heap), YP w h → (K w.params).In h)
    (F : ∀ (w : World) (mg : Str → Option Value) (fa : Addr) (h : Heap), (K w.params).In h → h.Ns mainGlobals mg → mg d.name = some (.ref fa) →
      ∃ fd : FuncData, (∀ (s : Shared) (u : Value), BindsTo s fd ⟨[u], []⟩ [(x, u)]) ∧ ∀ base : Heap, (K w.params).In base → base.Ns mainGlobals mg → FnG l.prog w (K w.params) mg base (CX w) k fa fd [x] (sp w))
    (hsp : ∀ (w : World) (H : Hp) (a : Addr) (ns : List Int), ns.length ≤ n → (∀ z ∈ ns, Builtin.Int.intBits z ≤ 1048576) → Only H → SqL (K w.params) H a (ns.map V.int) → sp w [.ref a] H (fun v _ => v = .bl true) fun _ _ _ => False)
    (hCX : ∀ (w : World) (H : Hp) (s : Shared) (e : Value) (s' : Shared), CX w [] H s (fun _ _ _ => False) e s' → False) : PySem.W.WalkO q loose XP YP l.row.toRowW d [] (fun f vs => PySem.call f vs) := by
  apply Att.attach_callB hn hdf
  intro w s₀ s₁ mg mb fa o pm cd doc a vs ns G Y ho hd hcd hmg hobj hints hlen hbits hg
  have KX := hY w _ Y
  obtain ⟨fd, hb, hF⟩ := F w mg fa _ KX G.T.g hmg
  exact law_callG KX G.T.g G.T.b G.T.builtins G.T.nolimit hg hobj hints (Nat.le_trans hlen hn2) hr hF hb (fun H hO hS => hsp w H a ns hlen hbits hO hS) fun H e s' => hCX w H s₁ e s'
end My

namespace My
open PySem PySem.Spec PyProof.Rows L2
def topS (i : Nat) : Stmt := PySem.Challenge.pw_leastlore_k11_words_told.main.body.getD i (.Pass ⟨0, 0, 0, 0⟩)
abbrev sis_whole : Stmt := topS 6
theorem scis_whole : FnScope ["thing"] ["thing"] (defScope sis_whole) := ⟨rfl, rfl, rfl, by decide +kernel, rfl, by decide +kernel, by decide +kernel⟩

abbrev sis_within : Stmt := topS 7
theorem scis_within : FnScope ["thing", "low", "high"] ["thing", "low", "high"] (defScope sis_within) := ⟨rfl, rfl, rfl, by decide +kernel, rfl, by decide +kernel, by decide +kernel⟩

abbrev sown_words : Stmt := topS 8
theorem scown_words : FnScope [] [] (defScope sown_words) := ⟨rfl, rfl, rfl, by decide +kernel, rfl, by decide +kernel, by decide +kernel⟩

abbrev sis_name : Stmt := topS 9
theorem scis_name : FnScope ["thing", "sign"] ["thing"] (defScope sis_name) := ⟨rfl, rfl, rfl, by decide +kernel, rfl, by decide +kernel, by decide +kernel⟩

abbrev sis_value : Stmt := topS 10
theorem scis_value : FnScope ["thing", "sign"] ["thing"] (defScope sis_value) := ⟨rfl, rfl, rfl, by decide +kernel, rfl, by decide +kernel, by decide +kernel⟩

abbrev splain_number : Stmt := topS 11
theorem scplain_number : FnScope ["thing", "most", "number", "sign"] ["thing", "most"] (defScope splain_number) := ⟨rfl, rfl, rfl, by decide +kernel, rfl, by decide +kernel, by decide +kernel⟩

abbrev s_law_cell_at : Stmt := topS 13
theorem sc_law_cell_at : FnScope ["_law_script", "_law_k"] ["_law_script", "_law_k"] (defScope s_law_cell_at) := ⟨rfl, rfl, rfl, by decide +kernel, rfl, by decide +kernel, by decide +kernel⟩

abbrev s_law_box : Stmt := topS 14
theorem sc_law_box : FnScope ["_law_cell"] ["_law_cell"] (defScope s_law_box) := ⟨rfl, rfl, rfl, by decide +kernel, rfl, by decide +kernel, by decide +kernel⟩

abbrev s_law_take : Stmt := topS 15
theorem sc_law_take : FnScope ["_law_box_here", "_law_many", "_law_number"] ["_law_box_here", "_law_many"] (defScope s_law_take) := ⟨rfl, rfl, rfl, by decide +kernel, rfl, by decide +kernel, by decide +kernel⟩

abbrev s_law_text : Stmt := topS 16
theorem sc_law_text : FnScope ["_law_box_here", "_law_signs", "_law_more", "_law_kind", "_law_text_here", "_law_k"] ["_law_box_here"] (defScope s_law_text) := ⟨rfl, rfl, rfl, by decide +kernel, rfl, by decide +kernel, by decide +kernel⟩

abbrev s_law_own : Stmt := topS 17
theorem sc_law_own : FnScope ["_law_words"] [] (defScope s_law_own) := ⟨rfl, rfl, rfl, by decide +kernel, rfl, by decide +kernel, by decide +kernel⟩

abbrev s_law_name_due : Stmt := topS 18
theorem sc_law_name_due : FnScope ["_law_text_here", "_law_sign"] ["_law_text_here"] (defScope s_law_name_due) := ⟨rfl, rfl, rfl, by decide +kernel, rfl, by decide +kernel, by decide +kernel⟩

abbrev s_law_value_due : Stmt := topS 19
theorem sc_law_value_due : FnScope ["_law_text_here", "_law_sign"] ["_law_text_here"] (defScope s_law_value_due) := ⟨rfl, rfl, rfl, by decide +kernel, rfl, by decide +kernel, by decide +kernel⟩

abbrev s_law_number_due : Stmt := topS 20
theorem sc_law_number_due : FnScope ["_law_text_here", "_law_most", "_law_number", "_law_sign"] ["_law_text_here", "_law_most"] (defScope s_law_number_due) := ⟨rfl, rfl, rfl, by decide +kernel, rfl, by decide +kernel, by decide +kernel⟩

abbrev s_law_same : Stmt := topS 21
theorem sc_law_same : FnScope ["_law_found", "_law_due"] ["_law_found", "_law_due"] (defScope s_law_same) := ⟨rfl, rfl, rfl, by decide +kernel, rfl, by decide +kernel, by decide +kernel⟩

abbrev s_law_texts_right : Stmt := topS 22
theorem sc_law_texts_right : FnScope ["_law_text_here", "_law_most"] ["_law_text_here", "_law_most"] (defScope s_law_texts_right) := ⟨rfl, rfl, rfl, by decide +kernel, rfl, by decide +kernel, by decide +kernel⟩

abbrev s_law_numbers_right : Stmt := topS 23
theorem sc_law_numbers_right : FnScope ["_law_box_here", "_law_text_here", "_law_low", "_law_high", "_law_number", "_law_thing"] ["_law_box_here", "_law_text_here"] (defScope s_law_numbers_right) := ⟨rfl, rfl, rfl, by decide +kernel, rfl, by decide +kernel, by decide +kernel⟩

abbrev slaw : Stmt := topS 24
theorem sclaw : FnScope ["_law_script", "_law_k", "_law_text_here", "_law_box_here", "_law_most", "_law_far", "_law_own_here", "_law_texts"] ["_law_script"] (defScope slaw) := ⟨rfl, rfl, rfl, by decide +kernel, rfl, by decide +kernel, by decide +kernel⟩

structure Tx (mg : Str → Option Value) : Prop where
  b_all : mg "all" = none
  b_bool : mg "bool" = none
  b_int : mg "int" = none
  b_isinstance : mg "isinstance" = none
  b_len : mg "len" = none
  b_list : mg "list" = none
  b_max : mg "max" = none
  b_min : mg "min" = none
  b_range : mg "range" = none
  b_repr : mg "repr" = none
  b_str : mg "str" = none
  c_LETTERS : ∃ t, mg "LETTERS" = some (.str (PySem.Str.ofString "abcdefghijklmnopqrstuvwxyz") t)
  c_FIGURES : ∃ t, mg "FIGURES" = some (.str (PySem.Str.ofString "0123456789") t)
  c_LONGEST_NAME : ∃ t, mg "LONGEST_NAME" = some (.int 8 t)
  c_LONGEST_VALUE : ∃ t, mg "LONGEST_VALUE" = some (.int 12 t)

section
variable {P : Program} {w : World} {K : PySem.W.Frag} {mg : Str → Option Value} {base : Heap}
/-! ### is_whole, is_within -/
def isI : V → Bool | .int _ => true | _ => false
def wi (x : V) (lo hi : Int) : Bool := match x with | .int i => decide (lo ≤ i ∧ i ≤ hi) | _ => false
def spWhole : Sp := fun vs H Q _ => ∃ (x : V) (k : Kd), vs = [x] ∧ Thing H x k ∧ Q (.bl (isI x)) H
theorem ok_whole {f : Addr} {fd : FuncData} (T : Tx mg) (F : Fun K "is_whole" "is_whole" sis_whole f fd) : FnOk P w K mg base CX0 1 f fd ["thing"] spWhole := by
  refine F.ok scis_whole (fun vs H Q E h => ?_) (fun cdv A outer s H vs Q E hr h => ?_)
  · obtain ⟨x, k, rfl, _⟩ := h
    rfl
  · obtain ⟨x, k, rfl, t, q⟩ := h
    refine ⟨_, (pss_one (ps_ret (pe_and (pe_callB call_isi (by rfl) T.b_isinstance PyProof.Rows.boot_isinstance (pa_cons (pv 0) (pa_cons (pe_bltn (v := .ty "int") (by rfl) T.b_int PyProof.Rows.boot_int rfl) pa_nil))) (pe_one (pe_not (pe_callB call_isi (by rfl) T.b_isinstance PyProof.Rows.boot_isinstance (pa_cons (pv 0) (pa_cons (pe_bltn (v := .ty "bool") (by rfl) T.b_bool PyProof.Rows.boot_bool rfl) pa_nil)))))))), ?_⟩
    refine ⟨_, rfl, _, _, _, _, k.isInt, rfl, .ty _, t.tyx, kit_ty (kit_int k), k.isInt, rfl, ?_⟩
    have e : isI x = (k.isInt && !k.isBool) := by cases t <;> rfl
    rw [e] at q
    refine ite2 (fun c => ?_) (fun c => ?_)
    · refine ⟨_, rfl, _, _, _, _, k.isBool, rfl, .ty _, t.tyx, kit_ty (kit_bool k), k.isBool, rfl, ?_⟩
      rw [c, Bool.true_and] at q
      exact q
    · have c' : k.isInt = false := by simpa using c
      rw [c', Bool.false_and] at q
      exact q
def spWithin : Sp := fun vs H Q _ => ∃ (x : V) (k : Kd) (lo hi : Int), vs = [x, .int lo, .int hi] ∧ Thing H x k ∧ Q (.bl (wi x lo hi)) H
theorem ok_within {f : Addr} {fd : FuncData} (T : Tx mg) (G_is_whole : Ok P w K mg base CX0 "is_whole" 1 ["thing"] spWhole) (F : Fun K "is_within" "is_within" sis_within f fd) : FnOk P w K mg base CX0 2 f fd ["thing", "low", "high"] spWithin := by
  refine F.ok scis_within (fun vs H Q E h => ?_) (fun cdv A outer s H vs Q E hr h => ?_)
  · obtain ⟨x, k, lo, hi, rfl, _⟩ := h
    rfl
  · obtain ⟨x, k, lo, hi, rfl, t, q⟩ := h
    refine ⟨_, (pss_one (ps_ret (pe_and (pe_callO G_is_whole (hr.mono (by decide)) (by rfl) pass0 (pa_cons (pv 0) pa_nil)) (pe_one (pe_chain op_le op_le (pv 1) (pv 0) (pv 2)))))), ?_⟩
    refine ⟨_, rfl, x, k, rfl, t, isI x, rfl, ?_⟩
    cases t with
    | int i =>
      refine ⟨_, rfl, _, rfl, lo, i, rfl, rfl, _, rfl, ite2 (fun e => ?_) (fun e => ?_)⟩
      · refine ⟨_, rfl, i, hi, rfl, rfl, ?_⟩
        have e2 : lo ≤ i := of_decide_eq_true e
        have e3 : decide (lo ≤ i ∧ i ≤ hi) = decide (i ≤ hi) := by
          rw [decide_eq_decide]
          exact ⟨fun z => z.2, fun z => ⟨e2, z⟩⟩
        have q2 : Q (.bl (decide (lo ≤ i ∧ i ≤ hi))) H := q
        rw [e3] at q2
        exact q2
      · have e2 : decide (lo ≤ i ∧ i ≤ hi) = false := decide_eq_false fun z => e (decide_eq_true z.1)
        have q2 : Q (.bl (decide (lo ≤ i ∧ i ≤ hi))) H := q
        rw [e2] at q2
        exact q2
    | non => exact q
    | bl b => exact q
    | str z => exact q
    | lst e => exact q
    | tup e => exact q
    | dic e => exact q

/-! ### own_words, is_name, is_value -/
structure OwnAt (K : PySem.W.Frag) (mg : Str → Option Value) (a_OWN : Addr) : Prop where
  c : mg "OWN" = some (.ref a_OWN)
  sq : ∀ H, SqT K H a_OWN ownV
theorem ok_name {f a_OWN : Addr} {fd : FuncData} (T : Tx mg) (O : OwnAt K mg a_OWN) (F : Fun K "is_name" "is_name" sis_name f fd) : FnOk P w K mg base CX0 1 f fd ["thing"] (spTell nameX) := by
  obtain ⟨t1, c_LETTERS⟩ := T.c_LETTERS
  obtain ⟨t2, c_LONGEST_NAME⟩ := T.c_LONGEST_NAME
  have c_OWN := O.c
  refine F.ok scis_name (fun vs H Q E h => ?_) (fun cdv A outer s H vs Q E hr h => ?_)
  · obtain ⟨x, k, rfl, _⟩ := h
    rfl
  · obtain ⟨x, k, rfl, t, hz, q⟩ := h
    refine ⟨_, (pss_cons (ps_if (PW.pt (pw_or (pt_not (pt_val (pe_callB call_isi (by rfl) T.b_isinstance PyProof.Rows.boot_isinstance (pa_cons (pv 0) (pa_cons (pe_bltn (v := .ty "str") (by rfl) T.b_str PyProof.Rows.boot_str rfl) pa_nil))))) (pw_or (pt_not (pt_chain op_le op_le pe_int (pe_callB call_len_str (by rfl) T.b_len PySem.boot_len (pa_cons (pv 0) pa_nil)) (pe_glob (v := .int 8) (by rfl) c_LONGEST_NAME ⟨_, rfl⟩))) (pw_or1 (pt_cmpR op_in_seq (pv 0) (pe_glob (v := .ref a_OWN) (by rfl) c_OWN rfl) (by rfl)))))) (pss_one (ps_ret pe_bl)) pss_nil)
      (pss_one (ps_ret (pe_callB (cr_all rfl) (by rfl) T.b_all PyProof.Rows.boot_all (pa_cons (pe_lc (own := [("sign", 1)]) (g := gName 1) (tt := tYes) rfl scis_name.nd (pi_str (pv 0)) (blkOk_by (own := [("sign", 1)]) (N := ["thing", "sign"]) (sc := defScope sis_name) (by decide +kernel)) (fun _ _ _ _ _ => pg_name (i := 1) scis_name.nd rfl (Or.inl rfl)) (fun _ _ _ _ _ => pts_nil) (fun _ _ _ _ _ => (pe_cmpR op_in_sign (pv 1) (pe_glob (v := .str (PySem.Str.ofString "abcdefghijklmnopqrstuvwxyz")) (by rfl) c_LETTERS ⟨_, rfl⟩) (by rfl)))) pa_nil))))), ?_⟩
    refine ⟨_, rfl, _, _, _, _, k.isStr, rfl, .ty _, t.tyx, kit_ty (kit_str k), k.isStr, rfl, ?_⟩
    have no : k.isStr = false → nameX x = false := fun e => by cases t <;> first | rfl | cases e
    cases hk : k.isStr with
    | false =>
      have e := no hk
      refine iteT ?_
      rw [e] at q
      exact q H (Same.refl _)
    | true =>
      obtain ⟨z, rfl⟩ : ∃ z, x = .str z := by cases t <;> first | exact ⟨_, rfl⟩ | cases hk
      have hl := hz z rfl
      refine iteF ?_
      have q2 : ∀ H', Same H H' → Q (.bl (nameB z)) H' := q
      by_cases c1 : 1 ≤ z.length
      · by_cases c2 : z.length ≤ 8
        · refine ⟨_, rfl, z, rfl, hl, 1, _, rfl, rfl, true, ?_, ?_⟩
          · exact congrArg V.bl (decide_eq_true (by omega))
          refine ⟨_, _, rfl, rfl, true, ?_, iteF ?_⟩
          · exact congrArg V.bl (decide_eq_true (by omega))
          refine ⟨_, rfl, a_OWN, _, rfl, .inr (O.sq _), rfl, own_flat, _, rfl, ?_⟩
          have e0 : decide (1 ≤ z.length ∧ z.length ≤ 8) = true := decide_eq_true ⟨c1, c2⟩
          cases ho : inV (.str z) ownV with
          | true =>
            have e : nameB z = false := by
              unfold nameB
              rw [ho, e0]
              rfl
            rw [e] at q2
            exact iteT (q2 H (Same.refl _))
          | false =>
            refine iteF ?_
            refine ⟨_, rfl, z, rfl, fun D hD => lc_signs hD (fun _ => rfl) hl (f := isL) (fun c H Q q => ⟨_, rfl, c, _, rfl, rfl, by rw [in_lets]; exact q⟩) (fun H' s h => ?_)⟩
            refine ⟨D, _, rfl, SqL.of h, ?_⟩
            have e : nameB z = (z.cps.toList.map isL).all id := by
              unfold nameB
              rw [ho, e0, List.all_map]
              rfl
            rw [e] at q2
            exact q2 H' s
        · have e : nameB z = false := by
            unfold nameB
            rw [decide_eq_false (fun h => c2 h.2)]
            rfl
          rw [e] at q2
          refine ⟨_, rfl, z, rfl, hl, 1, _, rfl, rfl, true, ?_, ?_⟩
          · exact congrArg V.bl (decide_eq_true (by omega))
          refine ⟨_, _, rfl, rfl, false, ?_, iteT (iteT (q2 H (Same.refl _)))⟩
          exact congrArg V.bl (decide_eq_false (by omega))
      · have e : nameB z = false := by
          unfold nameB
          rw [decide_eq_false (fun h => c1 h.1)]
          rfl
        rw [e] at q2
        refine ⟨_, rfl, z, rfl, hl, 1, _, rfl, rfl, false, ?_, ?_⟩
        · exact congrArg V.bl (decide_eq_false (by omega))
        exact ⟨false, rfl, iteT (iteT (q2 H (Same.refl _)))⟩
theorem ok_value {f : Addr} {fd : FuncData} (T : Tx mg) (F : Fun K "is_value" "is_value" sis_value f fd) : FnOk P w K mg base CX0 1 f fd ["thing"] (spTell valueX) := by
  obtain ⟨t1, c_LETTERS⟩ := T.c_LETTERS
  obtain ⟨t2, c_LONGEST_VALUE⟩ := T.c_LONGEST_VALUE
  obtain ⟨t3, c_FIGURES⟩ := T.c_FIGURES
  refine F.ok scis_value (fun vs H Q E h => ?_) (fun cdv A outer s H vs Q E hr h => ?_)
  · obtain ⟨x, k, rfl, _⟩ := h
    rfl
  · obtain ⟨x, k, rfl, t, hz, q⟩ := h
    refine ⟨_, (pss_cons (ps_if (PW.pt (pw_or (pt_not (pt_val (pe_callB call_isi (by rfl) T.b_isinstance PyProof.Rows.boot_isinstance (pa_cons (pv 0) (pa_cons (pe_bltn (v := .ty "str") (by rfl) T.b_str PyProof.Rows.boot_str rfl) pa_nil))))) (pw_or1 (pt_not (pt_chain op_le op_le pe_int (pe_callB call_len_str (by rfl) T.b_len PySem.boot_len (pa_cons (pv 0) pa_nil)) (pe_glob (v := .int 12) (by rfl) c_LONGEST_VALUE ⟨_, rfl⟩)))))) (pss_one (ps_ret pe_bl)) pss_nil)
      (pss_one (ps_ret (pe_callB (cr_all rfl) (by rfl) T.b_all PyProof.Rows.boot_all (pa_cons (pe_lc (own := [("sign", 1)]) (g := gName 1) (tt := tYes) rfl scis_value.nd (pi_str (pv 0)) (blkOk_by (own := [("sign", 1)]) (N := ["thing", "sign"]) (sc := defScope sis_value) (by decide +kernel)) (fun _ _ _ _ _ => pg_name (i := 1) scis_value.nd rfl (Or.inl rfl)) (fun _ _ _ _ _ => pts_nil) (fun _ _ _ _ _ => (pe_cmpR op_in_sign (pv 1) (pe_op op_add_str (pe_glob (v := .str (PySem.Str.ofString "abcdefghijklmnopqrstuvwxyz")) (by rfl) c_LETTERS ⟨_, rfl⟩) (pe_glob (v := .str (PySem.Str.ofString "0123456789")) (by rfl) c_FIGURES ⟨_, rfl⟩)) (by rfl)))) pa_nil))))), ?_⟩
    refine ⟨_, rfl, _, _, _, _, k.isStr, rfl, .ty _, t.tyx, kit_ty (kit_str k), k.isStr, rfl, ?_⟩
    have no : k.isStr = false → valueX x = false := fun e => by cases t <;> first | rfl | cases e
    cases hk : k.isStr with
    | false =>
      have e := no hk
      refine iteT ?_
      rw [e] at q
      exact q H (Same.refl _)
    | true =>
      obtain ⟨z, rfl⟩ : ∃ z, x = .str z := by cases t <;> first | exact ⟨_, rfl⟩ | cases hk
      have hl := hz z rfl
      refine iteF ?_
      have q2 : ∀ H', Same H H' → Q (.bl (valueB z)) H' := q
      by_cases c1 : 1 ≤ z.length
      · by_cases c2 : z.length ≤ 12
        · refine ⟨_, rfl, z, rfl, hl, 1, _, rfl, rfl, true, ?_, ?_⟩
          · exact congrArg V.bl (decide_eq_true (by omega))
          refine ⟨_, _, rfl, rfl, true, ?_, iteF ?_⟩
          · exact congrArg V.bl (decide_eq_true (by omega))
          have e0 : decide (1 ≤ z.length ∧ z.length ≤ 12) = true := decide_eq_true ⟨c1, c2⟩
          refine ⟨_, rfl, z, rfl, fun D hD => lc_signs hD (fun _ => rfl) hl (f := fun c => isL c || isF c) (fun c H Q q => ⟨_, rfl, _, _, rfl, rfl, (by show 36 ≤ sizeLine; decide), c, _, rfl, rfl, by rw [in_both]; exact q⟩) (fun H' s h => ?_)⟩
          refine ⟨D, _, rfl, SqL.of h, ?_⟩
          have e : valueB z = (z.cps.toList.map fun c => isL c || isF c).all id := by
            unfold valueB
            rw [e0, List.all_map]
            rfl
          rw [e] at q2
          exact q2 H' s
        · have e : valueB z = false := by
            unfold valueB
            rw [decide_eq_false (fun h => c2 h.2)]
            rfl
          rw [e] at q2
          refine ⟨_, rfl, z, rfl, hl, 1, _, rfl, rfl, true, ?_, ?_⟩
          · exact congrArg V.bl (decide_eq_true (by omega))
          refine ⟨_, _, rfl, rfl, false, ?_, iteT (q2 H (Same.refl _))⟩
          exact congrArg V.bl (decide_eq_false (by omega))
      · have e : valueB z = false := by
          unfold valueB
          rw [decide_eq_false (fun h => c1 h.1)]
          rfl
        rw [e] at q2
        refine ⟨_, rfl, z, rfl, hl, 1, _, rfl, rfl, false, ?_, ?_⟩
        · exact congrArg V.bl (decide_eq_false (by omega))
        exact ⟨false, rfl, iteT (q2 H (Same.refl _))⟩

def spOwn : Sp := fun vs H Q _ => vs = [] ∧ ∀ p H', Same H H' → H p = none → H' p = some (.lst ownV) → Q (.ref p) H'
theorem ok_own {f a_OWN : Addr} {fd : FuncData} (T : Tx mg) (O : OwnAt K mg a_OWN) (F : Fun K "own_words" "own_words" sown_words f fd) : FnOk P w K mg base CX0 1 f fd [] spOwn := by
  have c_OWN := O.c
  refine F.ok scown_words (fun vs H Q E h => ?_) (fun cdv A outer s H vs Q E hr h => ?_)
  · obtain ⟨rfl, _⟩ := h
    rfl
  · obtain ⟨rfl, q⟩ := h
    refine ⟨_, (pss_one (ps_ret (pe_callTy call_list_of (by rfl) T.b_list PyProof.Rows.boot_list (pa_cons (pe_glob (v := .ref a_OWN) (by rfl) c_OWN rfl) pa_nil)))), ?_⟩
    exact ⟨a_OWN, _, rfl, .inr (O.sq _), fun l hl => q l _ (same_upd hl) hl upd_same⟩
/-! ### plain_number -/
open NumText in
theorem fold_bounds : ∀ (cs : List Nat) (a : Nat), AllDigits cs → a * 10 ^ cs.length ≤ cs.foldl (fun acc c => acc * 10 + (c - 48)) a ∧ cs.foldl (fun acc c => acc * 10 + (c - 48)) a < (a + 1) * 10 ^ cs.length
  | [], a, _ => by simp
  | c :: cs, a, h => by
    have hc := h.head
    obtain ⟨h1, h2⟩ := fold_bounds cs (a * 10 + (c - 48)) h.tail
    show a * 10 ^ (cs.length + 1) ≤ cs.foldl (fun acc c => acc * 10 + (c - 48)) (a * 10 + (c - 48)) ∧ cs.foldl (fun acc c => acc * 10 + (c - 48)) (a * 10 + (c - 48)) < (a + 1) * 10 ^ (cs.length + 1)
    generalize cs.foldl (fun acc c => acc * 10 + (c - 48)) (a * 10 + (c - 48)) = y at h1 h2 ⊢
    have e1 : a * 10 ^ (cs.length + 1) = (a * 10) * 10 ^ cs.length := by rw [Nat.pow_succ, Nat.mul_comm (10 ^ cs.length) 10, Nat.mul_assoc]
    have e2 : (a + 1) * 10 ^ (cs.length + 1) = ((a + 1) * 10) * 10 ^ cs.length := by rw [Nat.pow_succ, Nat.mul_comm (10 ^ cs.length) 10, Nat.mul_assoc]
    rw [e1, e2]
    exact ⟨Nat.le_trans (Nat.mul_le_mul_right _ (by omega)) h1, Nat.lt_of_lt_of_le h2 (Nat.mul_le_mul_right _ (by omega))⟩
/-- a long text of figures is a great number -/
theorem long_great {cs : List Nat} {n : Nat} (h : NumText.AllDigits cs) (h0 : cs.head? ≠ some 48) (hl : (TL.numL n).length < cs.length) : n < NumText.digitsVal cs := by
  cases cs with
  | nil => simp at hl
  | cons c cs =>
    have hc := h.head
    have hc2 : c ≠ 48 := fun e => h0 (by rw [e]; rfl)
    have b1 := (fold_bounds (TL.numL n) 0 (TL.numL_digits n)).2
    have b2 := (fold_bounds cs (0 * 10 + (c - 48)) h.tail).1
    have e1 : (TL.numL n).foldl (fun acc c => acc * 10 + (c - 48)) 0 = n := TL.numL_val n
    rw [e1] at b1
    have e2 : NumText.digitsVal (c :: cs) = cs.foldl (fun acc c => acc * 10 + (c - 48)) (0 * 10 + (c - 48)) := rfl
    rw [e2]
    have p1 : 10 ^ (TL.numL n).length ≤ 10 ^ cs.length := Nat.pow_le_pow_right (by decide) (by simp at hl; omega)
    have p2 : 1 * 10 ^ cs.length ≤ (0 * 10 + (c - 48)) * 10 ^ cs.length := Nat.mul_le_mul_right _ (by omega)
    generalize 10 ^ (TL.numL n).length = A at *
    generalize 10 ^ cs.length = B at *
    generalize (0 * 10 + (c - 48)) * B = D at *
    omega
def zero : Str := "0"
/-- which number a text plainly writes -/
def plainT (z : Str) (m : Int) : V :=
  if 1 ≤ z.length ∧ z.cps.toList.all isF = true ∧ (z = zero ∨ z.cps.toList.head? ≠ some 48) ∧ ((NumText.digitsVal z.cps.toList : Nat) : Int) ≤ m then .int ((NumText.digitsVal z.cps.toList : Nat) : Int) else .non
def plainX (x : V) (m : Int) : V := match x with | .str z => plainT z m | _ => .non
theorem all_digits {cs : List Nat} (h : cs.all isF = true) : NumText.AllDigits cs := fun c hc => of_decide_eq_true (List.all_eq_true.mp h c hc)
theorem starts_zero (z : Str) : Txt.startswith z zero = decide (z.cps.toList.head? = some 48) := by
  have e1 : zero.cps = #[48] := by decide
  have e2 : zero.length = 1 := by decide
  unfold Txt.startswith Builtin.Str.subAt
  rw [e1, e2, Bool.eq_iff_iff, Bool.and_eq_true, decide_eq_true_eq, decide_eq_true_eq, beq_iff_eq, ← Array.toList_inj]
  have e3 : (z.cps.extract 0 (0 + 1)).toList = z.cps.toList.take 1 := by simp
  rw [e3]
  have e4 : z.length = z.cps.toList.length := by simp [Str.length]
  rw [e4]
  cases z.cps.toList with
  | nil => simp
  | cons c r => simp
theorem str_size {n : Nat} : (PySem.Str.ofString (toString ((n : Nat) : Int))).length = (TL.numL n).length := by
  rw [TL.len_tl, TL.tl_num]
theorem log_small {n : Nat} (h : n < 2 ^ 1000) : n.log2 < 1920 := by
  by_cases h0 : n = 0
  · subst h0
    decide
  · have := (Nat.log2_lt h0).mpr h
    omega
def spPlain : Sp := fun vs H Q _ => ∃ (x : V) (k : Kd) (m : Nat), vs = [x, .int m] ∧ Thing H x k ∧ (∀ z, x = .str z → z.length ≤ sizeLine) ∧ m < 10 ^ 100 ∧ ∀ H', Same H H' → Q (plainX x m) H'
theorem ok_plain {f : Addr} {fd : FuncData} (T : Tx mg) (F : Fun K "plain_number" "plain_number" splain_number f fd) : FnOk P w K mg base CX0 1 f fd ["thing", "most"] spPlain := by
  obtain ⟨t3, c_FIGURES⟩ := T.c_FIGURES
  refine F.ok scplain_number (fun vs H Q E h => ?_) (fun cdv A outer s H vs Q E hr h => ?_)
  · obtain ⟨x, k, m, rfl, _⟩ := h
    rfl
  · obtain ⟨x, k, m, rfl, t, hz, hm, q⟩ := h
    refine ⟨_, (pss_cons (ps_if (PW.pt (pw_or (pt_not (pt_val (pe_callB call_isi (by rfl) T.b_isinstance PyProof.Rows.boot_isinstance (pa_cons (pv 0) (pa_cons (pe_bltn (v := .ty "str") (by rfl) T.b_str PyProof.Rows.boot_str rfl) pa_nil))))) (pw_or1 (pt_not (pt_chain op_le op_le pe_int (pe_callB call_len_str (by rfl) T.b_len PySem.boot_len (pa_cons (pv 0) pa_nil)) (pe_callB call_len_str (by rfl) T.b_len PySem.boot_len (pa_cons (pe_callTy call_str_int (by rfl) T.b_str PyProof.Rows.boot_str (pa_cons (pv 1) pa_nil)) pa_nil))))))) (pss_one (ps_ret pe_non)) pss_nil)
      (pss_cons (ps_if (PW.pt (pw_or (pt_not (pt_val (pe_callB (cr_all rfl) (by rfl) T.b_all PyProof.Rows.boot_all (pa_cons (pe_lc (own := [("sign", 3)]) (g := gName 3) (tt := tYes) rfl scplain_number.nd (pi_str (pv 0)) (blkOk_by (own := [("sign", 3)]) (N := ["thing", "most", "number", "sign"]) (sc := defScope splain_number) (by decide +kernel)) (fun _ _ _ _ _ => pg_name (i := 3) scplain_number.nd rfl (Or.inl rfl)) (fun _ _ _ _ _ => pts_nil) (fun _ _ _ _ _ => (pe_cmpR op_in_sign (pv 3) (pe_glob (v := .str (PySem.Str.ofString "0123456789")) (by rfl) c_FIGURES ⟨_, rfl⟩) (by rfl)))) pa_nil)))) (pw_or1 (PW.pt (pw_and (pt_cmpR op_ne (pv 0) pe_str (nomark _)) (pw_and1 (pt_val (pe_bm PySem.F.plainAttrs_str PySem.F.slot_str_startswith PySem.F.type_str_startswith mt_startswith (pv 0) (pa_cons pe_str pa_nil))))))))) (pss_one (ps_ret pe_non)) pss_nil)
      (pss_cons (ps_set (i := 2) scplain_number.nd rfl (.inl rfl) (pe_callTy call_int_str (by rfl) T.b_int PyProof.Rows.boot_int (pa_cons (pv 0) pa_nil)))
      (pss_cons (ps_if (pt_cmpR op_gt (pv 2) (pv 1) (nomark _)) (pss_one (ps_ret pe_non)) pss_nil)
      (pss_one (ps_ret (pv 2))))))), ?_⟩
    refine ⟨_, rfl, _, _, _, _, k.isStr, rfl, .ty _, t.tyx, kit_ty (kit_str k), k.isStr, rfl, ?_⟩
    have no : k.isStr = false → plainX x m = .non := fun e => by cases t <;> first | rfl | cases e
    cases hk : k.isStr with
    | false =>
      have e := no hk
      refine iteT ?_
      rw [e] at q
      exact q H (Same.refl _)
    | true =>
      obtain ⟨z, rfl⟩ : ∃ z, x = .str z := by cases t <;> first | exact ⟨_, rfl⟩ | cases hk
      have hl := hz z rfl
      refine iteF ?_
      have q2 : ∀ H', Same H H' → Q (plainT z m) H' := q
      have hlen : (TL.numL m).length ≤ 100 := TL.numL_len (by decide) hm
      have hlog : (m : Int).natAbs.log2 < 1920 := by
        rw [Int.natAbs_natCast]
        exact log_small (Nat.lt_of_lt_of_le hm (by decide +kernel))
      have hsz : (PySem.Str.ofString (toString ((m : Nat) : Int))).length ≤ sizeLine := by
        rw [str_size]
        exact Nat.le_of_lt (small1000 (by omega))
      by_cases c1 : 1 ≤ z.length
      · refine ⟨_, rfl, z, rfl, hl, 1, _, rfl, rfl, true, ?_, ?_⟩
        · exact congrArg V.bl (decide_eq_true (by omega))
        refine ⟨_, rfl, m, rfl, hlog, _, rfl, hsz, _, _, rfl, rfl, decide ((z.length : Int) ≤ ((PySem.Str.ofString (toString ((m : Nat) : Int))).length : Int)), rfl, ?_⟩
        rw [str_size]
        by_cases c2 : z.length ≤ (TL.numL m).length
        · rw [decide_eq_true (show (z.length : Int) ≤ ((TL.numL m).length : Int) by omega)]
          refine iteF ?_
          refine ⟨_, rfl, z, rfl, fun D hD => lc_signs hD (fun _ => rfl) hl (f := isF) (fun c H Q q => ⟨_, rfl, c, _, rfl, rfl, by rw [in_figs]; exact q⟩) (fun H' s h => ?_)⟩
          refine ⟨D, _, rfl, SqL.of h, _, rfl, ?_⟩
          rw [List.all_map]
          cases hf : z.cps.toList.all (id ∘ isF) with
          | false =>
            have e : plainT z m = .non := by
              unfold plainT
              rw [if_neg]
              intro h
              have h2 : z.cps.toList.all isF = true := h.2.1
              have h3 : z.cps.toList.all isF = false := hf
              rw [h2] at h3
              cases h3
            rw [e] at q2
            exact iteT (iteT (q2 H' s))
          | true =>
            have hf2 : z.cps.toList.all isF = true := hf
            have hd := all_digits hf2
            refine iteF ?_
            have ez : (decide (V.str z = V.str zero)) = decide (z = zero) := by
              rw [decide_eq_decide]
              exact ⟨fun h => V.str.inj h, fun h => by rw [h]⟩
            refine ⟨_, rfl, rfl, _, rfl, ?_⟩
            show if (!decide (V.str z = V.str zero)) = true then _ else _
            have hit : PySem.intText? z = some ((NumText.digitsVal z.cps.toList : Nat) : Int) := intText_digits hd (by
              intro e
              have e2 : z.length = z.cps.toList.length := by simp [Str.length]
              rw [e] at e2
              simp at e2
              omega) (by omega)
            by_cases c3 : z = zero
            · rw [ez, decide_eq_true c3]
              refine iteF (iteF ?_)
              refine ⟨_, rfl, z, _, rfl, hit, by omega, ?_⟩
              refine ⟨_, rfl, _, rfl, _, _, rfl, rfl, _, rfl, ite2 (fun e => ?_) (fun e => ?_)⟩
              · have e2 : (m : Int) < ((NumText.digitsVal z.cps.toList : Nat) : Int) := of_decide_eq_true e
                have ep : plainT z m = .non := by
                  unfold plainT
                  rw [if_neg]
                  intro h
                  have := h.2.2.2
                  omega
                rw [ep] at q2
                exact q2 H' s
              · have e2 : ¬ (m : Int) < ((NumText.digitsVal z.cps.toList : Nat) : Int) := fun h => e (decide_eq_true h)
                have ep : plainT z m = .int ((NumText.digitsVal z.cps.toList : Nat) : Int) := by
                  unfold plainT
                  rw [if_pos ⟨c1, hf2, .inl c3, by omega⟩]
                rw [ep] at q2
                exact ⟨_, rfl, q2 H' s⟩
            · rw [ez, decide_eq_false c3]
              refine iteT ?_
              refine ⟨_, rfl, rfl, z, zero, rfl, rfl, _, rfl, ?_⟩
              rw [starts_zero]
              by_cases c4 : z.cps.toList.head? = some 48
              · rw [decide_eq_true c4]
                have e : plainT z m = .non := by
                  unfold plainT
                  rw [if_neg]
                  intro h
                  rcases h.2.2.1 with h | h
                  · exact c3 h
                  · exact h c4
                rw [e] at q2
                exact iteT (q2 H' s)
              · rw [decide_eq_false c4]
                refine iteF ?_
                refine ⟨_, rfl, z, _, rfl, hit, by omega, ?_⟩
                refine ⟨_, rfl, _, rfl, _, _, rfl, rfl, _, rfl, ite2 (fun e => ?_) (fun e => ?_)⟩
                · have e2 : (m : Int) < ((NumText.digitsVal z.cps.toList : Nat) : Int) := of_decide_eq_true e
                  have ep : plainT z m = .non := by
                    unfold plainT
                    rw [if_neg]
                    intro h
                    have := h.2.2.2
                    omega
                  rw [ep] at q2
                  exact q2 H' s
                · have e2 : ¬ (m : Int) < ((NumText.digitsVal z.cps.toList : Nat) : Int) := fun h => e (decide_eq_true h)
                  have ep : plainT z m = .int ((NumText.digitsVal z.cps.toList : Nat) : Int) := by
                    unfold plainT
                    rw [if_pos ⟨c1, hf2, .inr c4, by omega⟩]
                  rw [ep] at q2
                  exact ⟨_, rfl, q2 H' s⟩
        · rw [decide_eq_false (show ¬ (z.length : Int) ≤ ((TL.numL m).length : Int) by omega)]
          have e : plainT z m = .non := by
            unfold plainT
            rw [if_neg]
            intro h
            obtain ⟨_, hf, hz0, hle⟩ := h
            have hd := all_digits hf
            have hl2 : (TL.numL m).length < z.cps.toList.length := by
              have : z.length = z.cps.toList.length := by simp [Str.length]
              omega
            rcases hz0 with rfl | h0
            · have : zero.length = 1 := by decide
              have := TL.numL_ne m
              have : 0 < (TL.numL m).length := List.length_pos_iff.mpr this
              omega
            · have := long_great hd h0 hl2
              omega
          rw [e] at q2
          exact iteT (q2 H (Same.refl _))
      · have e : plainT z m = .non := by
          unfold plainT
          rw [if_neg (fun h => c1 h.1)]
        rw [e] at q2
        refine ⟨_, rfl, z, rfl, hl, 1, _, rfl, rfl, false, ?_, ?_⟩
        · exact congrArg V.bl (decide_eq_false (by omega))
        exact ⟨false, rfl, iteT (q2 H (Same.refl _))⟩

/-! ### the law's draws -/
def spCell (K : PySem.W.Frag) : Sp := fun vs H Q _ => ∃ (a : Addr) (ns : List Int) (k : Nat), vs = [.ref a, .int k] ∧ SqL K H a (ns.map V.int) ∧ ∀ c : Int, Q (.int c) H
theorem ok_cell {f : Addr} {fd : FuncData} (T : Tx mg) (F : Fun K "_law_cell_at" "_law_cell_at" s_law_cell_at f fd) : FnOk P w K mg base CX0 1 f fd ["_law_script", "_law_k"] (spCell K) := by
  refine F.ok sc_law_cell_at (fun vs H Q E h => ?_) (fun cdv A outer s H vs Q E hr h => ?_)
  · obtain ⟨a, ns, k, rfl, _⟩ := h
    rfl
  · obtain ⟨a, ns, k, rfl, ha, q⟩ := h
    refine ⟨_, (pss_cons (ps_if (pt_cmpR op_lt (pv 1) (pe_callB call_len_seq (by rfl) T.b_len PySem.boot_len (pa_cons (pv 0) pa_nil)) (nomark _)) (pss_one (ps_ret (pe_ix ix_list (pv 0) (pv 1) (fun _ _ => rfl)))) pss_nil)
      (pss_one (ps_ret (pe_op op_add (pe_op op_mul pe_int (pv 1)) pe_int)))), ?_⟩
    refine ⟨_, rfl, _, rfl, a, _, rfl, .inl ha, _, _, rfl, rfl, _, rfl, ite2 (fun e => ?_) (fun e => ?_)⟩
    · have e2 : (k : Int) < ((ns.map V.int).length : Int) := of_decide_eq_true e
      rw [List.length_map] at e2
      have e3 : k < ns.length := by omega
      refine ⟨_, rfl, _, rfl, a, _, k, .int ns[k], rfl, rfl, ha, atI_nat (j := k) ?_, q _⟩
      rw [List.getElem?_map, List.getElem?_eq_getElem e3]
      rfl
    · exact ⟨_, rfl, _, _, rfl, rfl, .inl ⟨by decide, by decide⟩, _, _, rfl, rfl, q _⟩
def spBox : Sp := fun vs H Q _ => ∃ c : Int, vs = [.int c] ∧ ∀ b H', H b = none → Box H' b → Same H H' → Q (.ref b) H'
theorem ok_box {f : Addr} {fd : FuncData} (T : Tx mg) (F : Fun K "_law_box" "_law_box" s_law_box f fd) : FnOk P w K mg base CX0 1 f fd ["_law_cell"] spBox := by
  refine F.ok sc_law_box (fun vs H Q E h => ?_) (fun cdv A outer s H vs Q E hr h => ?_)
  · obtain ⟨c, rfl, _⟩ := h
    rfl
  · obtain ⟨c, rfl, q⟩ := h
    refine ⟨_, (pss_cons (ps_if (pt_cmpR op_ge (pv 0) (pe_op op_pow pe_int pe_int) (nomark _)) (pss_one (ps_ret (pe_lst (pa_cons (pv 0) (pa_cons (pe_op op_mod (pv 0) pe_int) (pa_cons pe_int pa_nil)))))) pss_nil)
      (pss_one (ps_ret (pe_lst (pa_cons pe_int (pa_cons (pe_op op_mod (pv 0) pe_int) (pa_cons pe_int pa_nil))))))), ?_⟩
    refine ⟨_, rfl, _, _, rfl, rfl, ⟨by decide, by decide, by decide⟩, _, _, rfl, rfl, _, rfl, ite2 (fun e => ?_) (fun e => ?_)⟩
    · refine ⟨_, rfl, _, rfl, _, _, rfl, rfl, (by show (0 : Int) < 2147483629; decide), (by show 3 ≤ sizeLine; decide), fun p hp => ?_⟩
      exact q p _ hp ⟨_, _, _, upd_same⟩ (same_upd hp)
    · refine ⟨_, rfl, _, _, rfl, rfl, (by show (0 : Int) < 2147483629; decide), (by show 3 ≤ sizeLine; decide), fun p hp => ?_⟩
      exact q p _ hp ⟨_, _, _, upd_same⟩ (same_upd hp)
def spTake : Sp := fun vs H Q _ => ∃ (b : Addr) (m : Int), vs = [.ref b, .int m] ∧ Box H b ∧ 0 < m ∧ m ≤ 4294967296 ∧ ∀ r H', 0 ≤ r → r < m → Keep b H H' → Q (.int r) H'
theorem ok_take {f : Addr} {fd : FuncData} (T : Tx mg) (F : Fun K "_law_take" "_law_take" s_law_take f fd) : FnOk P w K mg base CX0 1 f fd ["_law_box_here", "_law_many"] spTake := by
  refine F.ok sc_law_take (fun vs H Q E h => ?_) (fun cdv A outer s H vs Q E hr h => ?_)
  · obtain ⟨b, m, rfl, _⟩ := h
    rfl
  · obtain ⟨b, m, rfl, ⟨d, x, c, hb⟩, h0, h1, q⟩ := h
    have hdW : CDivW d m := wide_div (b := 33) h0 (by have : m.natAbs ≤ 4294967296 := by omega
                                                      exact Nat.lt_of_le_of_lt this (by decide)) (by decide) (by decide)
    refine ⟨_, (pss_cons (ps_if (pt_cmpR op_gt (pe_ix ix_list (pv 0) pe_int (fun _ _ => rfl)) pe_int (nomark _)) (pss_cons (ps_set (i := 2) sc_law_take.nd rfl (.inl rfl) (pe_op op_mod (pe_ix ix_list (pv 0) pe_int (fun _ _ => rfl)) (pv 1)))
      (pss_cons (ps_asg (pe_op op_fdivW (pe_ix ix_list (pv 0) pe_int (fun _ _ => rfl)) (pv 1)) (pg_sub (pv 0) pe_int set_list))
      (pss_one (ps_ret (pv 2))))) pss_nil)
      (pss_cons (ps_asg (pe_op op_add (pe_ix ix_list (pv 0) pe_int (fun _ _ => rfl)) pe_int) (pg_sub (pv 0) pe_int set_list))
      (pss_cons (ps_set (i := 2) sc_law_take.nd rfl (.inl rfl) (pe_op op_mod (pe_op op_add (pe_op op_add (pe_op op_mul (pe_ix ix_list (pv 0) pe_int (fun _ _ => rfl)) pe_int) (pe_op op_mul pe_int (pe_ix ix_list (pv 0) pe_int (fun _ _ => rfl)))) pe_int) pe_int))
      (pss_cons (ps_set (i := 2) sc_law_take.nd rfl (.inl rfl) (pe_op op_mod (pe_op op_add (pe_op op_add (pe_op op_mul (pv 2) (pv 2)) (pe_op op_mul pe_int (pe_ix ix_list (pv 0) pe_int (fun _ _ => rfl)))) pe_int) pe_int))
      (pss_one (ps_ret (pe_op op_mod (pe_op op_mod (pe_op op_mul (pv 2) (pv 2)) pe_int) (pv 1)))))))), ?_⟩
    refine ⟨_, rfl, b, _, 0, .int d, rfl, rfl, SqL.of hb, atI_nat (j := 0) rfl, _, _, rfl, rfl, _, rfl, ite2 (fun e => ?_) (fun e => ?_)⟩
    · refine ⟨_, rfl, b, _, 0, .int d, rfl, rfl, SqL.of hb, atI_nat (j := 0) rfl, _, rfl, _, _, rfl, rfl, h0, ?_⟩
      refine ⟨_, rfl, b, _, 0, .int d, rfl, rfl, SqL.of hb, atI_nat (j := 0) rfl, _, rfl, _, _, rfl, rfl, hdW, ?_⟩
      refine ⟨_, rfl, b, _, 0, 0, rfl, rfl, hb, rfl, _, rfl, ?_⟩
      refine q _ _ (Int.emod_nonneg _ (by omega)) (Int.emod_lt_of_pos _ h0) ⟨⟨_, _, _, upd_same⟩, fun a o na e => ?_⟩
      rw [upd_ne na]
      exact e
    · refine ⟨_, rfl, b, _, 2, .int c, rfl, rfl, SqL.of hb, atI_nat (j := 2) rfl, _, _, rfl, rfl, ?_⟩
      refine ⟨_, rfl, b, _, 2, 2, rfl, rfl, hb, rfl, ?_⟩
      have hb2 : (upd H b (.lst [.int d, .int x, .int (c + 1)])) b = some (.lst [.int d, .int x, .int (c + 1)]) := upd_same
      refine ⟨_, rfl, b, _, 1, .int x, rfl, rfl, SqL.of hb2, atI_nat (j := 1) rfl, _, _, rfl, rfl, .inr ⟨by decide, by decide⟩, ?_⟩
      refine ⟨_, rfl, b, _, 2, .int (c + 1), rfl, rfl, SqL.of hb2, atI_nat (j := 2) rfl, _, _, rfl, rfl, .inl ⟨by decide, by decide⟩, _, _, rfl, rfl, _, _, rfl, rfl, _, _, rfl, rfl, (by show (0 : Int) < 2147483647; decide), ?_⟩
      generalize hu : (x * 48271 + 7919 * (c + 1) + 101) % 2147483647 = u
      have u0 : 0 ≤ u ∧ u < 2147483647 := by omega
      refine ⟨_, rfl, _, rfl, _, _, rfl, rfl, .inr ⟨by omega, by omega⟩, _, rfl, b, _, 2, .int (c + 1), rfl, rfl, SqL.of hb2, atI_nat (j := 2) rfl, _, _, rfl, rfl, .inl ⟨by decide, by decide⟩, _, _, rfl, rfl, _, _, rfl, rfl, _, _, rfl, rfl, (by show (0 : Int) < 2147483629; decide), ?_⟩
      generalize hv : (u * u + 104729 * (c + 1) + 7) % 2147483629 = v
      have v0 : 0 ≤ v ∧ v < 2147483629 := by
        rw [← hv]
        exact ⟨Int.emod_nonneg _ (by decide), Int.emod_lt_of_pos _ (by decide)⟩
      refine ⟨_, rfl, _, rfl, _, _, rfl, rfl, .inr ⟨by omega, by omega⟩, _, _, rfl, rfl, (by show (0 : Int) < 2147483587; decide), _, rfl, _, _, rfl, rfl, h0, ?_⟩
      refine q _ _ (Int.emod_nonneg _ (by omega)) (Int.emod_lt_of_pos _ h0) ⟨⟨_, _, _, upd_same⟩, fun a o na e => ?_⟩
      rw [upd_ne na]
      exact e
theorem pick {xs : List Int} {r : Int} (h0 : 0 ≤ r) (h1 : r < xs.length) : ∃ v, v ∈ xs ∧ atI (xs.map V.int) r = some (.int v) := by
  obtain ⟨n, rfl⟩ := Int.eq_ofNat_of_zero_le h0
  have hl : n < xs.length := by omega
  refine ⟨xs[n], List.getElem_mem hl, atI_nat (j := n) ?_⟩
  rw [List.getElem?_map, List.getElem?_eq_getElem hl]
  rfl
theorem pickA {α : Type} {xs : List α} {r : Int} (h0 : 0 ≤ r) (h1 : r < xs.length) : ∃ v, v ∈ xs ∧ atI xs r = some v := by
  obtain ⟨n, rfl⟩ := Int.eq_ofNat_of_zero_le h0
  have hl : n < xs.length := by omega
  exact ⟨xs[n], List.getElem_mem hl, atI_nat (j := n) (List.getElem?_eq_getElem hl)⟩
theorem len_small {n : Nat} (h : n ≤ 1000) : n ≤ sizeLine := Nat.le_of_lt (small1000 h)

/-- a list that stands whatever becomes of the objects at bs -/
def SqB (K : PySem.W.Frag) (H : Hp) (bs : List Addr) (a : Addr) (xs : List V) : Prop := SqL K H a xs ∧ (a ∈ bs → ∀ H', SqL K H' a xs)
theorem SqB.nil {a : Addr} {xs : List V} {H : Hp} (h : SqL K H a xs) : SqB K H [] a xs := ⟨h, fun e => by cases e⟩
theorem SqB.add {a b : Addr} {bs : List Addr} {xs : List V} {H : Hp} (h : SqB K H bs a xs) (n : H b = none) : SqB K H (b :: bs) a xs := ⟨h.1, fun e H' => by
  rcases List.mem_cons.mp e with e | e
  · subst e
    rcases h.1 with (h | ⟨o, h⟩) | h
    · rw [n] at h; cases h
    · rw [n] at h; cases h
    · exact .inr h
  · exact h.2 e H'⟩
theorem SqB.drop {a b : Addr} {bs : List Addr} {xs : List V} {H : Hp} (h : SqB K H (b :: bs) a xs) : SqB K H bs a xs := ⟨h.1, fun e => h.2 (List.mem_cons_of_mem _ e)⟩
theorem SqB.step {a : Addr} {bs : List Addr} {xs : List V} {H H' : Hp} (h : SqB K H bs a xs) (k : ∀ o, a ∉ bs → H a = some o → H' a = some o) : SqB K H' bs a xs := ⟨by
  by_cases e : a ∈ bs
  · exact h.2 e H'
  · rcases h.1 with (z | ⟨o, z⟩) | z
    · exact .inl (.inl (k _ e z))
    · exact .inl (.inr ⟨o, k _ e z⟩)
    · exact .inr z, h.2⟩
theorem SqB.keep {a b : Addr} {bs : List Addr} {xs : List V} {H H' : Hp} (h : SqB K H bs a xs) (hb : b ∈ bs) (k : Keep b H H') : SqB K H' bs a xs := h.step fun o n e => k.old a o (fun z => n (z ▸ hb)) e
theorem SqB.same {a : Addr} {bs : List Addr} {xs : List V} {H H' : Hp} (h : SqB K H bs a xs) (k : Same H H') : SqB K H' bs a xs := h.step fun o _ e => k a o e
theorem SqB.wr {a b : Addr} {bs : List Addr} {xs : List V} {H : Hp} {o : HO} (h : SqB K H bs a xs) (hb : b ∈ bs) : SqB K (upd H b o) bs a xs := h.step fun o n e => by
  have na : a ≠ b := fun z => n (by rw [z]; exact hb)
  rw [upd_ne na]
  exact e

/-! ### the law's texts -/
/-- a text of few signs, each of the page -/
def TxtOk (n : Nat) (z : Str) : Prop := z.length ≤ n ∧ PyData.strOk z = true
theorem TxtOk.add {n m : Nat} {y z : Str} (hy : TxtOk n y) (hz : TxtOk m z) : TxtOk (n + m) (y ++ z) := by
  have e : (y ++ z).cps.toList = y.cps.toList ++ z.cps.toList := TL.tl_append y z
  constructor
  · have e1 := TL.len_tl (y ++ z)
    have e2 := TL.len_tl y
    have e3 := TL.len_tl z
    rw [TL.tl_append, List.length_append] at e1
    have := hy.1
    have := hz.1
    omega
  · have h1 := hy.2
    have h2 := hz.2
    unfold PyData.strOk at h1 h2 ⊢
    rw [← Array.all_toList] at h1 h2 ⊢
    rw [e, List.all_append, h1, h2]
    rfl
theorem TxtOk.mono {n m : Nat} {z : Str} (h : TxtOk n z) (l : n ≤ m) : TxtOk m z := ⟨Nat.le_trans h.1 l, h.2⟩
theorem TxtOk.size {n : Nat} {z : Str} (h : TxtOk n z) (l : n ≤ 1000) : z.length ≤ sizeLine := Nat.le_trans h.1 (len_small l)
theorem TxtOk.one {c : Nat} (h : c < 1114112) : TxtOk 1 ⟨#[c]⟩ := ⟨Nat.le_refl _, by simp [PyData.strOk, h]⟩
def lo36 : Str := "abcdefghijklmnopqrstuvwxyz0123456789"
def more57 : Str := " !#$&'()*+,-./:;<=>?@ABCDEFGHIJKLMNOPQRSTUVWXYZ[]^_{|}~\n"
theorem lo36_ok : lo36.cps.toList.all (fun c => decide (c < 1114112)) = true := by decide +kernel
theorem more_ok : more57.cps.toList.all (fun c => decide (c < 1114112)) = true := by decide +kernel
theorem lo36_len : lo36.cps.toList.length = 36 := by decide +kernel
theorem more_len : more57.cps.toList.length = more57.length := by simp [Str.length]
theorem more_len2 : more57.length = 56 := by decide +kernel
def spText : Sp := fun vs H Q _ => ∃ b : Addr, vs = [.ref b] ∧ Box H b ∧ ∀ z H', TxtOk 13 z → Keep b H H' → Q (.str z) H'
theorem ok_text {f : Addr} {fd : FuncData} (T : Tx mg) (G__law_take : Ok P w K mg base CX0 "_law_take" 1 ["_law_box_here", "_law_many"] spTake) (F : Fun K "_law_text" "_law_text" s_law_text f fd) : FnOk P w K mg base CX0 2 f fd ["_law_box_here"] spText := by
  refine F.ok sc_law_text (fun vs H Q E h => ?_) (fun cdv A outer s H vs Q E hr h => ?_)
  · obtain ⟨b, rfl, _⟩ := h
    rfl
  · obtain ⟨b, rfl, hb, q⟩ := h
    refine ⟨_, (pss_cons (ps_set (i := 1) sc_law_text.nd rfl (.inl rfl) pe_str)
      (pss_cons (ps_set (i := 2) sc_law_text.nd rfl (.inl rfl) pe_str)
      (pss_cons (ps_set (i := 3) sc_law_text.nd rfl (.inl rfl) (pe_callO G__law_take (hr.mono (by decide)) (by rfl) pass0 (pa_cons (pv 0) (pa_cons pe_int pa_nil))))
      (pss_cons (ps_set (i := 4) sc_law_text.nd rfl (.inl rfl) pe_str)
      (pss_cons (ps_for PassesOwn.never rfl (pi_range1 (by rfl) T.b_range (pa_cons (pe_callO G__law_take (hr.mono (by decide)) (by rfl) pass0 (pa_cons (pv 0) (pa_cons pe_int pa_nil))) pa_nil)) (pg_name (i := 5) sc_law_text.nd rfl (.inl rfl)) (pss_one (ps_if (PW.pt (pw_and (pt_cmpR op_eq (pv 3) pe_int (nomark _)) (pw_and1 (pt_cmpR op_eq (pe_callO G__law_take (hr.mono (by decide)) (by rfl) pass0 (pa_cons (pv 0) (pa_cons pe_int pa_nil))) pe_int (nomark _))))) (pss_one (ps_set (i := 4) sc_law_text.nd rfl (.inl rfl) (pe_op op_add_str (pv 4) (pe_ix ix_str (pv 2) (pe_callO G__law_take (hr.mono (by decide)) (by rfl) pass0 (pa_cons (pv 0) (pa_cons (pe_callB call_len_str (by rfl) T.b_len PySem.boot_len (pa_cons (pv 2) pa_nil)) pa_nil))) (fun _ _ => rfl))))) (pss_one (ps_set (i := 4) sc_law_text.nd rfl (.inl rfl) (pe_op op_add_str (pv 4) (pe_ix ix_str (pv 1) (pe_callO G__law_take (hr.mono (by decide)) (by rfl) pass0 (pa_cons (pv 0) (pa_cons (pe_ix ix_list (pe_lst (pa_cons pe_int (pa_cons pe_int (pa_cons pe_int (pa_cons pe_int pa_nil))))) (pv 3) (fun _ _ => rfl)) pa_nil))) (fun _ _ => rfl))))))))
      (pss_one (ps_ret (pv 4)))))))), ?_⟩
    refine ⟨_, rfl, b, 4, rfl, hb, by decide, by decide, fun kd H1 kd0 kd1 k1 => ?_⟩
    refine ⟨_, rfl, b, 14, rfl, k1.box, by decide, by decide, fun n H2 n0 n1 k2 => ?_⟩
    refine ⟨n, rfl, by omega, by omega, for_range (lo := 0) (n := n.toNat) (fun i σ H' => (∃ z x, TxtOk i z ∧ σ = [some (.ref b), some (.str lo36), some (.str more57), some (.int kd), some (.str z), x]) ∧ Keep b H H') ⟨⟨"", none, ⟨by decide, by decide +kernel⟩, rfl⟩, k1.trans k2⟩ (fun i σ H' hi hW => ?_) (fun σ H' hW => ?_)⟩
    · obtain ⟨⟨z, x, hz, rfl⟩, kk⟩ := hW
      have hzs : z.length + 1 ≤ sizeLine := by
        have := hz.1
        exact len_small (by omega)
      refine ⟨_, rfl, rfl, _, rfl, ite2 (fun e => ?_) (fun e => ?_)⟩
      · refine ⟨_, rfl, b, 4, rfl, kk.box, by decide, by decide, fun r H3 r0 r1 k3 => ?_⟩
        refine ⟨rfl, _, rfl, ite2 (fun e2 => ?_) (fun e2 => ?_)⟩
        · refine ⟨_, rfl, _, rfl, _, rfl, _, rfl, more57, rfl, (by rw [more_len2]; exact len_small (by decide)), b, _, rfl, k3.box, ?_, ?_, fun r2 H4 r20 r21 k4 => ?_⟩
          · rw [more_len2]; decide
          · rw [more_len2]; decide
          obtain ⟨c, hc, ec⟩ := pickA (xs := more57.cps.toList) r20 (by rw [more_len]; exact r21)
          refine ⟨more57, r2, c, rfl, rfl, (by rw [more_len2]; exact len_small (by decide)), ec, z, ⟨#[c]⟩, rfl, rfl, hzs, ?_⟩
          exact ⟨⟨_, _, hz.add (.one (of_decide_eq_true (List.all_eq_true.mp more_ok c hc))), rfl⟩, (kk.trans k3).trans k4⟩
        · refine ⟨_, rfl, _, rfl, _, rfl, (by show 4 ≤ sizeLine; decide), fun p hp => ?_⟩
          obtain ⟨m, hm, em⟩ := pick (xs := [26, 36, 36, 36]) kd0 (by show kd < 4; exact kd1)
          refine ⟨_, rfl, p, _, kd, .int m, rfl, rfl, SqL.of upd_same, em, b, m, rfl, k3.box.new hp, ?_, ?_, fun r2 H4 r20 r21 k4 => ?_⟩
          · simp at hm; omega
          · simp at hm; omega
          have hm2 : m ≤ 36 := by simp at hm; omega
          obtain ⟨c, hc, ec⟩ := pickA (xs := lo36.cps.toList) r20 (by rw [lo36_len]; omega)
          refine ⟨lo36, r2, c, rfl, rfl, (by show 36 ≤ sizeLine; decide), ec, z, ⟨#[c]⟩, rfl, rfl, hzs, ?_⟩
          exact ⟨⟨_, _, hz.add (.one (of_decide_eq_true (List.all_eq_true.mp lo36_ok c hc))), rfl⟩, ((kk.trans k3).new hp).trans k4⟩
      · refine ⟨_, rfl, _, rfl, _, rfl, (by show 4 ≤ sizeLine; decide), fun p hp => ?_⟩
        obtain ⟨m, hm, em⟩ := pick (xs := [26, 36, 36, 36]) kd0 (by show kd < 4; exact kd1)
        refine ⟨_, rfl, p, _, kd, .int m, rfl, rfl, SqL.of upd_same, em, b, m, rfl, kk.box.new hp, ?_, ?_, fun r2 H4 r20 r21 k4 => ?_⟩
        · simp at hm; omega
        · simp at hm; omega
        have hm2 : m ≤ 36 := by simp at hm; omega
        obtain ⟨c, hc, ec⟩ := pickA (xs := lo36.cps.toList) r20 (by rw [lo36_len]; omega)
        refine ⟨lo36, r2, c, rfl, rfl, (by show 36 ≤ sizeLine; decide), ec, z, ⟨#[c]⟩, rfl, rfl, hzs, ?_⟩
        exact ⟨⟨_, _, hz.add (.one (of_decide_eq_true (List.all_eq_true.mp lo36_ok c hc))), rfl⟩, (kk.new hp).trans k4⟩
    · obtain ⟨⟨z, x, hz, rfl⟩, kk⟩ := hW
      exact ⟨_, rfl, q z H' (hz.mono (by omega)) kk⟩

/-! ### the law's own reckoning -/
theorem split_own : Txt.split ("all key days turns last ends now both either but let bar frame find known ask" : Str) (" " : Str) = ownW := by decide +kernel
theorem ok_lown {f : Addr} {fd : FuncData} (T : Tx mg) (F : Fun K "_law_own" "_law_own" s_law_own f fd) : FnOk P w K mg base CX0 1 f fd [] spOwn := by
  refine F.ok sc_law_own (fun vs H Q E h => ?_) (fun cdv A outer s H vs Q E hr h => ?_)
  · obtain ⟨rfl, _⟩ := h
    rfl
  · obtain ⟨rfl, q⟩ := h
    refine ⟨_, (pss_cons (ps_set (i := 0) sc_law_own.nd rfl (.inl rfl) pe_str)
      (pss_one (ps_ret (pe_bm PySem.F.plainAttrs_str PySem.F.slot_str_split PySem.F.type_str_split mt_split (pv 0) (pa_cons pe_str pa_nil))))), ?_⟩
    refine ⟨_, rfl, rfl, _, _, rfl, rfl, by decide +kernel, by decide +kernel, fun p hp => ?_⟩
    rw [split_own]
    exact q p _ (same_upd hp) hp upd_same
theorem lt1 (c n : Nat) : ([c] : List Nat) < [n] ↔ c < n := by
  rw [List.cons_lt_cons_iff]
  simp
theorem le_a (n c : Nat) : (!decide (([c] : List Nat) < [n])) = decide (n ≤ c) := by
  rw [← decide_not, decide_eq_decide, lt1]
  omega
theorem a_le (n c : Nat) : (!decide (([n] : List Nat) < [c])) = decide (c ≤ n) := by
  rw [← decide_not, decide_eq_decide, lt1]
  omega
theorem and_isL (c : Nat) : (if decide (97 ≤ c) = true then decide (c ≤ 122) else false) = isL c := by
  unfold isL
  by_cases h : 97 ≤ c <;> simp [h]
theorem shaped_signs {cs : List Nat} (h : ∀ c ∈ cs, c < 1114112) : SeqAt.shaped (.list (cs.map fun c => PyData.str ⟨#[c]⟩)) = true := by
  have h1 : PyData.canLayAll0 (cs.map fun c => PyData.str ⟨#[c]⟩) = true ∧ PyData.depthAll (cs.map fun c => PyData.str ⟨#[c]⟩) ≤ 1 := by
    induction cs with
    | nil => exact ⟨rfl, by simp [PyData.depthAll]⟩
    | cons c r ih =>
      obtain ⟨i1, i2⟩ := ih fun x hx => h x (List.mem_cons_of_mem _ hx)
      have hc := h c List.mem_cons_self
      constructor
      · simp only [List.map_cons, PyData.canLayAll0, PyData.canLay0, i1, Bool.and_true]
        simp [PyData.strOk, hc]
      · simp only [List.map_cons, PyData.depthAll, PyData.depth]
        omega
  have h3 : PyData.canLay0 (.list (cs.map fun c => PyData.str ⟨#[c]⟩)) = true := by
    simp only [PyData.canLay0]
    exact h1.1
  have h4 : (PyData.list (cs.map fun c => PyData.str ⟨#[c]⟩)).depth ≤ 64 := by
    simp only [PyData.depth]
    omega
  unfold SeqAt.shaped
  rw [h3, decide_eq_true h4]
  rfl
theorem dp_signs {H : Hp} : ∀ cs : List Nat, DpAll K H (cs.map fun c => V.str ⟨#[c]⟩) (cs.map fun c => PyData.str ⟨#[c]⟩)
  | [] => .nil
  | c :: r => .cons (.str _) (dp_signs r)
theorem eqv_none (cs : List PyData) : PyData.eqv (.list cs) (.list []) = cs.isEmpty := by
  cases cs with
  | nil => simp [PyData.eqv, PyData.eqvAll]
  | cons c r => simp [PyData.eqv, PyData.eqvAll]
theorem shaped_nil : SeqAt.shaped (.list []) = true := by decide
theorem filt_empty {cs : List Nat} {f : Nat → Bool} : ((cs.filter fun c => !f c).map fun c => PyData.str ⟨#[c]⟩).isEmpty = cs.all f := by
  rw [List.isEmpty_map]
  induction cs with
  | nil => rfl
  | cons c r ih =>
    rw [List.all_cons, ← ih]
    cases h : f c <;> simp [h]
theorem sign_ok {n : Nat} {z : Str} (h : TxtOk n z) : ∀ c ∈ z.cps.toList, c < 1114112 := fun c hc => by
  have h2 := h.2
  unfold PyData.strOk at h2
  rw [← Array.all_toList] at h2
  exact of_decide_eq_true (List.all_eq_true.mp h2 c hc)
def spDue (f : Str → Bool) : Sp := fun vs H Q _ => ∃ z : Str, vs = [.str z] ∧ TxtOk 1000 z ∧ ∀ H', Same H H' → Q (.bl (f z)) H'
theorem ok_namedue {f : Addr} {fd : FuncData} (T : Tx mg) (G__law_own : Ok P w K mg base CX0 "_law_own" 1 [] spOwn) (F : Fun K "_law_name_due" "_law_name_due" s_law_name_due f fd) : FnOk P w K mg base CX0 2 f fd ["_law_text_here"] (spDue nameB) := by
  refine F.ok sc_law_name_due (fun vs H Q E h => ?_) (fun cdv A outer s H vs Q E hr h => ?_)
  · obtain ⟨z, rfl, _⟩ := h
    rfl
  · obtain ⟨z, rfl, hz, q2⟩ := h
    have hl := hz.size (by decide)
    refine ⟨_, (pss_cons (ps_if (PW.pt (pw_or (pt_not (pt_chain op_lt op_lt pe_int (pe_callB call_len_str (by rfl) T.b_len PySem.boot_len (pa_cons (pv 0) pa_nil)) pe_int)) (pw_or1 (pt_cmpR op_in_seq (pv 0) (pe_callO0 G__law_own (hr.mono (by decide)) (by rfl) pass0) (by rfl))))) (pss_one (ps_ret pe_bl)) pss_nil)
      (pss_one (ps_ret (pe_cmpR (op_eqD hr.units) (pe_lc (own := [("_law_sign", 1)]) (g := gName 1) rfl sc_law_name_due.nd (pi_str (pv 0)) (blkOk_by (own := [("_law_sign", 1)]) (N := ["_law_text_here", "_law_sign"]) (sc := defScope s_law_name_due) (by decide +kernel)) (fun _ _ _ _ _ => pg_name (i := 1) sc_law_name_due.nd rfl (Or.inl rfl)) (fun _ _ _ _ _ => pts_one (pt_not (pt_chain op_le_str op_le_str pe_str (pv 1) pe_str))) (fun _ _ _ _ _ => (pv 1))) (pe_lst pa_nil) (nomark _))))), ?_⟩
    by_cases c1 : 1 ≤ z.length
    · by_cases c2 : z.length ≤ 8
      · refine ⟨_, rfl, z, rfl, hl, 0, _, rfl, rfl, true, ?_, ?_⟩
        · exact congrArg V.bl (decide_eq_true (by omega))
        refine ⟨_, _, rfl, rfl, true, ?_, iteF ?_⟩
        · exact congrArg V.bl (decide_eq_true (by omega))
        refine ⟨_, rfl, rfl, fun p H1 s1 hp ho => ?_⟩
        refine ⟨p, _, rfl, .inl (SqL.of ho), rfl, own_flat, _, rfl, ?_⟩
        have e0 : decide (1 ≤ z.length ∧ z.length ≤ 8) = true := decide_eq_true ⟨c1, c2⟩
        cases hi : inV (.str z) ownV with
        | true =>
          have e : nameB z = false := by
            unfold nameB
            rw [hi, e0]
            rfl
          rw [e] at q2
          exact iteT (q2 H1 s1)
        | false =>
          refine iteF ?_
          refine ⟨_, rfl, z, rfl, fun D hD => lc_kept hD (fun _ => rfl) hl (f := fun c => !isL c) (fun c H Q q => ?_) (fun c H Q q => ⟨_, rfl, q⟩) (fun H' s h => ?_)⟩
          · refine ⟨_, rfl, _, _, rfl, rfl, decide (97 ≤ c), congrArg V.bl (le_a 97 c), ?_⟩
            have q' : Q (!isL c) H := q
            rw [← and_isL] at q'
            refine ite2 (fun h1 => ?_) (fun h1 => ?_)
            · rw [if_pos h1] at q'
              exact ⟨_, _, rfl, rfl, decide (c ≤ 122), congrArg V.bl (a_le 122 c), q'⟩
            · rw [if_neg h1] at q'
              exact ⟨false, rfl, q'⟩
          · refine ⟨Nat.zero_le _, fun p2 hp2 => ?_⟩
            have sg : ∀ c ∈ z.cps.toList.filter (fun c => !isL c), c < 1114112 := fun c hc => sign_ok hz c (List.mem_filter.mp hc).1
            refine ⟨_, _, .lst (SqL.of (same_upd hp2 _ _ h)) (dp_signs _), .lst (SqL.of upd_same) .nil, shaped_signs sg, shaped_nil, ?_⟩
            rw [eqv_none, filt_empty]
            have e : nameB z = z.cps.toList.all isL := by
              unfold nameB
              rw [hi, e0]
              rfl
            rw [e] at q2
            exact q2 _ ((s1.trans s).trans (same_upd hp2))
      · have e : nameB z = false := by
          unfold nameB
          rw [decide_eq_false (fun h => c2 h.2)]
          rfl
        rw [e] at q2
        refine ⟨_, rfl, z, rfl, hl, 0, _, rfl, rfl, true, ?_, ?_⟩
        · exact congrArg V.bl (decide_eq_true (by omega))
        refine ⟨_, _, rfl, rfl, false, ?_, iteT (iteT (q2 H (Same.refl _)))⟩
        exact congrArg V.bl (decide_eq_false (by omega))
    · have e : nameB z = false := by
        unfold nameB
        rw [decide_eq_false (fun h => c1 h.1)]
        rfl
      rw [e] at q2
      refine ⟨_, rfl, z, rfl, hl, 0, _, rfl, rfl, false, ?_, ?_⟩
      · exact congrArg V.bl (decide_eq_false (by omega))
      exact ⟨false, rfl, iteT (iteT (q2 H (Same.refl _)))⟩
theorem ok_valuedue {f : Addr} {fd : FuncData} (T : Tx mg) (F : Fun K "_law_value_due" "_law_value_due" s_law_value_due f fd) : FnOk P w K mg base CX0 1 f fd ["_law_text_here"] (spDue valueB) := by
  refine F.ok sc_law_value_due (fun vs H Q E h => ?_) (fun cdv A outer s H vs Q E hr h => ?_)
  · obtain ⟨z, rfl, _⟩ := h
    rfl
  · obtain ⟨z, rfl, hz, q2⟩ := h
    have hl := hz.size (by decide)
    refine ⟨_, (pss_cons (ps_if (pt_not (pt_chain op_lt op_lt pe_int (pe_callB call_len_str (by rfl) T.b_len PySem.boot_len (pa_cons (pv 0) pa_nil)) pe_int)) (pss_one (ps_ret pe_bl)) pss_nil)
      (pss_one (ps_ret (pe_cmpR (op_eqD hr.units) (pe_lc (own := [("_law_sign", 1)]) (g := gName 1) rfl sc_law_value_due.nd (pi_str (pv 0)) (blkOk_by (own := [("_law_sign", 1)]) (N := ["_law_text_here", "_law_sign"]) (sc := defScope s_law_value_due) (by decide +kernel)) (fun _ _ _ _ _ => pg_name (i := 1) sc_law_value_due.nd rfl (Or.inl rfl)) (fun _ _ _ _ _ => pts_one (PW.pt (pw_and (pt_not (pt_chain op_le_str op_le_str pe_str (pv 1) pe_str)) (pw_and1 (pt_not (pt_chain op_le_str op_le_str pe_str (pv 1) pe_str)))))) (fun _ _ _ _ _ => (pv 1))) (pe_lst pa_nil) (nomark _))))), ?_⟩
    by_cases c1 : 1 ≤ z.length
    · by_cases c2 : z.length ≤ 12
      · refine ⟨_, rfl, z, rfl, hl, 0, _, rfl, rfl, true, ?_, ?_⟩
        · exact congrArg V.bl (decide_eq_true (by omega))
        refine ⟨_, _, rfl, rfl, true, ?_, iteF ?_⟩
        · exact congrArg V.bl (decide_eq_true (by omega))
        have e0 : decide (1 ≤ z.length ∧ z.length ≤ 12) = true := decide_eq_true ⟨c1, c2⟩
        refine ⟨_, rfl, z, rfl, fun D hD => lc_kept hD (fun _ => rfl) hl (f := fun c => !(isL c || isF c)) (fun c H Q q => ?_) (fun c H Q q => ⟨_, rfl, q⟩) (fun H' s h => ?_)⟩
        · have q' : Q (!(isL c || isF c)) H := q
          have e9 : (if decide (48 ≤ c) = true then decide (c ≤ 57) else false) = isF c := by
            unfold isF
            by_cases h : 48 ≤ c <;> simp [h]
          refine ⟨_, rfl, _, _, rfl, rfl, decide (97 ≤ c), congrArg V.bl (le_a 97 c), ?_⟩
          refine ite2 (fun h1 => ?_) (fun h1 => ?_)
          · refine ⟨_, _, rfl, rfl, decide (c ≤ 122), congrArg V.bl (a_le 122 c), ?_⟩
            by_cases h2 : c ≤ 122
            · have eL : isL c = true := decide_eq_true ⟨of_decide_eq_true h1, h2⟩
              rw [eL, Bool.true_or] at q'
              rw [decide_eq_true h2]
              exact iteF q'
            · have eL : isL c = false := decide_eq_false fun h => h2 h.2
              rw [eL, Bool.false_or, ← e9] at q'
              rw [decide_eq_false h2]
              refine iteT ?_
              refine ⟨_, rfl, _, _, rfl, rfl, decide (48 ≤ c), congrArg V.bl (le_a 48 c), ite2 (fun h3 => ?_) (fun h3 => ?_)⟩
              · rw [if_pos h3] at q'
                exact ⟨_, _, rfl, rfl, decide (c ≤ 57), congrArg V.bl (a_le 57 c), q'⟩
              · rw [if_neg h3] at q'
                exact ⟨false, rfl, q'⟩
          · have eL : isL c = false := decide_eq_false fun h => h1 (decide_eq_true h.1)
            rw [eL, Bool.false_or, ← e9] at q'
            refine ⟨false, rfl, iteT ?_⟩
            refine ⟨_, rfl, _, _, rfl, rfl, decide (48 ≤ c), congrArg V.bl (le_a 48 c), ite2 (fun h3 => ?_) (fun h3 => ?_)⟩
            · rw [if_pos h3] at q'
              exact ⟨_, _, rfl, rfl, decide (c ≤ 57), congrArg V.bl (a_le 57 c), q'⟩
            · rw [if_neg h3] at q'
              exact ⟨false, rfl, q'⟩
        · refine ⟨Nat.zero_le _, fun p2 hp2 => ?_⟩
          have sg : ∀ c ∈ z.cps.toList.filter (fun c => !(isL c || isF c)), c < 1114112 := fun c hc => sign_ok hz c (List.mem_filter.mp hc).1
          refine ⟨_, _, .lst (SqL.of (same_upd hp2 _ _ h)) (dp_signs _), .lst (SqL.of upd_same) .nil, shaped_signs sg, shaped_nil, ?_⟩
          rw [eqv_none, filt_empty (f := fun c => isL c || isF c)]
          have e : valueB z = z.cps.toList.all fun c => isL c || isF c := by
            unfold valueB
            rw [e0]
            rfl
          rw [e] at q2
          exact q2 _ (s.trans (same_upd hp2))
      · have e : valueB z = false := by
          unfold valueB
          rw [decide_eq_false (fun h => c2 h.2)]
          rfl
        rw [e] at q2
        refine ⟨_, rfl, z, rfl, hl, 0, _, rfl, rfl, true, ?_, ?_⟩
        · exact congrArg V.bl (decide_eq_true (by omega))
        refine ⟨_, _, rfl, rfl, false, ?_, iteT (q2 H (Same.refl _))⟩
        exact congrArg V.bl (decide_eq_false (by omega))
    · have e : valueB z = false := by
        unfold valueB
        rw [decide_eq_false (fun h => c1 h.1)]
        rfl
      rw [e] at q2
      refine ⟨_, rfl, z, rfl, hl, 0, _, rfl, rfl, false, ?_, ?_⟩
      · exact congrArg V.bl (decide_eq_false (by omega))
      exact ⟨false, rfl, iteT (q2 H (Same.refl _))⟩

theorem idx_fig : ∀ d : Nat, d < 10 → Builtin.Str.occurrences ("0123456789" : Str) ⟨#[48 + d]⟩ 0 ("0123456789" : Str).length 1 = [d] := by decide +kernel
def spNumDue : Sp := fun vs H Q _ => ∃ (z : Str) (m : Int), vs = [.str z, .int m] ∧ TxtOk 1000 z ∧ ∀ H', Same H H' → Q (plainT z m) H'
theorem ok_numdue {f : Addr} {fd : FuncData} (T : Tx mg) (F : Fun K "_law_number_due" "_law_number_due" s_law_number_due f fd) : FnOk P w K mg base CX0 1 f fd ["_law_text_here", "_law_most"] spNumDue := by
  refine F.ok sc_law_number_due (fun vs H Q E h => ?_) (fun cdv A outer s H vs Q E hr h => ?_)
  · obtain ⟨z, m, rfl, _⟩ := h
    rfl
  · obtain ⟨z, m, rfl, hz, q2⟩ := h
    have hl := hz.size (by decide)
    refine ⟨_, (pss_cons (ps_if (PW.pt (pw_or (pt_cmpR op_eq (pv 0) pe_str (nomark _)) (pw_or1 (pt_cmpR (op_neD hr.units) (pe_lc (own := [("_law_sign", 3)]) (g := gName 3) rfl sc_law_number_due.nd (pi_str (pv 0)) (blkOk_by (own := [("_law_sign", 3)]) (N := ["_law_text_here", "_law_most", "_law_number", "_law_sign"]) (sc := defScope s_law_number_due) (by decide +kernel)) (fun _ _ _ _ _ => pg_name (i := 3) sc_law_number_due.nd rfl (Or.inl rfl)) (fun _ _ _ _ _ => pts_one (pt_not (pt_chain op_le_str op_le_str pe_str (pv 3) pe_str))) (fun _ _ _ _ _ => (pv 3))) (pe_lst pa_nil) (nomark _))))) (pss_one (ps_ret pe_non)) pss_nil)
      (pss_cons (ps_if (PW.pt (pw_and (pt_cmpR op_eq (pe_ix ix_str (pv 0) pe_int (fun _ _ => rfl)) pe_str (nomark _)) (pw_and1 (pt_cmpR op_ne (pv 0) pe_str (nomark _))))) (pss_one (ps_ret pe_non)) pss_nil)
      (pss_cons (ps_set (i := 2) sc_law_number_due.nd rfl (.inl rfl) pe_int)
      (pss_cons (ps_for PassesOwn.never rfl (pi_str (pv 0)) (pg_name (i := 3) sc_law_number_due.nd rfl (.inl rfl)) (pss_one (ps_set (i := 2) sc_law_number_due.nd rfl (.inl rfl) (pe_op op_add (pe_op op_mul pe_int (pv 2)) (pe_bm PySem.F.plainAttrs_str PySem.F.slot_str_index PySem.F.type_str_index mt_sindex pe_str (pa_cons (pv 3) pa_nil))))))
      (pss_cons (ps_if (pt_cmpR op_gt (pv 2) (pv 1) (nomark _)) (pss_one (ps_ret pe_non)) pss_nil)
      (pss_one (ps_ret (pv 2)))))))), ?_⟩
    have hzl : z.length = z.cps.toList.length := by simp [Str.length]
    refine ⟨_, rfl, rfl, _, rfl, ?_⟩
    by_cases c1 : z = ("" : Str)
    · rw [decide_eq_true (show V.str z = V.str ("" : Str) by rw [c1])]
      have e : plainT z m = .non := by
        unfold plainT
        rw [if_neg]
        intro h
        have h1 := h.1
        rw [c1] at h1
        exact absurd h1 (by decide)
      rw [e] at q2
      exact iteT (iteT (q2 H (Same.refl _)))
    · rw [decide_eq_false (show ¬ V.str z = V.str ("" : Str) from fun h => c1 (V.str.inj h))]
      have c1' : 1 ≤ z.length := by
        cases h : z.cps.toList with
        | nil => exact absurd (PyProof.Rows.ext_toList (a := z) (b := ("" : Str)) (by rw [h]; rfl)) c1
        | cons c r =>
          rw [hzl, h]
          simp
      refine iteF ?_
      refine ⟨_, rfl, z, rfl, fun D hD => lc_kept hD (fun _ => rfl) hl (f := fun c => !isF c) (fun c H Q q => ?_) (fun c H Q q => ⟨_, rfl, q⟩) (fun H1 s1 h => ?_)⟩
      · have q' : Q (!isF c) H := q
        have e9 : (if decide (48 ≤ c) = true then decide (c ≤ 57) else false) = isF c := by
          unfold isF
          by_cases h : 48 ≤ c <;> simp [h]
        rw [← e9] at q'
        refine ⟨_, rfl, _, _, rfl, rfl, decide (48 ≤ c), congrArg V.bl (le_a 48 c), ite2 (fun h3 => ?_) (fun h3 => ?_)⟩
        · rw [if_pos h3] at q'
          exact ⟨_, _, rfl, rfl, decide (c ≤ 57), congrArg V.bl (a_le 57 c), q'⟩
        · rw [if_neg h3] at q'
          exact ⟨false, rfl, q'⟩
      · refine ⟨Nat.zero_le _, fun p2 hp2 => ?_⟩
        have sg : ∀ c ∈ z.cps.toList.filter (fun c => !isF c), c < 1114112 := fun c hc => sign_ok hz c (List.mem_filter.mp hc).1
        have s2 := Same.new (o := .lst []) s1 hp2
        refine ⟨_, _, .lst (SqL.of (same_upd hp2 _ _ h)) (dp_signs _), .lst (SqL.of upd_same) .nil, shaped_signs sg, shaped_nil, _, rfl, ?_⟩
        rw [eqv_none, filt_empty]
        cases hf : z.cps.toList.all isF with
        | false =>
          have e : plainT z m = .non := by
            unfold plainT
            rw [if_neg]
            intro h
            have := h.2.1
            rw [hf] at this
            cases this
          rw [e] at q2
          exact iteT (q2 _ s2)
        | true =>
          refine iteF ?_
          have hd := all_digits hf
          obtain ⟨c0, r0, e0⟩ : ∃ c r, z.cps.toList = c :: r := by
            cases h : z.cps.toList with
            | nil =>
              rw [hzl, h] at c1'
              exact absurd c1' (by decide)
            | cons c r => exact ⟨c, r, rfl⟩
          have a0 : atI z.cps.toList 0 = some c0 := by
            rw [e0]
            exact atI_nat (j := 0) rfl
          have eS : decide (V.str ⟨#[c0]⟩ = V.str ("0" : Str)) = decide (c0 = 48) := by
            rw [decide_eq_decide]
            constructor
            · intro h
              have h2 := congrArg Str.cps (V.str.inj h)
              have h3 : (#[c0] : Array Nat) = #[48] := h2
              simpa using h3
            · intro h
              rw [h]
              rfl
          have ez : decide (V.str z = V.str ("0" : Str)) = decide (z = zero) := by
            rw [decide_eq_decide]
            exact ⟨fun h => V.str.inj h, fun h => by rw [h]; rfl⟩
          refine ⟨_, rfl, z, 0, c0, rfl, rfl, hl, a0, rfl, _, rfl, ?_⟩
          rw [eS]
          by_cases c2 : c0 = 48 ∧ z ≠ zero
          · rw [decide_eq_true c2.1]
            refine iteT ?_
            refine ⟨_, rfl, rfl, _, rfl, ?_⟩
            rw [ez, decide_eq_false c2.2]
            have e : plainT z m = .non := by
              unfold plainT
              rw [if_neg]
              intro h
              rcases h.2.2.1 with h | h
              · exact c2.2 h
              · exact h (by rw [e0, c2.1]; rfl)
            rw [e] at q2
            exact iteT (q2 _ s2)
          · have hz0 : z = zero ∨ z.cps.toList.head? ≠ some 48 := by
              by_cases h1 : z = zero
              · exact .inl h1
              · refine .inr fun h => c2 ⟨?_, h1⟩
                rw [e0] at h
                exact Option.some.inj h
            by_cases c3 : c0 = 48
            · rw [decide_eq_true c3]
              refine iteT ?_
              have c4 : z = zero := Classical.not_not.mp fun h => c2 ⟨c3, h⟩
              refine ⟨_, rfl, rfl, _, rfl, ?_⟩
              rw [ez, decide_eq_true c4]
              refine iteF ?_
              refine ⟨_, rfl, z, rfl, for_it walk_str (fun i σ H' => (∃ x, σ = [some (.str z), some (.int m), some (.int ((NumText.digitsVal (z.cps.toList.take i) : Nat) : Int)), x]) ∧ H' = upd H1 p2 (.lst [])) ⟨⟨_, rfl⟩, rfl⟩ (fun _ _ _ _ _ => trivial) (fun i x σ Ha Hb hi hP hY => ?_) (fun σ Ha hP => ?_)⟩
              · obtain ⟨rfl, c, hc, rfl⟩ := hY
                obtain ⟨⟨y, rfl⟩, rfl⟩ := hP
                have hc' : z.cps.toList[i]? = some c := by simpa using hc
                have hcd := hd c (List.mem_of_getElem? hc')
                have ix := idx_fig (c - 48) (by omega)
                rw [show 48 + (c - 48) = c by omega] at ix
                refine ⟨_, rfl, _, _, rfl, rfl, .inl ⟨by decide, by decide⟩, rfl, _, rfl, _, _, c - 48, _, rfl, rfl, ix, _, _, rfl, rfl, ?_⟩
                refine ⟨⟨some (.str ⟨#[c]⟩), ?_⟩, rfl⟩
                have ed : NumText.digitsVal (z.cps.toList.take (i + 1)) = NumText.digitsVal (z.cps.toList.take i) * 10 + (c - 48) := by
                  rw [List.take_add_one, hc']
                  exact NumText.digitsVal_snoc _ _
                have ei : (10 : Int) * ((NumText.digitsVal (z.cps.toList.take i) : Nat) : Int) + ((c - 48 : Nat) : Int) = ((NumText.digitsVal (z.cps.toList.take i) * 10 + (c - 48) : Nat) : Int) := by omega
                rw [ed, ← ei]
                rfl
              · obtain ⟨⟨y, rfl⟩, rfl⟩ := hP
                have et : z.cps.toList.take z.cps.size = z.cps.toList := List.take_of_length_le (by simp)
                rw [et]
                refine ⟨_, rfl, _, rfl, _, _, rfl, rfl, _, rfl, ite2 (fun e => ?_) (fun e => ?_)⟩
                · have e2 : m < ((NumText.digitsVal z.cps.toList : Nat) : Int) := of_decide_eq_true e
                  have ep : plainT z m = .non := by
                    unfold plainT
                    rw [if_neg]
                    intro h
                    have := h.2.2.2
                    omega
                  rw [ep] at q2
                  exact q2 _ s2
                · have e2 : ¬ m < ((NumText.digitsVal z.cps.toList : Nat) : Int) := fun h => e (decide_eq_true h)
                  have ep : plainT z m = .int ((NumText.digitsVal z.cps.toList : Nat) : Int) := by
                    unfold plainT
                    rw [if_pos ⟨c1', hf, hz0, by omega⟩]
                  rw [ep] at q2
                  exact ⟨_, rfl, q2 _ s2⟩
            · rw [decide_eq_false c3]
              refine iteF ?_
              refine ⟨_, rfl, z, rfl, for_it walk_str (fun i σ H' => (∃ x, σ = [some (.str z), some (.int m), some (.int ((NumText.digitsVal (z.cps.toList.take i) : Nat) : Int)), x]) ∧ H' = upd H1 p2 (.lst [])) ⟨⟨_, rfl⟩, rfl⟩ (fun _ _ _ _ _ => trivial) (fun i x σ Ha Hb hi hP hY => ?_) (fun σ Ha hP => ?_)⟩
              · obtain ⟨rfl, c, hc, rfl⟩ := hY
                obtain ⟨⟨y, rfl⟩, rfl⟩ := hP
                have hc' : z.cps.toList[i]? = some c := by simpa using hc
                have hcd := hd c (List.mem_of_getElem? hc')
                have ix := idx_fig (c - 48) (by omega)
                rw [show 48 + (c - 48) = c by omega] at ix
                refine ⟨_, rfl, _, _, rfl, rfl, .inl ⟨by decide, by decide⟩, rfl, _, rfl, _, _, c - 48, _, rfl, rfl, ix, _, _, rfl, rfl, ?_⟩
                refine ⟨⟨some (.str ⟨#[c]⟩), ?_⟩, rfl⟩
                have ed : NumText.digitsVal (z.cps.toList.take (i + 1)) = NumText.digitsVal (z.cps.toList.take i) * 10 + (c - 48) := by
                  rw [List.take_add_one, hc']
                  exact NumText.digitsVal_snoc _ _
                have ei : (10 : Int) * ((NumText.digitsVal (z.cps.toList.take i) : Nat) : Int) + ((c - 48 : Nat) : Int) = ((NumText.digitsVal (z.cps.toList.take i) * 10 + (c - 48) : Nat) : Int) := by omega
                rw [ed, ← ei]
                rfl
              · obtain ⟨⟨y, rfl⟩, rfl⟩ := hP
                have et : z.cps.toList.take z.cps.size = z.cps.toList := List.take_of_length_le (by simp)
                rw [et]
                refine ⟨_, rfl, _, rfl, _, _, rfl, rfl, _, rfl, ite2 (fun e => ?_) (fun e => ?_)⟩
                · have e2 : m < ((NumText.digitsVal z.cps.toList : Nat) : Int) := of_decide_eq_true e
                  have ep : plainT z m = .non := by
                    unfold plainT
                    rw [if_neg]
                    intro h
                    have := h.2.2.2
                    omega
                  rw [ep] at q2
                  exact q2 _ s2
                · have e2 : ¬ m < ((NumText.digitsVal z.cps.toList : Nat) : Int) := fun h => e (decide_eq_true h)
                  have ep : plainT z m = .int ((NumText.digitsVal z.cps.toList : Nat) : Int) := by
                    unfold plainT
                    rw [if_pos ⟨c1', hf, hz0, by omega⟩]
                  rw [ep] at q2
                  exact ⟨_, rfl, q2 _ s2⟩
def spSame : Sp := fun vs H Q _ => ∃ a b : Bool, vs = [.bl a, .bl b] ∧ Q (.bl (decide (a = b))) H
theorem ok_same {f : Addr} {fd : FuncData} (T : Tx mg) (F : Fun K "_law_same" "_law_same" s_law_same f fd) : FnOk P w K mg base CX0 1 f fd ["_law_found", "_law_due"] spSame := by
  refine F.ok sc_law_same (fun vs H Q E h => ?_) (fun cdv A outer s H vs Q E hr h => ?_)
  · obtain ⟨a, b, rfl, _⟩ := h
    rfl
  · obtain ⟨a, b, rfl, q⟩ := h
    refine ⟨_, (pss_one (ps_ret (pe_and (pe_callB call_isi (by rfl) T.b_isinstance PyProof.Rows.boot_isinstance (pa_cons (pv 0) (pa_cons (pe_bltn (v := .ty "bool") (by rfl) T.b_bool PyProof.Rows.boot_bool rfl) pa_nil))) (pe_one (pe_cmpR op_eq (pv 0) (pv 1) (nomark _)))))), ?_⟩
    refine ⟨_, rfl, _, _, _, _, true, rfl, .ty _, .base (.bl _), kit_ty (by decide +kernel), true, rfl, iteT ?_⟩
    refine ⟨_, rfl, _, rfl, rfl, ?_⟩
    have e : decide (V.bl a = V.bl b) = decide (a = b) := by
      rw [decide_eq_decide]
      exact ⟨fun h => V.bl.inj h, fun h => by rw [h]⟩
    rw [e]
    exact q
/-- repr of None and of ints -/
def reprV : V → Str | .int i => PySem.Str.ofString (toString i) | _ => "None"
def rReprS : List V → Hp → VK → Prop := fun xs H Q => ∃ v, xs = [v] ∧ (v = .non ∨ ∃ i : Int, v = .int i ∧ i.natAbs.log2 < 1920) ∧ Q (.str (reprV v)) H
theorem call_reprS {X : Cx} : CallR X (.builtin "repr") rReprS := by
  intro pins s σ H xs us Q I r h
  obtain ⟨v, rfl, hv, q⟩ := h
  obtain ⟨u, rfl, r1⟩ := vals1 r
  rcases hv with rfl | ⟨i, rfl, hz⟩
  · cases r1
    exact PySem.P.repr_of_none ⟨.str _, H, I.tok _, ⟨_, rfl⟩, q⟩
  · obtain ⟨t, rfl⟩ := r1
    exact PySem.P.repr_of_int hz ⟨.str _, H, I.tok _, ⟨_, rfl⟩, q⟩
theorem plainT_ok {z : Str} {m : Nat} (hm : m < 10 ^ 100) : plainT z m = .non ∨ ∃ i : Int, plainT z m = .int i ∧ i.natAbs.log2 < 1920 := by
  unfold plainT
  split
  · rename_i h
    refine .inr ⟨_, rfl, ?_⟩
    rw [Int.natAbs_natCast]
    refine log_small (Nat.lt_of_lt_of_le (Nat.lt_of_le_of_lt ?_ hm) (by decide +kernel))
    have := h.2.2.2
    omega
  · exact .inl rfl
def spRight : Sp := fun vs H Q _ => ∃ (z : Str) (m : Nat), vs = [.str z, .int m] ∧ TxtOk 1000 z ∧ m < 10 ^ 100 ∧ ∀ H', Same H H' → Q (.bl true) H'
theorem ok_right {f : Addr} {fd : FuncData} (T : Tx mg) (G_is_name : Ok P w K mg base CX0 "is_name" 1 ["thing"] (spTell nameX)) (G_is_value : Ok P w K mg base CX0 "is_value" 1 ["thing"] (spTell valueX)) (G_is_whole : Ok P w K mg base CX0 "is_whole" 1 ["thing"] spWhole) (G_is_within : Ok P w K mg base CX0 "is_within" 2 ["thing", "low", "high"] spWithin)
    (G_plain_number : Ok P w K mg base CX0 "plain_number" 1 ["thing", "most"] spPlain) (G__law_name_due : Ok P w K mg base CX0 "_law_name_due" 2 ["_law_text_here"] (spDue nameB)) (G__law_value_due : Ok P w K mg base CX0 "_law_value_due" 1 ["_law_text_here"] (spDue valueB))
    (G__law_number_due : Ok P w K mg base CX0 "_law_number_due" 1 ["_law_text_here", "_law_most"] spNumDue) (G__law_same : Ok P w K mg base CX0 "_law_same" 1 ["_law_found", "_law_due"] spSame)
    (F : Fun K "_law_texts_right" "_law_texts_right" s_law_texts_right f fd) : FnOk P w K mg base CX0 3 f fd ["_law_text_here", "_law_most"] spRight := by
  refine F.ok sc_law_texts_right (fun vs H Q E h => ?_) (fun cdv A outer s H vs Q E hr h => ?_)
  · obtain ⟨z, m, rfl, _⟩ := h
    rfl
  · obtain ⟨z, m, rfl, hz, hm, q⟩ := h
    have hl : ∀ y, V.str z = V.str y → y.length ≤ sizeLine := fun y e => by
      rw [← V.str.inj e]
      exact hz.size (by decide)
    have hp := plainT_ok (z := z) hm
    refine ⟨_, (pss_cons (ps_if (PW.pt (pw_or (pt_not (pt_val (pe_callO G__law_same (hr.mono (by decide)) (by rfl) pass0 (pa_cons (pe_callO G_is_name (hr.mono (by decide)) (by rfl) pass0 (pa_cons (pv 0) pa_nil)) (pa_cons (pe_callO G__law_name_due (hr.mono (by decide)) (by rfl) pass0 (pa_cons (pv 0) pa_nil)) pa_nil))))) (pw_or1 (pt_not (pt_val (pe_callO G__law_same (hr.mono (by decide)) (by rfl) pass0 (pa_cons (pe_callO G_is_value (hr.mono (by decide)) (by rfl) pass0 (pa_cons (pv 0) pa_nil)) (pa_cons (pe_callO G__law_value_due (hr.mono (by decide)) (by rfl) pass0 (pa_cons (pv 0) pa_nil)) pa_nil)))))))) (pss_one (ps_ret pe_bl)) pss_nil)
      (pss_cons (ps_if (PW.pt (pw_or (pt_not (pt_val (pe_callO G__law_same (hr.mono (by decide)) (by rfl) pass0 (pa_cons (pe_callO G_is_whole (hr.mono (by decide)) (by rfl) pass0 (pa_cons (pv 0) pa_nil)) (pa_cons pe_bl pa_nil))))) (pw_or1 (pt_not (pt_val (pe_callO G__law_same (hr.mono (by decide)) (by rfl) pass0 (pa_cons (pe_callO G_is_within (hr.mono (by decide)) (by rfl) pass0 (pa_cons (pv 0) (pa_cons pe_int (pa_cons pe_int pa_nil)))) (pa_cons pe_bl pa_nil)))))))) (pss_one (ps_ret pe_bl)) pss_nil)
      (pss_cons (ps_if (pt_cmpR op_ne (pe_callB call_reprS (by rfl) T.b_repr PyProof.Rows.boot_repr (pa_cons (pe_callO G_plain_number (hr.mono (by decide)) (by rfl) pass0 (pa_cons (pv 0) (pa_cons (pv 1) pa_nil))) pa_nil)) (pe_callB call_reprS (by rfl) T.b_repr PyProof.Rows.boot_repr (pa_cons (pe_callO G__law_number_due (hr.mono (by decide)) (by rfl) pass0 (pa_cons (pv 0) (pa_cons (pv 1) pa_nil))) pa_nil)) (nomark _)) (pss_one (ps_ret pe_bl)) pss_nil)
      (pss_one (ps_ret (pe_cmpR op_eq (pe_callB call_reprS (by rfl) T.b_repr PyProof.Rows.boot_repr (pa_cons (pe_callO G_plain_number (hr.mono (by decide)) (by rfl) pass0 (pa_cons (pv 0) (pa_cons (pv 1) pa_nil))) pa_nil)) (pe_callB call_reprS (by rfl) T.b_repr PyProof.Rows.boot_repr (pa_cons (pe_callO G__law_number_due (hr.mono (by decide)) (by rfl) pass0 (pa_cons (pv 0) (pa_cons (pv 1) pa_nil))) pa_nil)) (nomark _))))))), ?_⟩
    refine ⟨_, rfl, .str z, .str, rfl, .str z, hl, fun H1 s1 => ?_⟩
    refine ⟨_, rfl, z, rfl, hz, fun H2 s2 => ?_⟩
    refine ⟨_, _, rfl, true, congrArg V.bl (decide_eq_true rfl), iteF ?_⟩
    refine ⟨_, rfl, .str z, .str, rfl, .str z, hl, fun H3 s3 => ?_⟩
    refine ⟨_, rfl, z, rfl, hz, fun H4 s4 => ?_⟩
    refine ⟨_, _, rfl, true, congrArg V.bl (decide_eq_true rfl), iteF ?_⟩
    refine ⟨_, rfl, .str z, .str, rfl, .str z, ?_⟩
    refine ⟨_, _, rfl, true, congrArg V.bl (decide_eq_true rfl), iteF ?_⟩
    refine ⟨_, rfl, .str z, .str, 0, 5, rfl, .str z, ?_⟩
    refine ⟨_, _, rfl, true, congrArg V.bl (decide_eq_true rfl), iteF ?_⟩
    refine ⟨_, rfl, _, rfl, .str z, .str, m, rfl, .str z, hl, hm, fun H5 s5 => ?_⟩
    refine ⟨plainT z m, rfl, hp, ?_⟩
    refine ⟨_, rfl, _, rfl, z, m, rfl, hz, fun H6 s6 => ?_⟩
    refine ⟨plainT z m, rfl, hp, rfl, _, rfl, iteNS rfl ?_⟩
    refine ⟨_, rfl, _, rfl, .str z, .str, m, rfl, .str z, hl, hm, fun H7 s7 => ?_⟩
    refine ⟨plainT z m, rfl, hp, ?_⟩
    refine ⟨_, rfl, _, rfl, z, m, rfl, hz, fun H8 s8 => ?_⟩
    refine ⟨plainT z m, rfl, hp, rfl, ?_⟩
    have e : decide (V.str (reprV (plainT z m)) = V.str (reprV (plainT z m))) = true := decide_eq_true rfl
    have q2 := q H8 (((((((s1.trans s2).trans s3).trans s4).trans s5).trans s6).trans s7).trans s8)
    rw [← e] at q2
    exact q2

/-! ### text * int -/
theorem op_rep_str {X : Cx} : OpR X (binaryOp .Mult) (fun x y H Q => ∃ (z : Str) (n : Int), x = .str z ∧ y = .int n ∧ MulOk z n ∧ Q (.str (Txt.mul z n)) H) := by
  intro pins s σ H x y v u Q I rx ry h
  obtain ⟨z, n, rfl, rfl, hok, q⟩ := h
  obtain ⟨t, rfl⟩ := rx
  obtain ⟨t', rfl⟩ := ry
  exact SB.mul hok fun t2 k => ⟨.str _, H, I.tok _, ⟨_, rfl⟩, q⟩
theorem rep_size {a : Array Nat} : ∀ (n : Nat) (acc : Array Nat), ((List.replicate n a).foldl (· ++ ·) acc).size = acc.size + n * a.size
  | 0, acc => by simp
  | n + 1, acc => by
    rw [List.replicate_succ, List.foldl_cons, rep_size n, Array.size_append, Nat.succ_mul]
    omega
theorem mul_len {z : Str} {n : Int} (hz : z.length = 1) (hn : 2 ≤ n) : (Txt.mul z n).length = n.toNat := by
  unfold Txt.mul
  rw [if_neg (by omega), if_neg (by simp [hz]; omega)]
  show ((List.replicate n.toNat z.cps).foldl (· ++ ·) #[]).size = n.toNat
  rw [rep_size]
  have : z.cps.size = 1 := hz
  rw [this]
  simp
theorem mul_ok {z : Str} {n : Int} (hz : z.length = 1) (h0 : 2 ≤ n) (h1 : n ≤ 10000) : MulOk z n := by
  refine ⟨?_, fun _ _ => ?_, fun _ _ => ?_⟩
  · rw [decide_eq_false (by omega), decide_eq_false (by omega)]
    rfl
  · rw [hz]
    intro h
    have hd : (1 : Int) ≤ (2 ^ 63 - 1) / n := (Int.le_ediv_iff_mul_le (by omega)).mpr (by omega)
    have h' : ((1 : Nat) : Int) > (2 ^ 63 - 1) / n := h
    omega
  · rw [hz, Nat.one_mul]
    have hs : n.toNat ≤ sizeLine := Nat.le_trans (show n.toNat ≤ 10000 by omega) (by decide)
    unfold Builtin.Str.tooLong
    first
      | exact decide_eq_false (by omega)
      | simp
        omega
theorem plain_long {z : Str} (h : 3 < z.length) : plainT z 400 = .non := by
  unfold plainT
  rw [if_neg]
  intro hh
  obtain ⟨_, hf, hz0, hle⟩ := hh
  have hzl : z.length = z.cps.toList.length := by simp [Str.length]
  rcases hz0 with rfl | h0
  · exact absurd h (by decide)
  · have hl : (TL.numL 400).length < z.cps.toList.length := by
      have : (TL.numL 400).length = 3 := by decide +kernel
      omega
    have := long_great (all_digits hf) h0 hl
    omega
theorem name_long {z : Str} (h : 12 < z.length) : nameB z = false := by
  unfold nameB
  rw [decide_eq_false (fun c => by omega)]
  rfl
theorem value_long {z : Str} (h : 12 < z.length) : valueB z = false := by
  unfold valueB
  rw [decide_eq_false (fun c => by omega)]
  rfl
/-- a <= b <= c of three names -/
theorem pe_chainV {X : Cx} {i j k : Nat} {ea eb ec : Expr} {pos : Pos} (ha : PE X ea (tVar i)) (hb : PE X eb (tVar j)) (hc : PE X ec (tVar k)) (hm : lastMarks [CmpOp.LtE, CmpOp.LtE] [eb, ec] = false := by with_unfolding_all rfl) :
    PE X (.Compare ea [.LtE, .LtE] [eb, ec] pos) (fun σ H Q => ∃ a b c : Int, σ[i]? = some (some (.int a)) ∧ σ[j]? = some (some (.int b)) ∧ σ[k]? = some (some (.int c)) ∧ Q (.bl (decide (a ≤ b ∧ b ≤ c))) H) := by
  constructor
  intro pins s σ H Q I h
  obtain ⟨a, b, c, e1, e2, e3, q⟩ := h
  refine (pe_chain op_le op_le ha hb hc hm).run pins s σ H Q I ⟨_, e1, _, e2, a, b, rfl, rfl, _, rfl, ite2 (fun e => ?_) (fun e => ?_)⟩
  · refine ⟨_, e3, b, c, rfl, rfl, ?_⟩
    have e4 : decide (a ≤ b ∧ b ≤ c) = decide (b ≤ c) := by
      rw [decide_eq_decide]
      exact ⟨fun z => z.2, fun z => ⟨of_decide_eq_true e, z⟩⟩
    rw [e4] at q
    exact q
  · have e4 : decide (a ≤ b ∧ b ≤ c) = false := decide_eq_false fun z => e (decide_eq_true z.1)
    rw [e4] at q
    exact q
/-! ### numbers and things -/
def spNums : Sp := fun vs H Q _ => ∃ (b : Addr) (z : Str), vs = [.ref b, .str z] ∧ Box H b ∧ TxtOk 1000 z ∧ ∀ H', Keep b H H' → Q (.bl true) H'
/-- a thing that is no number and no text -/
theorem odd_thing {H : Hp} {x : V} {k : Kd} (t : Thing H x k) (h1 : k ≠ .int) (h2 : k ≠ .str) : isI x = false ∧ (∀ lo hi, wi x lo hi = false) ∧ nameX x = false ∧ valueX x = false ∧ (∀ m, plainX x m = .non) ∧ ∀ z, x = .str z → z.length ≤ sizeLine := by
  cases t with
  | int i => exact absurd rfl h1
  | str z => exact absurd rfl h2
  | non => exact ⟨rfl, fun _ _ => rfl, rfl, rfl, fun _ => rfl, fun z e => nomatch e⟩
  | bl b => exact ⟨rfl, fun _ _ => rfl, rfl, rfl, fun _ => rfl, fun z e => nomatch e⟩
  | lst e => exact ⟨rfl, fun _ _ => rfl, rfl, rfl, fun _ => rfl, fun z e => nomatch e⟩
  | tup e => exact ⟨rfl, fun _ _ => rfl, rfl, rfl, fun _ => rfl, fun z e => nomatch e⟩
  | dic e => exact ⟨rfl, fun _ _ => rfl, rfl, rfl, fun _ => rfl, fun z e => nomatch e⟩
theorem same_tt {a b : Bool} (h : a = b) : V.bl (decide (a = b)) = V.bl true := congrArg V.bl (decide_eq_true h)
theorem ok_nums {f : Addr} {fd : FuncData} (T : Tx mg) (G_is_name : Ok P w K mg base CX0 "is_name" 1 ["thing"] (spTell nameX)) (G_is_value : Ok P w K mg base CX0 "is_value" 1 ["thing"] (spTell valueX)) (G_is_whole : Ok P w K mg base CX0 "is_whole" 1 ["thing"] spWhole) (G_is_within : Ok P w K mg base CX0 "is_within" 2 ["thing", "low", "high"] spWithin)
    (G_plain_number : Ok P w K mg base CX0 "plain_number" 1 ["thing", "most"] spPlain) (G__law_take : Ok P w K mg base CX0 "_law_take" 1 ["_law_box_here", "_law_many"] spTake) (G__law_same : Ok P w K mg base CX0 "_law_same" 1 ["_law_found", "_law_due"] spSame)
    (F : Fun K "_law_numbers_right" "_law_numbers_right" s_law_numbers_right f fd) : FnOk P w K mg base CX0 3 f fd ["_law_box_here", "_law_text_here"] spNums := by
  refine F.ok sc_law_numbers_right (fun vs H Q E h => ?_) (fun cdv A outer s H vs Q E hr h => ?_)
  · obtain ⟨b, z, rfl, _⟩ := h
    rfl
  · obtain ⟨b, z, rfl, hb, hz, q⟩ := h
    refine ⟨_, (pss_cons (ps_set (i := 2) sc_law_numbers_right.nd rfl (.inl rfl) (pe_op op_sub (pe_callO G__law_take (hr.mono (by decide)) (by rfl) pass0 (pa_cons (pv 0) (pa_cons pe_int pa_nil))) pe_int))
      (pss_cons (ps_set (i := 3) sc_law_numbers_right.nd rfl (.inl rfl) (pe_op op_sub (pe_op op_add (pv 2) (pe_callO G__law_take (hr.mono (by decide)) (by rfl) pass0 (pa_cons (pv 0) (pa_cons pe_int pa_nil)))) pe_int))
      (pss_cons (ps_set (i := 4) sc_law_numbers_right.nd rfl (.inl rfl) (pe_op op_sub (pe_op op_add (pv 2) (pe_callO G__law_take (hr.mono (by decide)) (by rfl) pass0 (pa_cons (pv 0) (pa_cons pe_int pa_nil)))) pe_int))
      (pss_cons (ps_if (PW.pt (pw_or (pt_not (pt_val (pe_callO G__law_same (hr.mono (by decide)) (by rfl) pass0 (pa_cons (pe_callO G_is_whole (hr.mono (by decide)) (by rfl) pass0 (pa_cons (pv 4) pa_nil)) (pa_cons pe_bl pa_nil))))) (pw_or1 (pt_not (pt_val (pe_callO G__law_same (hr.mono (by decide)) (by rfl) pass0 (pa_cons (pe_callO G_is_within (hr.mono (by decide)) (by rfl) pass0 (pa_cons (pv 4) (pa_cons (pv 2) (pa_cons (pv 3) pa_nil)))) (pa_cons (pe_chainV (pv 2) (pv 4) (pv 3)) pa_nil)))))))) (pss_one (ps_ret pe_bl)) pss_nil)
      (pss_cons (ps_if (pt_not (pt_val (pe_callO G__law_same (hr.mono (by decide)) (by rfl) pass0 (pa_cons (pe_callO G_is_within (hr.mono (by decide)) (by rfl) pass0 (pa_cons (pv 4) (pa_cons (pv 2) (pa_cons (pv 3) pa_nil)))) (pa_cons (pe_chainV (pv 2) (pv 4) (pv 3)) pa_nil))))) (pss_one (ps_ret pe_bl)) pss_nil)
      (pss_cons (ps_for PassesOwn.never rfl (pi_list (pe_lst (pa_cons pe_non (pa_cons pe_bl (pa_cons pe_bl (pa_cons (pe_lst (pa_cons (pv 4) pa_nil)) (pa_cons (pe_tup (pa_cons (pv 4) pa_nil)) (pa_cons (pe_disp (pps_cons (pv 1) (pv 4) pps_nil) (by rfl) (by rfl) (fun z => by cases z) (by decide)) (pa_cons (pe_lst (pa_cons (pv 1) pa_nil)) pa_nil))))))))) (pg_name (i := 5) sc_law_numbers_right.nd rfl (.inl rfl)) (pss_cons (ps_if (PW.pt (pw_or (pt_not (pt_val (pe_callO G__law_same (hr.mono (by decide)) (by rfl) pass0 (pa_cons (pe_callO G_is_whole (hr.mono (by decide)) (by rfl) pass0 (pa_cons (pv 5) pa_nil)) (pa_cons pe_bl pa_nil))))) (pw_or1 (pt_not (pt_val (pe_callO G__law_same (hr.mono (by decide)) (by rfl) pass0 (pa_cons (pe_callO G_is_within (hr.mono (by decide)) (by rfl) pass0 (pa_cons (pv 5) (pa_cons (pe_un un_neg pe_int) (pa_cons pe_int pa_nil)))) (pa_cons pe_bl pa_nil)))))))) (pss_one (ps_ret pe_bl)) pss_nil)
      (pss_cons (ps_if (PW.pt (pw_or (pt_not (pt_val (pe_callO G__law_same (hr.mono (by decide)) (by rfl) pass0 (pa_cons (pe_callO G_is_name (hr.mono (by decide)) (by rfl) pass0 (pa_cons (pv 5) pa_nil)) (pa_cons pe_bl pa_nil))))) (pw_or1 (pt_not (pt_val (pe_callO G__law_same (hr.mono (by decide)) (by rfl) pass0 (pa_cons (pe_callO G_is_value (hr.mono (by decide)) (by rfl) pass0 (pa_cons (pv 5) pa_nil)) (pa_cons pe_bl pa_nil)))))))) (pss_one (ps_ret pe_bl)) pss_nil)
      (pss_one (ps_if (pt_cmpR op_notN (pe_callO G_plain_number (hr.mono (by decide)) (by rfl) pass0 (pa_cons (pv 5) (pa_cons pe_int pa_nil))) pe_non (nomark _)) (pss_one (ps_ret pe_bl)) pss_nil)))))
      (pss_one (ps_ret (pe_and (pe_callO G__law_same (hr.mono (by decide)) (by rfl) pass0 (pa_cons (pe_callO G_is_name (hr.mono (by decide)) (by rfl) pass0 (pa_cons (pv 4) pa_nil)) (pa_cons pe_bl pa_nil))) (pe_and (pe_callO G__law_same (hr.mono (by decide)) (by rfl) pass0 (pa_cons (pe_callO G_is_value (hr.mono (by decide)) (by rfl) pass0 (pa_cons (pv 4) pa_nil)) (pa_cons pe_bl pa_nil))) (pe_one (pe_cmpR op_isN (pe_callO G_plain_number (hr.mono (by decide)) (by rfl) pass0 (pa_cons (pv 4) (pa_cons pe_int pa_nil))) pe_non (nomark _))))))))))))), ?_⟩
    refine ⟨_, rfl, b, 500, rfl, hb, by decide, by decide, fun r1 H1 r10 r11 k1 => ⟨_, _, rfl, rfl, ?_⟩⟩
    refine ⟨_, rfl, _, rfl, b, 7, rfl, k1.box, by decide, by decide, fun r2 H2 r20 r21 k2 => ⟨_, _, rfl, rfl, _, _, rfl, rfl, ?_⟩⟩
    refine ⟨_, rfl, _, rfl, b, 9, rfl, k2.box, by decide, by decide, fun r3 H3 r30 r31 k3 => ⟨_, _, rfl, rfl, _, _, rfl, rfl, ?_⟩⟩
    have kk := (k1.trans k2).trans k3
    refine ⟨_, rfl, _, .int, rfl, .int _, _, _, rfl, true, same_tt rfl, iteF ?_⟩
    refine ⟨_, rfl, _, rfl, _, rfl, _, .int, _, _, rfl, .int _, _, _, _, rfl, rfl, rfl, ?_⟩
    refine ⟨_, _, rfl, true, same_tt rfl, iteF ?_⟩
    refine ⟨_, rfl, _, rfl, _, rfl, _, .int, _, _, rfl, .int _, _, _, _, rfl, rfl, rfl, ?_⟩
    refine ⟨_, _, rfl, true, same_tt rfl, iteF ?_⟩
    -- the things
    refine ⟨_, rfl, (by show 1 ≤ sizeLine; decide), fun p1 n1 => ?_⟩
    refine ⟨_, rfl, (by show 1 ≤ sizeLine; decide), fun p2 n2 => ?_⟩
    refine fun p3 n3 => ⟨_, rfl, _, rfl, upd_same, [(Sum.inr z, .int (r1 - 250 + r3 - 3))], rfl, (by show 1 ≤ 15; decide), ?_⟩
    refine ⟨_, rfl, (by show 1 ≤ sizeLine; decide), fun p4 n4 => ?_⟩
    refine ⟨(by show 7 ≤ sizeLine; decide), fun p5 n5 => ?_⟩
    have t5 := same_upd n5 (o := .lst [.non, .bl true, .bl false, .ref p1, .ref p2, .ref p3, .ref p4])
    have t4 := same_upd n4 (o := .lst [.str z])
    have t3 := Same.wr (same_upd n3 (o := .dK [])) n3 (o := .dK (mergeK [] [(Sum.inr z, .int (r1 - 250 + r3 - 3))]))
    have t2 := same_upd n2 (o := .tup [.int (r1 - 250 + r3 - 3)])
    have g1 := t5 _ _ (t4 _ _ (t3 _ _ (t2 _ _ (upd_same (H := H3) (a := p1) (o := .lst [.int (r1 - 250 + r3 - 3)])))))
    have g2 := t5 _ _ (t4 _ _ (t3 _ _ (upd_same (H := upd H3 p1 (.lst [.int (r1 - 250 + r3 - 3)])) (a := p2) (o := .tup [.int (r1 - 250 + r3 - 3)]))))
    have g3 := t5 _ _ (t4 _ _ (upd_same (H := upd (upd (upd H3 p1 (.lst [.int (r1 - 250 + r3 - 3)])) p2 (.tup [.int (r1 - 250 + r3 - 3)])) p3 (.dK [])) (a := p3) (o := .dK (mergeK [] [(Sum.inr z, .int (r1 - 250 + r3 - 3))]))))
    have g4 := t5 _ _ (upd_same (H := upd (upd (upd (upd H3 p1 (.lst [.int (r1 - 250 + r3 - 3)])) p2 (.tup [.int (r1 - 250 + r3 - 3)])) p3 (.dK [])) p3 (.dK (mergeK [] [(Sum.inr z, .int (r1 - 250 + r3 - 3))]))) (a := p4) (o := .lst [.str z]))
    have kk5 : Keep b H (upd (upd (upd (upd (upd (upd H3 p1 (.lst [.int (r1 - 250 + r3 - 3)])) p2 (.tup [.int (r1 - 250 + r3 - 3)])) p3 (.dK [])) p3 (.dK (mergeK [] [(Sum.inr z, .int (r1 - 250 + r3 - 3))]))) p4 (.lst [.str z])) p5 (.lst [.non, .bl true, .bl false, .ref p1, .ref p2, .ref p3, .ref p4])) :=
      kk.trans (Same.keep kk.box ((((same_upd n1).trans t2).trans t3).trans (t4.trans t5)))
    have g5 : (upd (upd (upd (upd (upd (upd H3 p1 (.lst [.int (r1 - 250 + r3 - 3)])) p2 (.tup [.int (r1 - 250 + r3 - 3)])) p3 (.dK [])) p3 (.dK (mergeK [] [(Sum.inr z, .int (r1 - 250 + r3 - 3))]))) p4 (.lst [.str z])) p5 (.lst [.non, .bl true, .bl false, .ref p1, .ref p2, .ref p3, .ref p4])) p5 = some (.lst [.non, .bl true, .bl false, .ref p1, .ref p2, .ref p3, .ref p4]) := upd_same
    refine ⟨p5, rfl, ⟨_, SqL.of g5⟩, for_list (K := K) (a := p5) (xs := [.non, .bl true, .bl false, .ref p1, .ref p2, .ref p3, .ref p4]) (fun i σ H' => (∃ x5, σ = [some (.ref b), some (.str z), some (.int (r1 - 250)), some (.int (r1 - 250 + r2 - 1)), some (.int (r1 - 250 + r3 - 3)), x5]) ∧
        Same (upd (upd (upd (upd (upd (upd H3 p1 (.lst [.int (r1 - 250 + r3 - 3)])) p2 (.tup [.int (r1 - 250 + r3 - 3)])) p3 (.dK [])) p3 (.dK (mergeK [] [(Sum.inr z, .int (r1 - 250 + r3 - 3))]))) p4 (.lst [.str z])) p5 (.lst [.non, .bl true, .bl false, .ref p1, .ref p2, .ref p3, .ref p4])) H') ⟨⟨_, rfl⟩, Same.refl _⟩ (fun i σ H' _ hW => SqL.of (hW.2 _ _ g5)) (fun i y σ H' hi hW => ?_) (fun σ H' hW => ?_)⟩
    · obtain ⟨⟨x5, rfl⟩, sH⟩ := hW
      obtain ⟨k, t, ne1, ne2⟩ : ∃ k, Thing H' y k ∧ k ≠ .int ∧ k ≠ .str := by
        have m := List.mem_of_getElem? hi
        simp only [List.mem_cons, List.not_mem_nil, or_false] at m
        rcases m with rfl | rfl | rfl | rfl | rfl | rfl | rfl
        · exact ⟨_, .non, by decide, by decide⟩
        · exact ⟨_, .bl _, by decide, by decide⟩
        · exact ⟨_, .bl _, by decide, by decide⟩
        · exact ⟨_, .lst (sH _ _ g1), by decide, by decide⟩
        · exact ⟨_, .tup (sH _ _ g2), by decide, by decide⟩
        · exact ⟨_, .dic (sH _ _ g3), by decide, by decide⟩
        · exact ⟨_, .lst (sH _ _ g4), by decide, by decide⟩
      obtain ⟨o1, o2, o3, o4, o5, o6⟩ := odd_thing t ne1 ne2
      refine ⟨_, rfl, y, k, rfl, t, _, _, rfl, true, same_tt o1, iteF ?_⟩
      refine ⟨_, rfl, 9, rfl, y, k, _, _, rfl, t, _, _, rfl, true, same_tt (o2 _ _), iteF ?_⟩
      refine ⟨_, rfl, y, k, rfl, t, o6, fun Ha sa => ⟨_, _, rfl, true, same_tt o3, iteF ?_⟩⟩
      refine ⟨_, rfl, y, k, rfl, t.same sa, o6, fun Hb sb => ⟨_, _, rfl, true, same_tt o4, iteF ?_⟩⟩
      refine ⟨_, rfl, y, k, 5, rfl, (t.same sa).same sb, o6, by decide, fun Hc sc => ?_⟩
      rw [o5]
      refine ⟨rfl, _, rfl, iteNS rfl ?_⟩
      exact ⟨⟨_, rfl⟩, ((sH.trans sa).trans sb).trans sc⟩
    · obtain ⟨⟨x5, rfl⟩, sH⟩ := hW
      refine ⟨_, rfl, _, .int, rfl, .int _, (fun z e => nomatch e), fun Ha sa => ⟨_, _, rfl, true, same_tt rfl, iteT ?_⟩⟩
      refine ⟨_, rfl, _, .int, rfl, .int _, (fun z e => nomatch e), fun Hb sb => ⟨_, _, rfl, true, same_tt rfl, iteT ?_⟩⟩
      refine ⟨_, rfl, _, .int, 9, rfl, .int _, (fun z e => nomatch e), by decide, fun Hc sc => ⟨rfl, ?_⟩⟩
      exact q Hc (kk5.trans (Same.keep kk5.box (((sH.trans sa).trans sb).trans sc)))
/-! ### the law -/
theorem TxtOk.num {n k : Nat} (hk : 0 < k) (h : n < 10 ^ k) : TxtOk k (PySem.Str.ofString (toString ((n : Nat) : Int))) := by
  constructor
  · rw [str_size]
    exact TL.numL_len hk h
  · unfold PyData.strOk
    rw [← Array.all_toList]
    have e : (PySem.Str.ofString (toString ((n : Nat) : Int))).cps.toList = TL.numL n := TL.tl_num n
    rw [e]
    refine List.all_eq_true.mpr fun c hc => decide_eq_true ?_
    have := TL.numL_digits n c hc
    omega
theorem own_ok : ownW.all (fun z => decide (z.length ≤ 8) && (PyData.strOk z && (decide ((Txt.upper z).length ≤ 100) && PyData.strOk (Txt.upper z)))) = true := by decide +kernel
theorem own_txt {z : Str} (h : z ∈ ownW) : TxtOk 8 z ∧ TxtOk 100 (Txt.upper z) := by
  have := List.all_eq_true.mp own_ok z h
  simp only [Bool.and_eq_true, decide_eq_true_eq] at this
  exact ⟨⟨this.1, this.2.1⟩, ⟨this.2.2.1, this.2.2.2⟩⟩
theorem dp_strs {H : Hp} : ∀ zs : List Str, DpAll K H (zs.map V.str) (zs.map PyData.str)
  | [] => .nil
  | z :: r => .cons (.str _) (dp_strs r)
theorem own_shaped : SeqAt.shaped (.list (ownW.map PyData.str)) = true := by decide +kernel
theorem own_eqv : PyData.eqv (.list (ownW.map PyData.str)) (.list (ownW.map PyData.str)) = true := PySem.SeqAt.eqv_refl _ (SeqAt.canLay_of_shaped own_shaped)
theorem ite_no {c : Bool} {A B : Prop} (hc : c = true) (h : B) : if (!c) = true then A else B := by
  rw [hc]
  exact iteF h
structure Now (K : PySem.W.Frag) (a b : Addr) (ns : List Int) (H : Hp) : Prop where
  scr : SqB K H [b] a (ns.map V.int)
  box : Box H b
theorem Now.keep {a b : Addr} {ns : List Int} {H H' : Hp} (n : Now K a b ns H) (k : Keep b H H') : Now K a b ns H' := ⟨n.scr.keep List.mem_cons_self k, k.box⟩
theorem Now.same {a b : Addr} {ns : List Int} {H H' : Hp} (n : Now K a b ns H) (k : Same H H') : Now K a b ns H' := n.keep (Same.keep n.box k)

def spLaw (K : PySem.W.Frag) : Sp := fun vs H Q _ => ∃ (a : Addr) (ns : List Int), vs = [.ref a] ∧ SqL K H a (ns.map V.int) ∧ ns.length ≤ 63 ∧ ∀ H', Q (.bl true) H'
theorem ok_law {f : Addr} {fd : FuncData} (T : Tx mg) (G__law_cell_at : Ok P w K mg base CX0 "_law_cell_at" 1 ["_law_script", "_law_k"] (spCell K)) (G__law_box : Ok P w K mg base CX0 "_law_box" 1 ["_law_cell"] spBox) (G__law_take : Ok P w K mg base CX0 "_law_take" 1 ["_law_box_here", "_law_many"] spTake)
    (G__law_text : Ok P w K mg base CX0 "_law_text" 2 ["_law_box_here"] spText) (G__law_own : Ok P w K mg base CX0 "_law_own" 1 [] spOwn) (G_own_words : Ok P w K mg base CX0 "own_words" 1 [] spOwn) (G__law_texts_right : Ok P w K mg base CX0 "_law_texts_right" 3 ["_law_text_here", "_law_most"] spRight)
    (G__law_numbers_right : Ok P w K mg base CX0 "_law_numbers_right" 3 ["_law_box_here", "_law_text_here"] spNums) (G_is_name : Ok P w K mg base CX0 "is_name" 1 ["thing"] (spTell nameX)) (G_is_value : Ok P w K mg base CX0 "is_value" 1 ["thing"] (spTell valueX)) (G_plain_number : Ok P w K mg base CX0 "plain_number" 1 ["thing", "most"] spPlain)
    (F : Fun K "law" "law" slaw f fd) : FnOk P w K mg base CX0 4 f fd ["_law_script"] (spLaw K) := by
  refine F.ok sclaw (fun vs H Q E h => ?_) (fun cdv A outer s H vs Q E hr h => ?_)
  · obtain ⟨a, ns, rfl, _⟩ := h
    rfl
  · obtain ⟨a, ns, rfl, ha, hlen, q⟩ := h
    refine ⟨_, (pss_cons (ps_for PassesOwn.never rfl (pi_range1 (by rfl) T.b_range (pa_cons (pe_callB (call_max2 rfl) (by rfl) T.b_max PyProof.Rows.boot_max (pa_cons pe_int (pa_cons (pe_callB (call_min2 rfl) (by rfl) T.b_min PyProof.Rows.boot_min (pa_cons (pe_callB call_len_seq (by rfl) T.b_len PySem.boot_len (pa_cons (pv 0) pa_nil)) (pa_cons pe_int pa_nil))) pa_nil))) pa_nil)) (pg_name (i := 1) sclaw.nd rfl (.inl rfl)) (pss_cons (ps_set (i := 3) sclaw.nd rfl (.inl rfl) (pe_callO G__law_box (hr.mono (by decide)) (by rfl) pass0 (pa_cons (pe_callO G__law_cell_at (hr.mono (by decide)) (by rfl) pass0 (pa_cons (pv 0) (pa_cons (pv 1) pa_nil))) pa_nil)))
      (pss_cons (ps_set (i := 4) sclaw.nd rfl (.inl rfl) (pe_ix ix_list (pe_lst (pa_cons pe_int (pa_cons pe_int (pa_cons pe_int (pa_cons (pe_op op_add (pe_op op_pow pe_int pe_int) (pe_callO G__law_take (hr.mono (by decide)) (by rfl) pass0 (pa_cons (pv 3) (pa_cons pe_int pa_nil)))) (pa_cons (pe_callO G__law_take (hr.mono (by decide)) (by rfl) pass0 (pa_cons (pv 3) (pa_cons pe_int pa_nil))) pa_nil)))))) (pe_callO G__law_take (hr.mono (by decide)) (by rfl) pass0 (pa_cons (pv 3) (pa_cons pe_int pa_nil))) (fun _ _ => rfl)))
      (pss_cons (ps_set (i := 5) sclaw.nd rfl (.inl rfl) (pe_op op_sub (pe_op op_add (pv 4) (pe_callO G__law_take (hr.mono (by decide)) (by rfl) pass0 (pa_cons (pv 3) (pa_cons pe_int pa_nil)))) pe_int))
      (pss_cons (ps_set (i := 6) sclaw.nd rfl (.inl rfl) (pe_callO0 G__law_own (hr.mono (by decide)) (by rfl) pass0))
      (pss_cons (ps_set (i := 7) sclaw.nd rfl (.inl rfl) (pe_lst (pa_cons (pe_callO G__law_text (hr.mono (by decide)) (by rfl) pass0 (pa_cons (pv 3) pa_nil)) (pa_cons (pe_callTy call_str_int (by rfl) T.b_str PyProof.Rows.boot_str (pa_cons (pe_callB (call_max2 rfl) (by rfl) T.b_max PyProof.Rows.boot_max (pa_cons pe_int (pa_cons (pv 5) pa_nil))) pa_nil)) (pa_cons (pe_op op_add_str pe_str (pe_callTy call_str_int (by rfl) T.b_str PyProof.Rows.boot_str (pa_cons (pe_callB (call_max2 rfl) (by rfl) T.b_max PyProof.Rows.boot_max (pa_cons pe_int (pa_cons (pv 5) pa_nil))) pa_nil))) (pa_cons (pe_ix ix_list (pv 6) (pe_callO G__law_take (hr.mono (by decide)) (by rfl) pass0 (pa_cons (pv 3) (pa_cons (pe_callB call_len_seq (by rfl) T.b_len PySem.boot_len (pa_cons (pv 6) pa_nil)) pa_nil))) (fun _ _ => rfl)) (pa_cons pe_str (pa_cons pe_str pa_nil))))))))
      (pss_cons (ps_for PassesOwn.never rfl (pi_list (pe_op op_cat (pe_op op_cat (pv 7) (pe_lc (own := [("_law_text_here", 2)]) (g := gName 2) (tt := tYes) rfl sclaw.nd (pi_list (pv 7)) (blkOk_by (own := [("_law_text_here", 2)]) (N := ["_law_script", "_law_k", "_law_text_here", "_law_box_here", "_law_most", "_law_far", "_law_own_here", "_law_texts"]) (sc := defScope slaw) (by decide +kernel)) (fun _ _ _ _ _ => pg_name (i := 2) sclaw.nd rfl (Or.inl rfl)) (fun _ _ _ _ _ => pts_nil) (fun _ _ _ _ _ => (pe_op op_add_str (pv 2) pe_str)))) (pe_lst (pa_cons (pe_op op_add_str (pe_ix ix_list (pv 7) pe_int (fun _ _ => rfl)) pe_str) (pa_cons (pe_bm0 PySem.F.plainAttrs_str PySem.F.slot_str_upper PySem.F.type_str_upper mt_upper (pe_ix ix_list (pv 7) pe_int (fun _ _ => rfl))) (pa_cons (pe_ix ix_list (pv 7) pe_int (fun _ _ => rfl)) pa_nil)))))) (pg_name (i := 2) sclaw.nd rfl (.inl rfl)) (pss_one (ps_if (pt_not (pt_val (pe_callO G__law_texts_right (hr.mono (by decide)) (by rfl) pass0 (pa_cons (pv 2) (pa_cons (pv 4) pa_nil))))) (pss_one (ps_ret pe_bl)) pss_nil)))
      (pss_cons (ps_if (PW.pt (pw_or (pt_not (pt_val (pe_callO G__law_numbers_right (hr.mono (by decide)) (by rfl) pass0 (pa_cons (pv 3) (pa_cons (pe_ix ix_list (pv 7) pe_int (fun _ _ => rfl)) pa_nil))))) (pw_or1 (pt_cmpR (op_neD hr.units) (pe_callO0 G_own_words (hr.mono (by decide)) (by rfl) pass0) (pv 6) (nomark _))))) (pss_one (ps_ret pe_bl)) pss_nil)
      (pss_one (ps_expr (pe_bm0 PySem.F.plainAttrs_list PySem.F.slot_list_clear PySem.F.type_list_clear mt_clear (pe_callO0 G_own_words (hr.mono (by decide)) (by rfl) pass0))))))))))))
      (pss_cons (ps_for PassesOwn.never rfl (pi_list (pe_lst (pa_cons (pe_op op_rep_str pe_str pe_int) (pa_cons (pe_op op_add_str pe_str (pe_op op_rep_str pe_str pe_int)) (pa_cons (pe_op op_rep_str pe_str pe_int) pa_nil))))) (pg_name (i := 2) sclaw.nd rfl (.inl rfl)) (pss_one (ps_if (PW.pt (pw_or (pt_cmpR op_notN (pe_callO G_plain_number (hr.mono (by decide)) (by rfl) pass0 (pa_cons (pv 2) (pa_cons pe_int pa_nil))) pe_non (nomark _)) (pw_or (pt_cmpR op_notBl (pe_callO G_is_name (hr.mono (by decide)) (by rfl) pass0 (pa_cons (pv 2) pa_nil)) pe_bl (nomark _)) (pw_or1 (pt_cmpR op_notBl (pe_callO G_is_value (hr.mono (by decide)) (by rfl) pass0 (pa_cons (pv 2) pa_nil)) pe_bl (nomark _)))))) (pss_one (ps_ret pe_bl)) pss_nil)))
      (pss_one (ps_ret (pe_cmpR (op_eqD hr.units) (pe_callO0 G_own_words (hr.mono (by decide)) (by rfl) pass0) (pe_callO0 G__law_own (hr.mono (by decide)) (by rfl) pass0) (nomark _)))))), ?_⟩
    refine ⟨_, rfl, a, _, rfl, .inl ha, _, _, rfl, _, _, rfl, ?_⟩
    generalize hN : (if (if (40 : Int) < ((ns.map V.int).length : Int) then (40 : Int) else ((ns.map V.int).length : Int)) > 1 then (if (40 : Int) < ((ns.map V.int).length : Int) then (40 : Int) else ((ns.map V.int).length : Int)) else 1) = N
    have hN2 : 0 ≤ N ∧ N ≤ 40 := by
      rw [← hN]
      split <;> split <;> omega
    refine ⟨N, rfl, by omega, by omega, for_range (lo := 0) (n := N.toNat) (fun i σ H' => (∃ x1 x2 x3 x4 x5 x6 x7, σ = [some (.ref a), x1, x2, x3, x4, x5, x6, x7]) ∧ SqL K H' a (ns.map V.int)) ⟨⟨_, _, _, _, _, _, _, rfl⟩, ha⟩ (fun k σ H' hk hW => ?_) (fun σ H' hW => ?_)⟩
    · obtain ⟨⟨x1, x2, x3, x4, x5, x6, x7, rfl⟩, hs⟩ := hW
      rw [Int.zero_add]
      refine ⟨_, rfl, _, rfl, a, ns, k, rfl, hs, fun c => ⟨c, rfl, fun b H1 nb hb s1 => ?_⟩⟩
      have nw1 : Now K a b ns H1 := ⟨((SqB.nil hs).add nb).same s1, hb⟩
      -- most
      refine ⟨10, 20, rfl, rfl, ⟨by decide, by decide, by decide⟩, _, rfl, b, 9, rfl, hb, by decide, by decide, fun r1 H2 r10 r11 k2 => ⟨_, _, rfl, rfl, ?_⟩⟩
      refine ⟨_, rfl, b, 1000, rfl, k2.box, by decide, by decide, fun r2 H3 r20 r21 k3 => ?_⟩
      refine ⟨(by show 5 ≤ sizeLine; decide), fun p hp => ?_⟩
      have kk := (k2.trans k3).new (o := .lst [.int 0, .int 9, .int 400, .int (10 ^ (20 : Int).toNat + r1), .int r2]) hp
      have np : p ≠ b := by
        obtain ⟨o, e⟩ := k3.box.some
        exact (ne_of_none e hp).symm
      refine ⟨_, rfl, b, 5, rfl, kk.box, by decide, by decide, fun r3 H4 r30 r31 k4 => ?_⟩
      obtain ⟨m, hm, em⟩ := pick (xs := [0, 9, 400, 10 ^ (20 : Int).toNat + r1, r2]) r30 (by show r3 < 5; exact r31)
      have hm2 : 0 ≤ m ∧ m < 10 ^ 21 := by
        have e20 : (10 : Int) ^ (20 : Int).toNat = 100000000000000000000 := by decide +kernel
        have e21 : (10 : Int) ^ 21 = 1000000000000000000000 := by decide +kernel
        rw [e20] at hm
        rw [e21]
        simp only [List.mem_cons, List.not_mem_nil, or_false] at hm
        omega
      refine ⟨p, _, r3, .int m, rfl, rfl, SqL.of (k4.old p _ np upd_same), em, ?_⟩
      have nw4 := (nw1.keep kk).keep k4
      clear em hm
      obtain ⟨M, rfl⟩ := Int.eq_ofNat_of_zero_le hm2.1
      have hM : M < 10 ^ 21 := by
        have : ((10 : Int) ^ 21) = ((10 ^ 21 : Nat) : Int) := by decide +kernel
        omega
      -- far
      refine ⟨_, rfl, _, rfl, b, 3, rfl, nw4.box, by decide, by decide, fun r4 H5 r40 r41 k5 => ⟨_, _, rfl, rfl, _, _, rfl, rfl, ?_⟩⟩
      have nw5 := nw4.keep k5
      -- own
      refine ⟨rfl, fun po H6 s6 no ho => ?_⟩
      have nw6 := nw5.same s6
      have npo : po ≠ b := by
        obtain ⟨o, e⟩ := nw5.box.some
        exact (ne_of_none e no).symm
      -- texts
      refine ⟨_, rfl, b, rfl, nw6.box, fun z0 H7 hz0 k7 => ?_⟩
      have nw7 := nw6.keep k7
      have ho7 := k7.old _ _ npo ho
      have hfar : ∃ f : Nat, (if (M : Int) + r4 - 1 > 0 then (M : Int) + r4 - 1 else 0) = (f : Int) ∧ f < 10 ^ 22 := by
        refine ⟨(if (M : Int) + r4 - 1 > 0 then (M : Int) + r4 - 1 else 0).toNat, ?_, ?_⟩
        · split <;> omega
        · have e22 : (10 : Nat) ^ 22 = 10000000000000000000000 := by decide +kernel
          have e21 : (10 : Nat) ^ 21 = 1000000000000000000000 := by decide +kernel
          split <;> omega
      obtain ⟨fr, hfr, hfr2⟩ := hfar
      have zf : TxtOk 22 (PySem.Str.ofString (toString ((fr : Nat) : Int))) := .num (by decide) hfr2
      have lf : ((fr : Nat) : Int).natAbs.log2 < 1920 := by
        rw [Int.natAbs_natCast]
        exact log_small (Nat.lt_of_lt_of_le hfr2 (by decide +kernel))
      refine ⟨_, rfl, _, _, rfl, fr, congrArg (fun z => [V.int z]) hfr, lf, ?_⟩
      refine ⟨_, rfl, _, _, rfl, fr, congrArg (fun z => [V.int z]) hfr, lf, _, _, rfl, rfl, len_small (by have := zf.1; show 1 + _ ≤ 1000; omega), ?_⟩
      have z2 : TxtOk 23 (("0" : Str) ++ PySem.Str.ofString (toString ((fr : Nat) : Int))) := (show TxtOk 1 ("0" : Str) from ⟨by decide, by decide +kernel⟩).add zf |>.mono (by decide)
      generalize PySem.Str.ofString (toString ((fr : Nat) : Int)) = zF at *
      generalize (("0" : Str) ++ zF) = zG at *
      refine ⟨_, rfl, _, rfl, _, rfl, po, _, rfl, .inl (SqL.of ho7), b, _, rfl, nw7.box, by decide, by decide, fun r5 H8 r50 r51 k8 => ?_⟩
      have nw8 := nw7.keep k8
      obtain ⟨v, hv, ev⟩ := pickA (xs := ownV) r50 r51
      obtain ⟨z3, hz3, rfl⟩ := List.mem_map.mp hv
      obtain ⟨ok3, ok3u⟩ := own_txt hz3
      refine ⟨po, _, r5, .str z3, rfl, rfl, SqL.of (k8.old _ _ npo ho7), ev, (by show 6 ≤ sizeLine; decide), fun pt nt => ?_⟩
      have ho8 := same_upd (o := .lst ([z0, zF, zG, z3, ("" : Str), ("0" : Str)].map V.str)) nt _ _ (k8.old _ _ npo ho7)
      have gt : (upd H8 pt (.lst ([z0, zF, zG, z3, ("" : Str), ("0" : Str)].map V.str))) pt = some (.lst ([z0, zF, zG, z3, ("" : Str), ("0" : Str)].map V.str)) := upd_same
      have nw9 : Now K a b ns (upd H8 pt (.lst ([z0, zF, zG, z3, ("" : Str), ("0" : Str)].map V.str))) := nw8.same (same_upd nt)
      have ok6 : ∀ z ∈ [z0, zF, zG, z3, ("" : Str), ("0" : Str)], TxtOk 30 z := by
        intro z hz
        simp only [List.mem_cons, List.not_mem_nil, or_false] at hz
        rcases hz with rfl | rfl | rfl | rfl | rfl | rfl
        · exact hz0.mono (by decide)
        · exact zf.mono (by decide)
        · exact z2.mono (by decide)
        · exact ok3.mono (by decide)
        · exact ⟨by decide, by decide +kernel⟩
        · exact ⟨by decide, by decide +kernel⟩
      show tSeq _ _ _ _ (upd H8 pt (.lst ([z0, zF, zG, z3, ("" : Str), ("0" : Str)].map V.str)))
      generalize upd H8 pt (.lst ([z0, zF, zG, z3, ("" : Str), ("0" : Str)].map V.str)) = H9 at *
      -- the comprehension
      refine ⟨_, rfl, _, rfl, pt, rfl, ⟨_, SqL.of gt⟩, fun D hD => ?_⟩
      refine lc_list (K := K) (a := pt) (xs := [z0, zF, zG, z3, ("" : Str), ("0" : Str)].map V.str) (fun i H' => Same H9 H' ∧ ∃ zs : List Str, zs.length = i ∧ (∀ z ∈ zs, TxtOk 40 z) ∧ H' D = some (.lst (zs.map V.str))) ⟨Same.wr (Same.refl _) hD, [], rfl, (fun z hz => by cases hz), upd_same⟩ (fun i H' _ hP => SqL.of (hP.1 _ _ gt)) (fun i x H' hi hP => ?_) (fun H' hP => ?_)
      · obtain ⟨sH, zs, hl, hzs, hd⟩ := hP
        have mx := List.mem_of_getElem? hi
        obtain ⟨z, hz, rfl⟩ := List.mem_map.mp mx
        have okz := ok6 z hz
        have hi6 : i < 6 := by
          have := (List.getElem?_eq_some_iff.mp hi).1
          simpa using this
        refine ⟨rfl, ?_⟩
        refine ⟨_, rfl, _, _, rfl, rfl, len_small (by have := okz.1; show z.length + 1 ≤ 1000; omega), zs.map V.str, hd, (by rw [List.length_map]; exact small1000 (by omega)), Same.wr sH hD, zs ++ [z ++ ("\n" : Str)], by simp [hl], fun y hy => ?_, ?_⟩
        · rcases List.mem_append.mp hy with h | h
          · exact hzs y h
          · cases List.mem_singleton.mp h
            exact (okz.add (show TxtOk 1 ("\n" : Str) from ⟨by decide, by decide +kernel⟩)).mono (by decide)
        · rw [upd_same, List.map_append]
          rfl
      · obtain ⟨sH, zs, hl, hzs, hd⟩ := hP
        have hl6 : zs.length = 6 := hl
        refine ⟨pt, D, _, _, rfl, rfl, sH _ _ gt, hd, len_small (by simp [hl6]), fun q1 m1 => ?_⟩
        have gt1 := same_upd (o := .lst ([z0, zF, zG, z3, ("" : Str), ("0" : Str)].map V.str ++ zs.map V.str)) m1 _ _ (sH _ _ gt)
        refine ⟨_, rfl, pt, _, 3, .str z3, rfl, rfl, SqL.of gt1, atI_nat (j := 3) rfl, _, _, rfl, rfl, len_small (by have := ok3.1; show z3.length + 1 ≤ 1000; omega), ?_⟩
        refine ⟨_, rfl, pt, _, 3, .str z3, rfl, rfl, SqL.of gt1, atI_nat (j := 3) rfl, rfl, z3, rfl, rfl, (by have := ok3.1; omega), ?_⟩
        refine ⟨_, rfl, pt, _, 0, .str z0, rfl, rfl, SqL.of gt1, atI_nat (j := 0) rfl, (by show 3 ≤ sizeLine; decide), fun q2 m2 => ?_⟩
        refine ⟨q1, q2, _, _, rfl, rfl, same_upd m2 _ _ upd_same, upd_same, len_small (by simp [hl6]), fun q3 m3 => ?_⟩
        have eL : [z0, zF, zG, z3, ("" : Str), ("0" : Str)].map V.str ++ zs.map V.str ++ [V.str (z3 ++ ("x" : Str)), V.str (Txt.upper z3), V.str z0] = ([z0, zF, zG, z3, ("" : Str), ("0" : Str)] ++ zs ++ [z3 ++ ("x" : Str), Txt.upper z3, z0]).map V.str := by simp
        have okA : ∀ z ∈ [z0, zF, zG, z3, ("" : Str), ("0" : Str)] ++ zs ++ [z3 ++ ("x" : Str), Txt.upper z3, z0], TxtOk 1000 z := by
          intro z hz
          rcases List.mem_append.mp hz with h | h
          · rcases List.mem_append.mp h with h | h
            · exact (ok6 z h).mono (by decide)
            · exact (hzs z h).mono (by decide)
          · simp only [List.mem_cons, List.not_mem_nil, or_false] at h
            rcases h with rfl | rfl | rfl
            · exact (ok3.add (show TxtOk 1 ("x" : Str) from ⟨by decide, by decide +kernel⟩)).mono (by decide)
            · exact ok3u.mono (by decide)
            · exact hz0.mono (by decide)
        rw [eL]
        have gq : (upd (upd (upd H' q1 (.lst ([z0, zF, zG, z3, ("" : Str), ("0" : Str)].map V.str ++ zs.map V.str))) q2 (.lst [V.str (z3 ++ ("x" : Str)), V.str (Txt.upper z3), V.str z0])) q3 (.lst (([z0, zF, zG, z3, ("" : Str), ("0" : Str)] ++ zs ++ [z3 ++ ("x" : Str), Txt.upper z3, z0]).map V.str))) q3 = some (.lst (([z0, zF, zG, z3, ("" : Str), ("0" : Str)] ++ zs ++ [z3 ++ ("x" : Str), Txt.upper z3, z0]).map V.str)) := upd_same
        have sQ : Same H9 (upd (upd (upd H' q1 (.lst ([z0, zF, zG, z3, ("" : Str), ("0" : Str)].map V.str ++ zs.map V.str))) q2 (.lst [V.str (z3 ++ ("x" : Str)), V.str (Txt.upper z3), V.str z0])) q3 (.lst (([z0, zF, zG, z3, ("" : Str), ("0" : Str)] ++ zs ++ [z3 ++ ("x" : Str), Txt.upper z3, z0]).map V.str))) := Same.new (Same.new (Same.new sH m1) m2) m3
        generalize (upd (upd (upd H' q1 (.lst ([z0, zF, zG, z3, ("" : Str), ("0" : Str)].map V.str ++ zs.map V.str))) q2 (.lst [V.str (z3 ++ ("x" : Str)), V.str (Txt.upper z3), V.str z0])) q3 (.lst (([z0, zF, zG, z3, ("" : Str), ("0" : Str)] ++ zs ++ [z3 ++ ("x" : Str), Txt.upper z3, z0]).map V.str))) = HA at *
        generalize [z0, zF, zG, z3, ("" : Str), ("0" : Str)] ++ zs ++ [z3 ++ ("x" : Str), Txt.upper z3, z0] = all at *
        refine ⟨q3, rfl, ⟨_, SqL.of gq⟩, for_list (K := K) (a := q3) (xs := all.map V.str) (fun i σ H' => (∃ y2, σ = [some (.ref a), some (.int k), y2, some (.ref b), some (.int M), some (.int ((M : Int) + r4 - 1)), some (.ref po), some (.ref pt)]) ∧ Same HA H')
          ⟨⟨_, rfl⟩, Same.refl _⟩ (fun i σ H' _ hW => SqL.of (hW.2 _ _ gq)) (fun i x σ H' hi hW => ?_) (fun σ H' hW => ?_)⟩
        · obtain ⟨⟨y2, rfl⟩, sB⟩ := hW
          obtain ⟨z, hz, rfl⟩ := List.mem_map.mp (List.mem_of_getElem? hi)
          refine ⟨_, rfl, _, rfl, z, M, rfl, okA z hz, Nat.lt_of_lt_of_le hM (by decide +kernel), fun HB sC => ⟨true, rfl, iteF ?_⟩⟩
          exact ⟨⟨_, rfl⟩, sB.trans sC⟩
        · obtain ⟨⟨y2, rfl⟩, sB⟩ := hW
          have sAll := sQ.trans sB
          have nwB := nw9.same sAll
          refine ⟨_, rfl, _, rfl, pt, _, 0, .str z0, rfl, rfl, SqL.of (sAll _ _ gt), atI_nat (j := 0) rfl, b, z0, rfl, nwB.box, hz0.mono (by decide), fun HC kC => ⟨true, rfl, iteF ?_⟩⟩
          have nwC := nwB.keep kC
          have hoC := kC.old _ _ npo (sAll _ _ ho8)
          refine ⟨rfl, fun pw HD sD nw' how => ?_⟩
          refine ⟨_, rfl, _, _, .lst (SqL.of how) (dp_strs ownW), .lst (SqL.of (sD _ _ hoC)) (dp_strs ownW), own_shaped, own_shaped, _, rfl, ite_no own_eqv ?_⟩
          refine ⟨rfl, fun pw2 HE sE nw2' how2 => ?_⟩
          refine ⟨.inl ⟨rfl, _, SqL.of how2⟩, pw2, _, rfl, rfl, how2, ?_⟩
          refine ⟨⟨_, _, _, _, _, _, _, rfl⟩, ?_⟩
          exact ((((SqB.nil (nwC.same sD).scr.1).add nw2').same sE).wr List.mem_cons_self).1
    · obtain ⟨⟨x1, x2, x3, x4, x5, x6, x7, rfl⟩, hs⟩ := hW
      have m1 : MulOk ("9" : Str) 4301 := mul_ok (by decide) (by decide) (by decide)
      have m2 : MulOk ("0" : Str) 9999 := mul_ok (by decide) (by decide) (by decide)
      have m3 : MulOk ("0" : Str) 5000 := mul_ok (by decide) (by decide) (by decide)
      have l1 : (Txt.mul ("9" : Str) 4301).length = 4301 := mul_len (by decide) (by decide)
      have l2 : (Txt.mul ("0" : Str) 9999).length = 9999 := mul_len (by decide) (by decide)
      have l3 : (Txt.mul ("0" : Str) 5000).length = 5000 := mul_len (by decide) (by decide)
      refine ⟨_, _, rfl, rfl, m1, _, _, rfl, rfl, m2, _, _, rfl, rfl, (by rw [l2]; show 1 + 9999 ≤ sizeLine; decide), _, _, rfl, rfl, m3, (by show 3 ≤ sizeLine; decide), fun p hp => ?_⟩
      have l4 : (("1" : Str) ++ Txt.mul ("0" : Str) 9999).length = 10000 := by
        have e1 := TL.len_tl (("1" : Str) ++ Txt.mul ("0" : Str) 9999)
        rw [TL.tl_append, List.length_append, ← TL.len_tl, ← TL.len_tl, l2] at e1
        rw [e1]
        rfl
      have big : ∀ z ∈ [Txt.mul ("9" : Str) 4301, ("1" : Str) ++ Txt.mul ("0" : Str) 9999, Txt.mul ("0" : Str) 5000], 12 < z.length ∧ z.length ≤ sizeLine := by
        intro z hz
        simp only [List.mem_cons, List.not_mem_nil, or_false] at hz
        rcases hz with rfl | rfl | rfl
        · rw [l1]
          exact ⟨by decide, by decide⟩
        · rw [l4]
          exact ⟨by decide, by decide⟩
        · rw [l3]
          exact ⟨by decide, by decide⟩
      have gp : (upd H' p (.lst [V.str (Txt.mul ("9" : Str) 4301), V.str (("1" : Str) ++ Txt.mul ("0" : Str) 9999), V.str (Txt.mul ("0" : Str) 5000)])) p = some (.lst ([Txt.mul ("9" : Str) 4301, ("1" : Str) ++ Txt.mul ("0" : Str) 9999, Txt.mul ("0" : Str) 5000].map V.str)) := upd_same
      generalize (upd H' p (.lst [V.str (Txt.mul ("9" : Str) 4301), V.str (("1" : Str) ++ Txt.mul ("0" : Str) 9999), V.str (Txt.mul ("0" : Str) 5000)])) = HA at *
      generalize [Txt.mul ("9" : Str) 4301, ("1" : Str) ++ Txt.mul ("0" : Str) 9999, Txt.mul ("0" : Str) 5000] = zs at *
      refine ⟨p, rfl, ⟨_, SqL.of gp⟩, for_list (K := K) (a := p) (xs := zs.map V.str) (fun i σ H'' => (∃ y0 y1 y2 y3 y4 y5 y6 y7, σ = [y0, y1, y2, y3, y4, y5, y6, y7]) ∧ Same HA H'')
        ⟨⟨_, _, _, _, _, _, _, _, rfl⟩, Same.refl _⟩ (fun i σ H'' _ hW => SqL.of (hW.2 _ _ gp)) (fun i x σ H'' hi hW => ?_) (fun σ H'' hW => ?_)⟩
      · obtain ⟨⟨y0, y1, y2, y3, y4, y5, y6, y7, rfl⟩, sB⟩ := hW
        obtain ⟨z, hz, rfl⟩ := List.mem_map.mp (List.mem_of_getElem? hi)
        obtain ⟨b1, b2⟩ := big z hz
        have hl : ∀ y, V.str z = V.str y → y.length ≤ sizeLine := fun y e => by
          rw [← V.str.inj e]
          exact b2
        refine ⟨_, rfl, .str z, .str, 400, rfl, .str z, hl, by decide, fun Ha sa => ?_⟩
        have e1 : plainX (.str z) ((400 : Nat) : Int) = .non := plain_long (by omega)
        have e2 : nameX (.str z) = false := name_long b1
        have e3 : valueX (.str z) = false := value_long b1
        refine ⟨rfl, false, (by rw [e1]; rfl), iteF ?_⟩
        refine ⟨_, rfl, .str z, .str, rfl, .str z, hl, fun Hb sb => ⟨_, false, rfl, rfl, false, (by rw [e2]; rfl), iteF ?_⟩⟩
        refine ⟨_, rfl, .str z, .str, rfl, .str z, hl, fun Hc sc => ⟨_, false, rfl, rfl, false, (by rw [e3]; rfl), iteF ?_⟩⟩
        exact ⟨⟨_, _, _, _, _, _, _, _, rfl⟩, ((sB.trans sa).trans sb).trans sc⟩
      · obtain ⟨⟨y0, y1, y2, y3, y4, y5, y6, y7, rfl⟩, sB⟩ := hW
        refine ⟨rfl, fun p1 Ha sa n1 h1 => ⟨rfl, fun p2 Hb sb n2 h2 => ?_⟩⟩
        refine ⟨_, _, .lst (SqL.of (sb _ _ h1)) (dp_strs ownW), .lst (SqL.of h2) (dp_strs ownW), own_shaped, own_shaped, ?_⟩
        rw [own_eqv]
        exact q _

end
/-! ### the end -/
theorem tx_mk {K : PySem.W.Frag} {h : Heap} {mg : Str → Option Value} (X : K.In h) (G : h.Ns mainGlobals mg)
    (b_all : PySem.W.nsIn K mainGlobals "all" = some none)
    (b_bool : PySem.W.nsIn K mainGlobals "bool" = some none)
    (b_int : PySem.W.nsIn K mainGlobals "int" = some none)
    (b_isinstance : PySem.W.nsIn K mainGlobals "isinstance" = some none)
    (b_len : PySem.W.nsIn K mainGlobals "len" = some none)
    (b_list : PySem.W.nsIn K mainGlobals "list" = some none)
    (b_max : PySem.W.nsIn K mainGlobals "max" = some none)
    (b_min : PySem.W.nsIn K mainGlobals "min" = some none)
    (b_range : PySem.W.nsIn K mainGlobals "range" = some none)
    (b_repr : PySem.W.nsIn K mainGlobals "repr" = some none)
    (b_str : PySem.W.nsIn K mainGlobals "str" = some none)
    {t_LONGEST_NAME : Nat} (c_LONGEST_NAME : PySem.W.nsIn K mainGlobals "LONGEST_NAME" = some (some (.int 8 t_LONGEST_NAME)))
    {t_LONGEST_VALUE : Nat} (c_LONGEST_VALUE : PySem.W.nsIn K mainGlobals "LONGEST_VALUE" = some (some (.int 12 t_LONGEST_VALUE)))
    {t_LETTERS : Nat} (c_LETTERS : PySem.W.nsIn K mainGlobals "LETTERS" = some (some (.str (PySem.Str.ofString "abcdefghijklmnopqrstuvwxyz") t_LETTERS)))
    {t_FIGURES : Nat} (c_FIGURES : PySem.W.nsIn K mainGlobals "FIGURES" = some (some (.str (PySem.Str.ofString "0123456789") t_FIGURES))) : Tx mg :=
  { b_all := PySem.W.mg_none_of X G b_all, b_bool := PySem.W.mg_none_of X G b_bool, b_int := PySem.W.mg_none_of X G b_int, b_isinstance := PySem.W.mg_none_of X G b_isinstance, b_len := PySem.W.mg_none_of X G b_len, b_list := PySem.W.mg_none_of X G b_list, b_max := PySem.W.mg_none_of X G b_max, b_min := PySem.W.mg_none_of X G b_min, b_range := PySem.W.mg_none_of X G b_range, b_repr := PySem.W.mg_none_of X G b_repr, b_str := PySem.W.mg_none_of X G b_str, c_LONGEST_NAME := ⟨_, PySem.W.mg_of X G c_LONGEST_NAME⟩, c_LONGEST_VALUE := ⟨_, PySem.W.mg_of X G c_LONGEST_VALUE⟩, c_LETTERS := ⟨_, PySem.W.mg_of X G c_LETTERS⟩, c_FIGURES := ⟨_, PySem.W.mg_of X G c_FIGURES⟩ }
theorem all_mk {l : PySem.W.OpenLaw} {w : World} {K : PySem.W.Frag} {h : Heap} {mg : Str → Option Value} {fa a_OWN : Addr} {ddO : Option Addr} {itsO : Array Value} {nO : Nat} {slO : Array (Option Value)} (X : K.In h) (G : h.Ns mainGlobals mg) (hfa : mg "law" = some (.ref fa)) (T : Tx mg)
    (aO : PySem.W.nsIn K mainGlobals "OWN" = some (some (.ref a_OWN)))
    (lO : K.lookup a_OWN = some ⟨.type "tuple", ddO, .seq itsO nO, slO⟩)
    (zO : itsO.size ≤ sizeLine)
    (vO : Vals ownV itsO.toList)
    (d_is_whole : At K "is_whole" sis_whole)
    (d_is_within : At K "is_within" sis_within)
    (d_own_words : At K "own_words" sown_words)
    (d_is_name : At K "is_name" sis_name)
    (d_is_value : At K "is_value" sis_value)
    (d_plain_number : At K "plain_number" splain_number)
    (d__law_cell_at : At K "_law_cell_at" s_law_cell_at)
    (d__law_box : At K "_law_box" s_law_box)
    (d__law_take : At K "_law_take" s_law_take)
    (d__law_text : At K "_law_text" s_law_text)
    (d__law_own : At K "_law_own" s_law_own)
    (d__law_name_due : At K "_law_name_due" s_law_name_due)
    (d__law_value_due : At K "_law_value_due" s_law_value_due)
    (d__law_number_due : At K "_law_number_due" s_law_number_due)
    (d__law_same : At K "_law_same" s_law_same)
    (d__law_texts_right : At K "_law_texts_right" s_law_texts_right)
    (d__law_numbers_right : At K "_law_numbers_right" s_law_numbers_right)
    (d_law : At K "law" slaw) :
    ∃ fd : FuncData, (∀ (s : Shared) (v : Value), BindsTo s fd ⟨[v], []⟩ [("_law_script", v)]) ∧ ∀ base : Heap, K.In base → base.Ns mainGlobals mg → FnOk l.prog w K mg base CX0 4 fa fd ["_law_script"] (spLaw K) := by
  obtain ⟨f, fd, a, F⟩ := d_law.ex
  have e := hfa.symm.trans (PySem.W.mg_of X G a)
  cases e
  have F' := F
  obtain ⟨oc, od, kV, doc, pm, an, cdv, ct, osl, rfl, lk, hcd⟩ := F'.ex
  refine ⟨PySem.W.fnOf "law" "law" (defArgs slaw) (defBody slaw) (defScope slaw) .none kV doc pm an cdv ct, fun s v => .of_eq rfl, fun base _ _ => ?_⟩
  have g_is_whole : Ok l.prog w K mg base CX0 "is_whole" 1 ["thing"] spWhole := d_is_whole.ok X G (fun _ _ _ _ _ _ us hl => match us, hl with | [_], _ => rfl) fun _ _ F => ok_whole T F
  have g_is_within : Ok l.prog w K mg base CX0 "is_within" 2 ["thing", "low", "high"] spWithin := d_is_within.ok X G (fun _ _ _ _ _ _ us hl => match us, hl with | [_, _, _], _ => rfl) fun _ _ F => ok_within T g_is_whole F
  have g_own_words : Ok l.prog w K mg base CX0 "own_words" 1 [] spOwn := d_own_words.ok X G (fun _ _ _ _ _ _ us hl => match us, hl with | [], _ => rfl) fun _ _ F => ok_own T ⟨PySem.W.mg_of X G aO, fun _ => .inr ⟨_, itsO, nO, lO, rfl, rfl, zO, vO⟩⟩ F
  have g_is_name : Ok l.prog w K mg base CX0 "is_name" 1 ["thing"] (spTell nameX) := d_is_name.ok X G (fun _ _ _ _ _ _ us hl => match us, hl with | [_], _ => rfl) fun _ _ F => ok_name T ⟨PySem.W.mg_of X G aO, fun _ => .inr ⟨_, itsO, nO, lO, rfl, rfl, zO, vO⟩⟩ F
  have g_is_value : Ok l.prog w K mg base CX0 "is_value" 1 ["thing"] (spTell valueX) := d_is_value.ok X G (fun _ _ _ _ _ _ us hl => match us, hl with | [_], _ => rfl) fun _ _ F => ok_value T F
  have g_plain_number : Ok l.prog w K mg base CX0 "plain_number" 1 ["thing", "most"] spPlain := d_plain_number.ok X G (fun _ _ _ _ _ _ us hl => match us, hl with | [_, _], _ => rfl) fun _ _ F => ok_plain T F
  have g__law_cell_at : Ok l.prog w K mg base CX0 "_law_cell_at" 1 ["_law_script", "_law_k"] (spCell K) := d__law_cell_at.ok X G (fun _ _ _ _ _ _ us hl => match us, hl with | [_, _], _ => rfl) fun _ _ F => ok_cell T F
  have g__law_box : Ok l.prog w K mg base CX0 "_law_box" 1 ["_law_cell"] spBox := d__law_box.ok X G (fun _ _ _ _ _ _ us hl => match us, hl with | [_], _ => rfl) fun _ _ F => ok_box T F
  have g__law_take : Ok l.prog w K mg base CX0 "_law_take" 1 ["_law_box_here", "_law_many"] spTake := d__law_take.ok X G (fun _ _ _ _ _ _ us hl => match us, hl with | [_, _], _ => rfl) fun _ _ F => ok_take T F
  have g__law_text : Ok l.prog w K mg base CX0 "_law_text" 2 ["_law_box_here"] spText := d__law_text.ok X G (fun _ _ _ _ _ _ us hl => match us, hl with | [_], _ => rfl) fun _ _ F => ok_text T g__law_take F
  have g__law_own : Ok l.prog w K mg base CX0 "_law_own" 1 [] spOwn := d__law_own.ok X G (fun _ _ _ _ _ _ us hl => match us, hl with | [], _ => rfl) fun _ _ F => ok_lown T F
  have g__law_name_due : Ok l.prog w K mg base CX0 "_law_name_due" 2 ["_law_text_here"] (spDue nameB) := d__law_name_due.ok X G (fun _ _ _ _ _ _ us hl => match us, hl with | [_], _ => rfl) fun _ _ F => ok_namedue T g__law_own F
  have g__law_value_due : Ok l.prog w K mg base CX0 "_law_value_due" 1 ["_law_text_here"] (spDue valueB) := d__law_value_due.ok X G (fun _ _ _ _ _ _ us hl => match us, hl with | [_], _ => rfl) fun _ _ F => ok_valuedue T F
  have g__law_number_due : Ok l.prog w K mg base CX0 "_law_number_due" 1 ["_law_text_here", "_law_most"] spNumDue := d__law_number_due.ok X G (fun _ _ _ _ _ _ us hl => match us, hl with | [_, _], _ => rfl) fun _ _ F => ok_numdue T F
  have g__law_same : Ok l.prog w K mg base CX0 "_law_same" 1 ["_law_found", "_law_due"] spSame := d__law_same.ok X G (fun _ _ _ _ _ _ us hl => match us, hl with | [_, _], _ => rfl) fun _ _ F => ok_same T F
  have g__law_texts_right : Ok l.prog w K mg base CX0 "_law_texts_right" 3 ["_law_text_here", "_law_most"] spRight := d__law_texts_right.ok X G (fun _ _ _ _ _ _ us hl => match us, hl with | [_, _], _ => rfl) fun _ _ F => ok_right T g_is_name g_is_value g_is_whole g_is_within g_plain_number g__law_name_due g__law_value_due g__law_number_due g__law_same F
  have g__law_numbers_right : Ok l.prog w K mg base CX0 "_law_numbers_right" 3 ["_law_box_here", "_law_text_here"] spNums := d__law_numbers_right.ok X G (fun _ _ _ _ _ _ us hl => match us, hl with | [_, _], _ => rfl) fun _ _ F => ok_nums T g_is_name g_is_value g_is_whole g_is_within g_plain_number g__law_take g__law_same F
  exact ok_law T g__law_cell_at g__law_box g__law_take g__law_text g__law_own g_own_words g__law_texts_right g__law_numbers_right g_is_name g_is_value g_plain_number F
end My
open PySem PySem.W PyProof.Rows
set_option maxHeartbeats 0 in
theorem PySem.Challenge.cw_leastlore_k11_words_told_holds : PySem.Challenge.rw_leastlore_k11_words_told.Holds := by
  w_on; o_law; k_head; (case hw => w_witness2)
  k_fill
  refine L2.walk_ofB (l := PySem.Challenge.rw_leastlore_k11_words_told) (n := 63) (k := 4) (x := "_law_script") (CX := fun _ => L2.CX0) (sp := fun w => My.spLaw _) rfl (by decide) rfl ⟨rfl, by decide, by decide⟩ (fun w h Y => PySem.W.kIn_of Y) ?F (fun _ _ a ns hl _ _ hS => ⟨a, ns, rfl, hS, hl, fun _ => rfl⟩) (fun _ _ _ _ _ h => h)
  case F =>
    intro w mg fa h KX G hmg
    refine' My.all_mk KX G hmg ?T ?f0 ?f1 ?f2 ?f3 ?d_is_whole ?d_is_within ?d_own_words ?d_is_name ?d_is_value ?d_plain_number ?d__law_cell_at ?d__law_box ?d__law_take ?d__law_text ?d__law_own ?d__law_name_due ?d__law_value_due ?d__law_number_due ?d__law_same ?d__law_texts_right ?d__law_numbers_right ?d_law
    (case T =>
      refine' My.tx_mk KX G ?b_all ?b_bool ?b_int ?b_isinstance ?b_len ?b_list ?b_max ?b_min ?b_range ?b_repr ?b_str ?c_LONGEST_NAME ?c_LONGEST_VALUE ?c_LETTERS ?c_FIGURES
      (case b_all => k_is)
      (case b_bool => k_is)
      (case b_int => k_is)
      (case b_isinstance => k_is)
      (case b_len => k_is)
      (case b_list => k_is)
      (case b_max => k_is)
      (case b_min => k_is)
      (case b_range => k_is)
      (case b_repr => k_is)
      (case b_str => k_is)
      (case c_LONGEST_NAME => k_is)
      (case c_LONGEST_VALUE => k_is)
      (case c_LETTERS => k_is)
      (case c_FIGURES => k_is))
    (case f0 => first | k_is | rfl)
    (case f1 => first | k_is | rfl)
    (case f2 => decide)
    (case f3 => (unfold My.ownV My.ownW; repeat (first | exact .nil | refine .cons ⟨_, rfl⟩ ?_)))
    (case d_is_whole => refine' My.at_mk ?a ?l ?c ?k; (case a => k_is); (case l => k_is); (case c => k_is); (case k => k_is))
    (case d_is_within => refine' My.at_mk ?a ?l ?c ?k; (case a => k_is); (case l => k_is); (case c => k_is); (case k => k_is))
    (case d_own_words => refine' My.at_mk ?a ?l ?c ?k; (case a => k_is); (case l => k_is); (case c => k_is); (case k => k_is))
    (case d_is_name => refine' My.at_mk ?a ?l ?c ?k; (case a => k_is); (case l => k_is); (case c => k_is); (case k => k_is))
    (case d_is_value => refine' My.at_mk ?a ?l ?c ?k; (case a => k_is); (case l => k_is); (case c => k_is); (case k => k_is))
    (case d_plain_number => refine' My.at_mk ?a ?l ?c ?k; (case a => k_is); (case l => k_is); (case c => k_is); (case k => k_is))
    (case d__law_cell_at => refine' My.at_mk ?a ?l ?c ?k; (case a => k_is); (case l => k_is); (case c => k_is); (case k => k_is))
    (case d__law_box => refine' My.at_mk ?a ?l ?c ?k; (case a => k_is); (case l => k_is); (case c => k_is); (case k => k_is))
    (case d__law_take => refine' My.at_mk ?a ?l ?c ?k; (case a => k_is); (case l => k_is); (case c => k_is); (case k => k_is))
    (case d__law_text => refine' My.at_mk ?a ?l ?c ?k; (case a => k_is); (case l => k_is); (case c => k_is); (case k => k_is))
    (case d__law_own => refine' My.at_mk ?a ?l ?c ?k; (case a => k_is); (case l => k_is); (case c => k_is); (case k => k_is))
    (case d__law_name_due => refine' My.at_mk ?a ?l ?c ?k; (case a => k_is); (case l => k_is); (case c => k_is); (case k => k_is))
    (case d__law_value_due => refine' My.at_mk ?a ?l ?c ?k; (case a => k_is); (case l => k_is); (case c => k_is); (case k => k_is))
    (case d__law_number_due => refine' My.at_mk ?a ?l ?c ?k; (case a => k_is); (case l => k_is); (case c => k_is); (case k => k_is))
    (case d__law_same => refine' My.at_mk ?a ?l ?c ?k; (case a => k_is); (case l => k_is); (case c => k_is); (case k => k_is))
    (case d__law_texts_right => refine' My.at_mk ?a ?l ?c ?k; (case a => k_is); (case l => k_is); (case c => k_is); (case k => k_is))
    (case d__law_numbers_right => refine' My.at_mk ?a ?l ?c ?k; (case a => k_is); (case l => k_is); (case c => k_is); (case k => k_is))
    (case d_law => refine' My.at_mk ?a ?l ?c ?k; (case a => k_is); (case l => k_is); (case c => k_is); (case k => k_is))
